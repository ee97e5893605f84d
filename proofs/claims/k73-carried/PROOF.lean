import PyProof.Rows.All
import Wide.All
import OpenK.AllK
import Wide.FinOn
import HandS.ForMost
import HandS.ForExc
import HandS.TupAny
import HandS.TupMul
import HandS.Wide
import HandS.Defaults
import HandS.StrMore
import HandS.Zip
import HandS.Rev
import HandS.SetFor
import HandS.TryMany
import HandS.More
import KE.DataMinMax
import KE.SortData
import HandS.ExcField
import HandS.Deep
import PyProof.Rows.InDataRows
import KE.DataCmp
import KE.KTupSum
import HandS.IsInst
import PyProof.MaxThree
import HandS.SortKw
import HandS.Walk
import HandS.ExcOwn
import HandS.ExcCtx
import HandS.Flow
import HandS.Conv
import KE.KExcSuper
import HandS.ExcInit
import HandS.HeadHook4
import HandS.Codes
import HandS.HeadHook1
import HandS.HeadHook2
import HandS.Head0
import HandS.Head1
import HandS.Head2
import HandS.HeadEnd
import HandS.Ends
import KE.KStateDown
import HandS.Words
import HandS.WordsExc
import PySem.Challenge.RW_skerrylight_k73_carried
section
set_option autoImplicit false
set_option linter.all false
/-! SkCore: a small language of my own (data, expressions, statements) and its evaluator. -/
namespace Sk
open PySem (Str)

/-- a simple key -/
abbrev Ky := Sum Int Str
/-- a value: immutable data by structure, a list or dict by its place in the store; xo: a caught exception, by its one field -/
inductive D where
  | non | bl (b : Bool) | int (i : Int) | str (s : Str) | tup (xs : List D) | ref (i : Nat) | xo (f : String) (k : Ky)
  deriving Inhabited
/-- what stands in the store -/
inductive O where
  | lst (xs : List D)
  | ro (xs : List D)
  | dk (kvs : List (Ky × D))
  | dt (kvs : List (List Ky × D))
  | ins (c : String) (fs : List (String × D))
abbrev Store := List O
abbrev Env := List (Option D)
/-- an exception: its class, its one field -/
structure Exc where
  cls : String
  f : String
  k : Ky
inductive Res (α : Type) where
  | ok (a : α) (M : Store)
  | exc (x : Exc) (M : Store)
  | bad
def Res.bind {α β : Type} : Res α → (α → Store → Res β) → Res β
  | .ok a M, f => f a M
  | .exc x M, _ => .exc x M
  | .bad, _ => .bad
inductive Out where
  | nx (ρ : Env) (M : Store)
  | rt (d : D) (M : Store)
  | bk (ρ : Env) (M : Store)
  | ct (ρ : Env) (M : Store)
  | exc (x : Exc) (ρ : Env) (M : Store)
  | bad

def lim : Nat := 16777216

mutual
def D.pure : D → Bool
  | .tup xs => D.pures xs
  | .ref _ => false
  | .xo _ _ => false
  | .non => true
  | .bl _ => true
  | .int _ => true
  | .str _ => true
def D.pures : List D → Bool
  | [] => true
  | x :: xs => x.pure && D.pures xs
end
mutual
/-- depth at most n -/
def D.dle : D → Nat → Bool
  | .tup xs, n => match n with
    | 0 => false
    | n + 1 => D.dles xs n
  | .non, _ => true
  | .bl _, _ => true
  | .int _, _ => true
  | .str _, _ => true
  | .ref _, _ => true
  | .xo _ _, _ => true
def D.dles : List D → Nat → Bool
  | [], _ => true
  | x :: xs, n => x.dle n && D.dles xs n
end
mutual
/-- Python's == of data -/
def D.eqv : D → D → Bool
  | .non, b => (match b with | .non => true | _ => false)
  | .bl x, b => (match b with | .bl y => x == y | .int j => (if x then 1 else 0) == j | _ => false)
  | .int i, b => (match b with | .int j => i == j | .bl y => i == (if y then 1 else 0) | _ => false)
  | .str s, b => (match b with | .str t => s == t | _ => false)
  | .tup xs, b => (match b with | .tup ys => D.eqvs xs ys | _ => false)
  | .ref _, _ => false
  | .xo _ _, _ => false
def D.eqvs : List D → List D → Bool
  | [], ys => (match ys with | [] => true | _ :: _ => false)
  | x :: xs, ys => (match ys with | [] => false | y :: ys => D.eqv x y && D.eqvs xs ys)
end
mutual
/-- can be compared, place by place -/
def D.alike : D → D → Bool
  | .non, b => (match b with | .non => true | _ => false)
  | .bl _, b => (match b with | .bl _ => true | _ => false)
  | .int _, b => (match b with | .int _ => true | _ => false)
  | .str _, b => (match b with | .str _ => true | _ => false)
  | .tup xs, b => (match b with | .tup ys => D.alikes xs ys | _ => false)
  | .ref _, _ => false
  | .xo _ _, _ => false
def D.alikes : List D → List D → Bool
  | [], _ => true
  | x :: xs, ys => (match ys with | [] => true | y :: ys => D.alike x y && D.alikes xs ys)
end
mutual
/-- Python's < of alike data -/
def D.lt : D → D → Bool
  | .bl x, b => (match b with | .bl y => !x && y | _ => false)
  | .int i, b => (match b with | .int j => decide (i < j) | _ => false)
  | .str s, b => (match b with | .str t => decide (s.cps.toList < t.cps.toList) | _ => false)
  | .tup xs, b => (match b with | .tup ys => D.lts xs ys | _ => false)
  | .non, _ => false
  | .ref _, _ => false
  | .xo _ _, _ => false
def D.lts : List D → List D → Bool
  | [], ys => (match ys with | [] => false | _ :: _ => true)
  | x :: xs, ys => (match ys with | [] => false | y :: ys => if D.eqv x y then D.lts xs ys else D.lt x y)
end
def D.isNon : D → Bool
  | .non => true
  | _ => false
def allAlike (xs : List D) : Bool := xs.all fun a => xs.all fun b => D.alike a b

def O.pure : O → Bool
  | .lst xs => D.pures xs
  | .ro xs => D.pures xs
  | .dk kvs => kvs.all fun p => p.2.pure
  | .dt kvs => kvs.all fun p => p.2.pure
  | .ins _ fs => fs.all fun p => p.2.pure

/-- behind an expression, a call: what was made and is not held is forgotten; n: the store's size ahead of it -/
def gc (n : Nat) (d : D) (M : Store) : Res D :=
  if d.pure = true then .ok d (M.take n) else
  match d with
  | .ref j => if j < n then .ok d (M.take n) else
    (match M[j]? with
    | some o => if o.pure = true then .ok (.ref n) (M.take n ++ [o]) else .ok d M
    | none => .bad)
  | _ => .ok d M
def Res.gc (n : Nat) : Res D → Res D
  | .ok d M => Sk.gc n d M
  | .exc x M => .exc x (M.take n)
  | .bad => .bad

/-! ### reading -/
def listAt (M : Store) (i : Nat) : Option (List D) := match M[i]? with
  | some (.lst xs) => some xs
  | some (.ro xs) => some xs
  | _ => none
/-- the items of a tuple or a list -/
def seqOf (M : Store) : D → Option (List D)
  | .tup xs => some xs
  | .ref i => listAt M i
  | _ => none
/-- the place that an index means among n items -/
def ixN (n : Nat) (i : Int) : Option Nat :=
  let j := if i < 0 then i + n else i
  if 0 ≤ j ∧ j < n then some j.toNat else none
/-- the item there -/
def atI {α : Type} (xs : List α) (i : Int) : Option α := match ixN xs.length i with
  | some j => xs[j]?
  | none => none
/-- a slice's end, within n items; d where it is left out -/
def sIx (n d : Nat) : Option Int → Nat
  | some v => if 0 ≤ v then min v.toNat n else (v + n).toNat
  | none => d
/-- a slice -/
def cut {α : Type} (xs : List α) (lo hi : Option Int) : List α :=
  let a := sIx xs.length 0 lo
  (xs.drop a).take (sIx xs.length xs.length hi - a)
def chars (s : Str) : List D := s.cps.toList.map fun c => .str ⟨#[c]⟩
def keyOf : D → Option Ky
  | .int i => some (.inl i)
  | .str s => some (.inr s)
  | _ => none
def keysOf : List D → Option (List Ky)
  | [] => some []
  | d :: ds => match keyOf d, keysOf ds with
    | some k, some ks => some (k :: ks)
    | _, _ => none
def kD : Ky → D
  | .inl i => .int i
  | .inr s => .str s
section
variable {κ : Type} [DecidableEq κ]
def getK (kvs : List (κ × D)) (k : κ) : Option D := match kvs with
  | [] => none
  | p :: r => if p.1 = k then some p.2 else getK r k
def putK (kvs : List (κ × D)) (k : κ) (v : D) : List (κ × D) := match getK kvs k with
  | some _ => kvs.map fun p => if p.1 = k then (k, v) else p
  | none => kvs ++ [(k, v)]
end
/-- o[k] of the dict o: none: no dict or no key; some none: not there -/
def dictGet (M : Store) (i : Nat) (k : D) : Option (Option D) := match M[i]? with
  | some (.dk kvs) => (keyOf k).map fun q => getK kvs q
  | some (.dt _) => none
  | _ => none

/-! ### truth -/
def truth (M : Store) : D → Option Bool
  | .non => some false
  | .bl b => some b
  | .int i => some (i != 0)
  | .str s => some ((s.length : Int) != 0)
  | .tup xs => some (!xs.isEmpty)
  | .xo _ _ => none
  | .ref i => match M[i]? with
    | some (.lst xs) => some (!xs.isEmpty)
    | some (.ro xs) => some (!xs.isEmpty)
    | some (.dk kvs) => some (!kvs.isEmpty)
    | _ => none
def truthR (d : D) (M : Store) : Res Bool := match truth M d with
  | some b => .ok b M
  | none => .bad

/-! ### operators -/
inductive BOp where
  | add | sub | mul | fdiv | mod | pow
  deriving DecidableEq
inductive COp where
  | eq | ne | lt | le | gt | ge | is | isnot | in | notin
  deriving DecidableEq
def smallI (i : Int) : Bool := decide (-(2 ^ 64) < i ∧ i < 2 ^ 64)
def okMul (i j : Int) : Bool := smallI i || smallI j || decide (i.natAbs.log2 + j.natAbs.log2 < 1000000)
def okDiv (j : Int) : Bool := decide (0 < j ∧ j < 1073741824) || decide (0 < j ∧ j.natAbs.log2 < 9000)
def okPow (i j : Int) : Bool := decide (0 ≤ j ∧ j ≤ 1000000 ∧ i.natAbs < 2 ^ 64)
def alloc (M : Store) (o : O) : Res D := .ok (.ref M.length) (M ++ [o])
def strRep (s : Str) (k : Int) : Str := ⟨((List.replicate k.toNat s.cps.toList).flatten).toArray⟩
def addD (a b : D) (M : Store) : Res D := match a, b with
  | .int i, .int j => .ok (.int (i + j)) M
  | .str s, .str t => if s.length + t.length ≤ lim then .ok (.str (s ++ t)) M else .bad
  | .tup xs, .tup ys => if xs.length + ys.length ≤ lim then .ok (.tup (xs ++ ys)) M else .bad
  | .ref i, .ref j => (match M[i]?, M[j]? with
    | some (.lst xs), some (.lst ys) => if xs.length + ys.length ≤ lim then alloc M (.lst (xs ++ ys)) else .bad
    | _, _ => .bad)
  | _, _ => .bad
def mulD (a b : D) (M : Store) : Res D := match a, b with
  | .int i, .int j => if okMul i j = true then .ok (.int (i * j)) M else .bad
  | .tup xs, .int k => if xs ≠ [] ∧ 2 ≤ k ∧ k ≤ 1000 ∧ xs.length ≤ 1000 then .ok (.tup (List.replicate k.toNat xs).flatten) M else .bad
  | .ref i, .int k => (match M[i]? with
    | some (.lst xs) => if -(2 ^ 63) ≤ k ∧ k < 2 ^ 63 ∧ xs.length * k.toNat ≤ lim then alloc M (.lst (List.replicate k.toNat xs).flatten) else .bad
    | _ => .bad)
  | .str s, .int k => if k ≤ 1000000 ∧ -1000000 ≤ k ∧ s.length ≤ 16 then .ok (.str (strRep s k)) M else .bad
  | _, _ => .bad
def binD (o : BOp) (a b : D) (M : Store) : Res D := match o with
  | .add => addD a b M
  | .sub => (match a, b with
    | .int i, .int j => .ok (.int (i - j)) M
    | _, _ => .bad)
  | .mul => mulD a b M
  | .fdiv => (match a, b with
    | .int i, .int j => if okDiv j = true then .ok (.int (i / j)) M else .bad
    | _, _ => .bad)
  | .mod => (match a, b with
    | .int i, .int j => if 0 < j then .ok (.int (i % j)) M else .bad
    | _, _ => .bad)
  | .pow => (match a, b with
    | .int i, .int j => if okPow i j = true then .ok (.int (i ^ j.toNat)) M else .bad
    | _, _ => .bad)
/-- == : none where it is not said -/
def eqM (M : Store) (a b : D) : Option Bool := match a, b with
  | .ref i, .ref j => (match listAt M i, listAt M j with
    | some xs, some ys => if D.pures xs = true ∧ D.pures ys = true ∧ D.dles xs 50 = true ∧ D.dles ys 50 = true then some (D.eqvs xs ys) else none
    | _, _ => none)
  | .ref i, b => (match listAt M i with
    | some xs => if D.pures xs = true ∧ b.pure = true ∧ D.dles xs 50 = true ∧ b.dle 50 = true then some false else none
    | none => none)
  | a, .ref j => (match listAt M j with
    | some ys => if a.pure = true ∧ D.pures ys = true ∧ a.dle 50 = true ∧ D.dles ys 50 = true then some false else none
    | none => none)
  | a, b => if a.pure = true ∧ b.pure = true ∧ a.dle 50 = true ∧ b.dle 50 = true then some (D.eqv a b) else none
def okLt (a b : D) : Bool := D.alike a b && !a.isNon && a.pure && b.pure && a.dle 50 && b.dle 50
/-- y in s: is the code list y within s -/
def isInfix (y : List Nat) : List Nat → Bool
  | [] => y.isEmpty
  | c :: s => y.isPrefixOf (c :: s) || isInfix y s
def inM (M : Store) (a b : D) : Option Bool := match b with
  | .str t => (match a with
    | .str s => if s.length = 1 then some (decide (s.cps.getD 0 0 ∈ t.cps.toList)) else none
    | _ => none)
  | .tup ys => if a.pure = true ∧ D.pures ys = true ∧ a.dle 50 = true ∧ D.dles ys 50 = true then some (ys.any fun y => D.eqv y a) else none
  | .ref i => (match M[i]? with
    | some (.lst ys) => if a.pure = true ∧ D.pures ys = true ∧ a.dle 50 = true ∧ D.dles ys 50 = true then some (ys.any fun y => D.eqv y a) else none
    | some (.ro ys) => if a.pure = true ∧ D.pures ys = true ∧ a.dle 50 = true ∧ D.dles ys 50 = true then some (ys.any fun y => D.eqv y a) else none
    | _ => (dictGet M i a).map fun o => o.isSome)
  | _ => none
def optB (M : Store) : Option Bool → Res D
  | some b => .ok (.bl b) M
  | none => .bad
def cmpD (o : COp) (a b : D) (M : Store) : Res D := match o with
  | .eq => optB M (eqM M a b)
  | .ne => optB M ((eqM M a b).map fun c => !c)
  | .lt => if okLt a b = true then .ok (.bl (D.lt a b)) M else .bad
  | .le => if okLt a b = true then .ok (.bl (!D.lt b a)) M else .bad
  | .gt => if okLt a b = true then .ok (.bl (D.lt b a)) M else .bad
  | .ge => if okLt a b = true then .ok (.bl (!D.lt a b)) M else .bad
  | .is => (match b with
    | .non => .ok (.bl a.isNon) M
    | .bl y => (match a with
      | .bl x => .ok (.bl (x == y)) M
      | _ => .bad)
    | _ => .bad)
  | .isnot => (match b with
    | .non => .ok (.bl (!a.isNon)) M
    | .bl y => (match a with
      | .bl x => .ok (.bl (!(x == y))) M
      | _ => .bad)
    | _ => .bad)
  | .in => optB M (inM M a b)
  | .notin => optB M ((inM M a b).map fun c => !c)
def ixL (xs : List D) (b : D) (M : Store) : Res D := match b with
  | .int i => (match atI xs i with
    | some d => .ok d M
    | none => .bad)
  | _ => .bad
def ixD (a b : D) (M : Store) : Res D := match a, b with
  | .str s, .int i => (match atI s.cps.toList i with
    | some c => .ok (.str ⟨#[c]⟩) M
    | none => .bad)
  | .tup xs, .int i => (match atI xs i with
    | some d => .ok d M
    | none => .bad)
  | .ref j, b => (match M[j]? with
    | some (.lst xs) => ixL xs b M
    | some (.ro xs) => ixL xs b M
    | _ => (match dictGet M j b with
      | some (some d) => .ok d M
      | _ => .bad))
  | _, _ => .bad
def slcD (a : D) (lo hi : Option Int) (M : Store) : Res D := match a with
  | .str s => .ok (.str ⟨(cut s.cps.toList lo hi).toArray⟩) M
  | .tup xs => .ok (.tup (cut xs lo hi)) M
  | .ref i => (match listAt M i with
    | some xs => alloc M (.lst (cut xs lo hi))
    | none => .bad)
  | _ => .bad

/-! ### built-in functions -/
inductive Blt where
  | len | tuple | list | sorted | min | max | minD | sum | abs | int | str | ord | any | all | lcm | gcd | rngT | rngL
  deriving DecidableEq
def sumI : List D → Option Int
  | [] => some 0
  | .int i :: ds => (sumI ds).map fun s => i + s
  | _ :: _ => none
def intOf : D → Option Int
  | .int i => some i
  | _ => none
def intsOf : List D → Option (List Int)
  | [] => some []
  | .int i :: ds => (intsOf ds).map fun s => i :: s
  | _ :: _ => none
def boolsOf : List D → Option (List Bool)
  | [] => some []
  | .bl b :: ds => (boolsOf ds).map fun s => b :: s
  | _ :: _ => none
def rngD (lo : Int) (n : Nat) : List D := (List.range n).map fun (i : Nat) => D.int (lo + (i : Int))
def okR (i : Int) : Bool := decide (-(2 ^ 62) ≤ i ∧ i < 2 ^ 62)
/-- the ints of a short range -/
def rngs : List D → Option (List D)
  | [.int j] => if okR j = true ∧ j.toNat ≤ lim then some (rngD 0 j.toNat) else none
  | [.int i, .int j] => if okR i = true ∧ okR j = true ∧ (j - i).toNat ≤ lim then some (rngD i (j - i).toNat) else none
  | _ => none
def bestMin (x : D) (xs : List D) : D := xs.foldl (fun a y => if D.lt y a = true then y else a) x
def bestMax (x : D) (xs : List D) : D := xs.foldl (fun a y => if D.lt a y = true then y else a) x
def okOrd (xs : List D) : Bool := allAlike xs && D.pures xs && D.dles xs 50 && xs.all fun d => !d.isNon
def D.isTup : D → Bool
  | .tup xs => !xs.isEmpty
  | _ => false
def D.noTup : D → Bool
  | .tup _ => false
  | .non => false
  | _ => true
/-- can be sorted -/
def okSort (xs : List D) : Bool := okOrd xs && (xs.all D.isTup || xs.all D.noTup)
/-- tuples, the first of them empty -/
def okSortE (xs : List D) : Bool := okOrd xs && (match xs with
  | .tup [] :: _ => true
  | _ => false)
def okSrt (xs : List D) : Bool := okSort xs || okSortE xs
def sortD (xs : List D) : List D := xs.mergeSort fun a b => !D.lt b a
/-- a text that the library takes as such -/
def strFit (s : Str) : Bool := decide (s.length ≤ lim) && s.cps.all (· < 0x110000)
def keysFit (kvs : List (Ky × D)) : Bool := kvs.all fun p => match p.1 with
  | .inl _ => true
  | .inr s => strFit s
def lenM (M : Store) : D → Option Nat
  | .str s => some s.length
  | .tup xs => some xs.length
  | .ref i => match M[i]? with
    | some (.lst xs) => some xs.length
    | some (.ro xs) => some xs.length
    | some (.dk kvs) => some kvs.length
    | _ => none
  | _ => none
def bltD (f : Blt) (ds : List D) (M : Store) : Res D := match f with
  | .len => (match ds with
    | [d] => (match lenM M d with
      | some n => .ok (.int (n : Nat)) M
      | none => .bad)
    | _ => .bad)
  | .tuple => (match ds with
    | [d] => (match seqOf M d with
      | some xs => .ok (.tup xs) M
      | none => .bad)
    | _ => .bad)
  | .list => (match ds with
    | [d] => (match seqOf M d with
      | some xs => alloc M (.lst xs)
      | none => .bad)
    | _ => .bad)
  | .sorted => (match ds with
    | [.ref i] => (match M[i]? with
      | some (.lst xs) => if okSrt xs = true then alloc M (.lst (sortD xs)) else .bad
      | some (.dk kvs) => if okSort (kvs.map fun p => kD p.1) = true ∧ keysFit kvs = true then alloc M (.lst (sortD (kvs.map fun p => kD p.1))) else .bad
      | _ => .bad)
    | _ => .bad)
  | .min => (match ds with
    | [d] => (match seqOf M d with
      | some (x :: xs) => if okOrd (x :: xs) = true then .ok (bestMin x xs) M else .bad
      | _ => .bad)
    | [.int i, .int j] => .ok (.int (if j < i then j else i)) M
    | [.int i, .int j, .int k] => .ok (.int (if j < i then (if k < j then k else j) else (if k < i then k else i))) M
    | _ => .bad)
  | .max => (match ds with
    | [d] => (match seqOf M d with
      | some (x :: xs) => if okOrd (x :: xs) = true then .ok (bestMax x xs) M else .bad
      | _ => .bad)
    | [.int i, .int j] => .ok (.int (if j > i then j else i)) M
    | _ => .bad)
  | .sum => (match ds with
    | [.ref i] => (match listAt M i with
      | some xs => (match intsOf xs with
        | some ns => .ok (.int ns.sum) M
        | none => .bad)
      | none => .bad)
    | [.tup xs] => (match intsOf xs with
      | some ns => .ok (.int ns.sum) M
      | none => .bad)
    | _ => .bad)
  | .abs => (match ds with
    | [.int i] => .ok (.int (if i < 0 then -i else i)) M
    | _ => .bad)
  | .int => (match ds with
    | [.int i] => .ok (.int i) M
    | [.bl b] => .ok (.int (if b then 1 else 0)) M
    | _ => .bad)
  | .minD => (match ds with
    | [d, z] => (match seqOf M d with
      | some [] => .ok z M
      | some (x :: xs) => if okOrd (x :: xs) = true then .ok (bestMin x xs) M else .bad
      | none => .bad)
    | _ => .bad)
  | .any => (match ds with
    | [.ref i] => (match (listAt M i).bind boolsOf with
      | some bs => .ok (.bl (bs.any id)) M
      | none => .bad)
    | _ => .bad)
  | .all => (match ds with
    | [.ref i] => (match (listAt M i).bind boolsOf with
      | some bs => .ok (.bl (bs.all id)) M
      | none => .bad)
    | _ => .bad)
  | .rngT => (match rngs ds with
    | some xs => .ok (.tup xs) M
    | none => .bad)
  | .rngL => (match rngs ds with
    | some xs => alloc M (.lst xs)
    | none => .bad)
  | _ => .bad
def isiD (M : Store) (d : D) (T : String) : Option Bool := match d with
  | .non => some (T == "NoneType")
  | .bl _ => some (T == "bool" || T == "int")
  | .int _ => some (T == "int")
  | .str _ => some (T == "str")
  | .tup _ => some (T == "tuple")
  | .xo _ _ => none
  | .ref i => (match M[i]? with
    | some (.lst _) => some (T == "list")
    | some (.ro _) => some (T == "list")
    | _ => none)
/-- methods that store nothing -/
inductive Mth where
  | get | pop | index | count | split | join | startswith | replace
  deriving DecidableEq
/-- the receiver's type -/
def isLst (M : Store) : D → Bool
  | .ref i => (match M[i]? with
    | some (.lst _) => true
    | _ => false)
  | _ => false
def tyM (m : Mth) (M : Store) (o : D) : Bool := match m with
  | .get => (match o with
    | .ref i => (match M[i]? with
      | some (.dk _) => true
      | _ => false)
    | _ => false)
  | .pop => isLst M o
  | _ => false
def mthD (m : Mth) (o : D) (ds : List D) (M : Store) : Res D := match m with
  | .get => (match o, ds with
    | .ref i, [k, x] => (match dictGet M i k with
      | some (some d) => .ok d M
      | some none => .ok x M
      | none => .bad)
    | _, _ => .bad)
  | .pop => (match o, ds with
    | .ref i, [] => (match M[i]? with
      | some (.lst xs) => (match xs[xs.length - 1]? with
        | some d => .ok d (M.set i (.lst xs.dropLast))
        | none => .bad)
      | _ => .bad)
    | .ref i, [.int j] => (match M[i]? with
      | some (.lst xs) => (match ixN xs.length j with
        | some k => (match xs[k]? with
          | some d => .ok d (M.set i (.lst (xs.eraseIdx k)))
          | none => .bad)
        | none => .bad)
      | _ => .bad)
    | _, _ => .bad)
  | _ => .bad

/-! ### what a loop walks -/
inductive Ik where
  | val | rng | zip | rev | items
  deriving DecidableEq
/-- the items; the list that must stand meanwhile -/
def walkD (k : Ik) (ds : List D) (M : Store) : Option (List D × Option Nat) := match k with
  | .val => (match ds with
    | [.tup xs] => some (xs, none)
    | [.str s] => some (chars s, none)
    | [.ref i] => (match M[i]? with
      | some (.lst xs) => some (xs, some i)
      | some (.ro xs) => some (xs, none)
      | _ => none)
    | _ => none)
  | .rng => (match ds with
    | [.int j] => if okR j = true then some (rngD 0 j.toNat, none) else none
    | [.int i, .int j] => if okR i = true ∧ okR j = true then some (rngD i (j - i).toNat, none) else none
    | _ => none)
  | .zip => (match ds with
    | [.tup xs, .tup ys] => some (List.zipWith (fun x y => D.tup [x, y]) xs ys, none)
    | _ => none)
  | _ => none
/-- a list made for the walk alone is forgotten -/
def walkG (n : Nat) (k : Ik) (ds : List D) (M : Store) : Res (List D × Option Nat) := match walkD k ds M with
  | some (xs, w) => (match w with
    | some i => if n ≤ i then (if D.pures xs = true then .ok (xs, none) (M.take n) else .ok (xs, some i) M) else .ok (xs, some i) (M.take n)
    | none => if D.pures xs = true then .ok (xs, none) (M.take n) else .ok (xs, none) M)
  | none => .bad
/-- o[k] = x -/
def putD (n : Nat) (k x : D) (M : Store) : Option Store := match M[n]? with
  | some (.lst xs) => (match k with
    | .int q => (match ixN xs.length q with
      | some j => some (M.set n (.lst (xs.set j x)))
      | none => none)
    | _ => none)
  | some (.dk kvs) => (match keyOf k with
    | some q => if kvs.length < lim then some (M.set n (.dk (putK kvs q x))) else none
    | none => none)
  | _ => none
def stands (w : Option (Nat × List D)) (M : Store) : Prop := match w with
  | none => True
  | some (i, xs) => M[i]? = some (.lst xs)

/-! ### the language -/
inductive Tg where
  | one (i : Nat)
  | many (is : List Nat)
inductive E where
  | var (i : Nat)
  | cst (d : D)
  | glb (x : String)
  | bin (o : BOp) (a b : E)
  | neg (a : E)
  | cmp (o : COp) (a b : E)
  | chain (o p : COp) (a b c : E)
  | and (a b : E)
  | or (a b : E)
  | not (a : E)
  | ite (c a b : E)
  | tup (es : List E)
  | lst (es : List E)
  | dct (t : Bool)
  | ix (a b : E)
  | slc (a : E)
  | slcL (a lo : E)
  | slcU (a hi : E)
  | slcLU (a lo hi : E)
  | call (f : String) (es : List E)
  | blt (f : Blt) (es : List E)
  | mth (m : Mth) (o : E) (es : List E)
  | isi (a : E) (ts : List String)
  | fld (a : E) (f : String)
  | lc (elt : E) (tg : Tg) (k : Ik) (its ifs : List E) (own : List Nat)
inductive S where
  | set (i : Nat) (e : E)
  | unp (is : List Nat) (e : E)
  | par (i j : Nat) (a b : E)
  | put (v o i : E)
  | app (o e : E)
  | ext (o e : E)
  | rev (o : E)
  | exp (e : E)
  | ret (e : E)
  | retN
  | iff (c : E) (a b : List S)
  | for (tg : Tg) (k : Ik) (its : List E) (body : List S) (kill : List Nat)
  | while (c : E) (body : List S) (kill : List Nat)
  | brk
  | cnt
  | pass
  | rai (f : String) (es : List E)
  | rse (cls f : String) (e : E)
  | tri (body : List S) (cs : List (String × Option Nat)) (bs : List (List S))
structure Def where
  params : Nat
  names : List String
  body : List S

structure Cx where
  call : String → List D → Store → Res D
  glob : String → Option D
  base : Nat

def wipe (ρ : Env) : List Nat → Env
  | [] => ρ
  | v :: vs => (wipe ρ vs).set v none
def setMany (ρ : Env) : List Nat → List D → Option Env
  | [], [] => some ρ
  | i :: is, d :: ds => setMany (ρ.set i (some d)) is ds
  | _, _ => none
def assignT (M : Store) (tg : Tg) (d : D) (ρ : Env) : Option Env := match tg with
  | .one i => some (ρ.set i (some d))
  | .many is => (match d with
    | .tup xs => setMany ρ is xs
    | _ => none)

/-- a comprehension's items, by its block -/
def lcL (blk : D → Store → Res (Option D)) : List D → Store → Res (List D)
  | [], M => .ok [] M
  | x :: xs, M => (blk x M).bind fun o M1 => (lcL blk xs M1).bind fun ys M2 => match o with
    | some y => .ok (y :: ys) M2
    | none => .ok ys M2
def noExc {α : Type} : Res α → Res α
  | .exc _ _ => .bad
  | r => r
section
open Classical
noncomputable def lcW (w : Option (Nat × List D)) (blk : D → Store → Res (Option D)) : List D → Store → Res (List D)
  | [], M => if stands w M then .ok [] M else .bad
  | x :: xs, M => if stands w M then (blk x M).bind fun o M1 => (lcW w blk xs M1).bind fun ys M2 => match o with
    | some y => .ok (y :: ys) M2
    | none => .ok ys M2
    else .bad
/-- a for loop over fixed items -/
noncomputable def forL (w : Option (Nat × List D)) (body : D → Env → Store → Out) : List D → Env → Store → Out
  | [], ρ, M => if stands w M then .nx ρ M else .bad
  | x :: xs, ρ, M => if stands w M then (match body x ρ M with
    | .nx ρ' M' => forL w body xs ρ' M'
    | .ct ρ' M' => forL w body xs ρ' M'
    | .bk ρ' M' => .nx ρ' M'
    | .rt d M' => .rt d M'
    | .exc x ρ' M' => .exc x ρ' M'
    | .bad => .bad) else .bad
/-- n turns of a while loop at most -/
def whileN (c : Env → Store → Res Bool) (body : Env → Store → Out) : Nat → Env → Store → Option Out
  | 0, _, _ => none
  | n + 1, ρ, M => match c ρ M with
    | .ok b M1 => if b = true then (match body ρ M1 with
      | .nx ρ' M' => whileN c body n ρ' M'
      | .ct ρ' M' => whileN c body n ρ' M'
      | .bk ρ' M' => some (.nx ρ' M')
      | .rt d M' => some (.rt d M')
      | .exc x ρ' M' => some (.exc x ρ' M')
      | .bad => some .bad) else some (.nx ρ M1)
    | .exc x M1 => some (.exc x ρ M1)
    | .bad => some .bad
noncomputable def whileD (c : Env → Store → Res Bool) (body : Env → Store → Out) (ρ : Env) (M : Store) : Out :=
  if h : ∃ n o, whileN c body n ρ M = some o then Classical.choose (Classical.choose_spec h) else .bad
end

def Out.kill (ks : List Nat) : Out → Out
  | .nx ρ M => .nx (wipe ρ ks) M
  | .ct ρ M => .ct (wipe ρ ks) M
  | .bk ρ M => .bk (wipe ρ ks) M
  | .rt d M => .rt d M
  | .exc x ρ M => .exc x ρ M
  | .bad => .bad
def Res.out (ρ : Env) (r : Res D) (f : D → Store → Out) : Out := match r with
  | .ok d M => f d M
  | .exc x M => .exc x ρ M
  | .bad => .bad
def Res.outB (ρ : Env) (r : Res Bool) (f : Bool → Store → Out) : Out := match r with
  | .ok d M => f d M
  | .exc x M => .exc x ρ M
  | .bad => .bad
def Out.noX : Out → Out
  | .exc _ _ _ => .bad
  | o => o
/-- the name of a clause, bound; its slots -/
def bndX (o : Option Nat) (x : Exc) (ρ : Env) : Env := match o with
  | some i => ρ.set i (some (.xo x.f x.k))
  | none => ρ
def slotX : Option Nat → List Nat
  | some i => [i]
  | none => []
def Out.andThen (o : Out) (f : Env → Store → Out) : Out := match o with
  | .nx ρ M => f ρ M
  | o => o

mutual
noncomputable def ev (c : Cx) : E → Env → Store → Res D
  | .var i, ρ, M => (match ρ[i]? with
    | some (some d) => .ok d M
    | _ => .bad)
  | .cst d, _, M => .ok d M
  | .glb x, _, M => (match c.glob x with
    | some d => .ok d M
    | none => .bad)
  | .bin o a b, ρ, M => (ev c a ρ M).bind fun x M1 => (ev c b ρ M1).bind fun y M2 => binD o x y M2
  | .neg a, ρ, M => (ev c a ρ M).bind fun x M1 => match x with
    | .int i => .ok (.int (-i)) M1
    | _ => .bad
  | .cmp o a b, ρ, M => (ev c a ρ M).bind fun x M1 => (ev c b ρ M1).bind fun y M2 => cmpD o x y M2
  | .chain o p a b d, ρ, M => (ev c a ρ M).bind fun x M1 => (ev c b ρ M1).bind fun y M2 => (cmpD o x y M2).bind fun r M3 => match r with
    | .bl true => (ev c d ρ M3).bind fun z M4 => cmpD p y z M4
    | .bl false => .ok (.bl false) M3
    | _ => .bad
  | .and a b, ρ, M => (ev c a ρ M).bind fun x M1 => (truthR x M1).bind fun t M2 => if t = true then ev c b ρ M2 else .ok x M2
  | .or a b, ρ, M => (ev c a ρ M).bind fun x M1 => (truthR x M1).bind fun t M2 => if t = true then .ok x M2 else ev c b ρ M2
  | .not a, ρ, M => (ev c a ρ M).bind fun x M1 => (truthR x M1).bind fun t M2 => .ok (.bl (!t)) M2
  | .ite t a b, ρ, M => (ev c t ρ M).bind fun x M1 => (truthR x M1).bind fun t M2 => if t = true then ev c a ρ M2 else ev c b ρ M2
  | .tup es, ρ, M => (evs c es ρ M).bind fun xs M1 => .ok (.tup xs) M1
  | .lst es, ρ, M => (evs c es ρ M).bind fun xs M1 => alloc M1 (.lst xs)
  | .dct t, _, M => alloc M (if t = true then .dt [] else .dk [])
  | .ix a b, ρ, M => (ev c a ρ M).bind fun x M1 => (ev c b ρ M1).bind fun y M2 => ixD x y M2
  | .slc a, ρ, M => (ev c a ρ M).bind fun x M1 => slcD x none none M1
  | .slcL a lo, ρ, M => (ev c a ρ M).bind fun x M1 => (ev c lo ρ M1).bind fun l M2 => match l with
    | .int i => slcD x (some i) none M2
    | _ => .bad
  | .slcU a hi, ρ, M => (ev c a ρ M).bind fun x M1 => (ev c hi ρ M1).bind fun h M2 => match h with
    | .int i => slcD x none (some i) M2
    | _ => .bad
  | .slcLU a lo hi, ρ, M => (ev c a ρ M).bind fun x M1 => (ev c lo ρ M1).bind fun l M2 => (match l with
    | .int i => (ev c hi ρ M2).bind fun h M3 => match h with
      | .int j => slcD x (some i) (some j) M3
      | _ => .bad
    | _ => .bad)
  | .call f es, ρ, M => (evs c es ρ M).bind fun xs M1 => c.call f xs M1
  | .blt f es, ρ, M => (evs c es ρ M).bind fun xs M1 => bltD f xs M1
  | .mth m o es, ρ, M => (ev c o ρ M).bind fun x M1 => if tyM m M1 x = true then (evs c es ρ M1).bind fun xs M2 => mthD m x xs M2 else .bad
  | .isi a ts, ρ, M => (ev c a ρ M).bind fun x M1 => (match ts with
    | [t] => optB M1 (isiD M1 x t)
    | [t, u] => optB M1 (match isiD M1 x t, isiD M1 x u with
      | some p, some q => some (p || q)
      | _, _ => none)
    | _ => .bad)
  | .fld a f, ρ, M => (ev c a ρ M).bind fun x M1 => match x with
    | .xo g k => if g = f then .ok (kD k) M1 else .bad
    | _ => .bad
  | .lc elt tg k its ifs own, ρ, M => (evs c its ρ M).bind fun ds M1 => (walkG M.length k ds M1).bind fun (xs, w) M2 => if xs.length ≤ lim then
      (lcW (w.map fun i => (i, xs)) (fun x M3 => match assignT M3 tg x (wipe ρ own) with
        | none => .bad
        | some ρ1 => noExc ((evt c ifs ρ1 M3).bind fun t M4 => if t = true then ((ev c elt ρ1 M4).gc M4.length).bind fun y M5 => .ok (some y) M5 else .ok none M4)) xs M2).bind fun ys M3 => alloc M3 (.lst ys) else .bad
noncomputable def evs (c : Cx) : List E → Env → Store → Res (List D)
  | [], _, M => .ok [] M
  | e :: es, ρ, M => (ev c e ρ M).bind fun x M1 => (evs c es ρ M1).bind fun xs M2 => .ok (x :: xs) M2
/-- tests, one after another -/
noncomputable def evt (c : Cx) : List E → Env → Store → Res Bool
  | [], _, M => .ok true M
  | e :: es, ρ, M => ((ev c e ρ M).bind truthR).bind fun t M1 => if t = true then evt c es ρ (M1.take M.length) else .ok false (M1.take M.length)
end
/-- an expression of a statement -/
noncomputable def evg (c : Cx) (e : E) (ρ : Env) (M : Store) : Res D := (ev c e ρ M).gc M.length
noncomputable def evb (c : Cx) (e : E) (ρ : Env) (M : Store) : Res Bool := match (ev c e ρ M).bind truthR with
  | .ok b M1 => .ok b (M1.take M.length)
  | .exc x M1 => .exc x (M1.take M.length)
  | .bad => .bad
/-- may o take d? -/
def okIn (c : Cx) (i : Nat) (d : D) : Bool := decide (c.base ≤ i) || d.pure
mutual
noncomputable def ex (c : Cx) : S → Env → Store → Out
  | .set i e, ρ, M => (evg c e ρ M).out ρ fun d M1 => .nx (ρ.set i (some d)) M1
  | .unp is e, ρ, M => (evg c e ρ M).out ρ fun d M1 => match assignT M1 (.many is) d ρ with
    | some ρ1 => .nx ρ1 M1
    | none => .bad
  | .par i j a b, ρ, M => (evg c a ρ M).out ρ fun x M1 => (evg c b ρ M1).out ρ fun y M2 => .nx ((ρ.set i (some x)).set j (some y)) M2
  | .put v o i, ρ, M => (evg c v ρ M).out ρ fun x M1 => (ev c o ρ M1).out ρ fun a M2 => (ev c i ρ M2).out ρ fun k M3 => (match a with
    | .ref n => if okIn c n x = true then (match putD n k x M3 with
      | some M4 => .nx ρ (M4.take M1.length)
      | none => .bad) else .bad
    | _ => .bad)
  | .app o e, ρ, M => (ev c o ρ M).out ρ fun a M1 => if isLst M1 a = true ∧ M1.length = M.length then (evg c e ρ M1).out ρ fun x M2 => (match a with
    | .ref n => (match M2[n]? with
      | some (.lst xs) => if xs.length < lim ∧ okIn c n x = true then .nx ρ (M2.set n (.lst (xs ++ [x]))) else .bad
      | _ => .bad)
    | _ => .bad) else .bad
  | .ext o e, ρ, M => (ev c o ρ M).out ρ fun a M1 => if isLst M1 a = true then (ev c e ρ M1).out ρ fun b M2 => (match a, b with
    | .ref n, .ref m => (match M2[n]?, M2[m]? with
      | some (.lst xs), some (.lst ys) => if xs.length + ys.length ≤ lim ∧ D.pures ys = true ∧ n < M.length then .nx ρ ((M2.set n (.lst (xs ++ ys))).take M.length) else .bad
      | _, _ => .bad)
    | _, _ => .bad) else .bad
  | .rev o, ρ, M => (ev c o ρ M).out ρ fun a M1 => (match a with
    | .ref n => (match M1[n]? with
      | some (.lst xs) => .nx ρ (M1.set n (.lst xs.reverse))
      | _ => .bad)
    | _ => .bad)
  | .exp e, ρ, M => (evg c e ρ M).out ρ fun _ M1 => .nx ρ M1
  | .ret e, ρ, M => (evg c e ρ M).out ρ fun d M1 => .rt d M1
  | .retN, _, M => .rt .non M
  | .iff t a b, ρ, M => (evb c t ρ M).outB ρ fun k M1 => if k = true then exs c a ρ M1 else exs c b ρ M1
  | .for tg k its body kill, ρ, M => (match (evs c its ρ M).bind (walkG M.length k) with
    | .ok (xs, w) M1 => forL (w.map fun i => (i, xs)) (fun x ρ1 M2 => match assignT M2 tg x ρ1 with
      | some ρ2 => (exs c body ρ2 M2).kill kill
      | none => .bad) xs (wipe ρ kill) M1
    | .exc x M1 => .exc x ρ (M1.take M.length)
    | .bad => .bad)
  | .while t body kill, ρ, M => whileD (evb c t) (fun ρ1 M1 => (exs c body ρ1 M1).kill kill) (wipe ρ kill) M
  | .brk, ρ, M => .bk ρ M
  | .cnt, ρ, M => .ct ρ M
  | .pass, ρ, M => .nx ρ M
  | .rai _ _, _, _ => .bad
  | .rse cls f e, ρ, M => (evg c e ρ M).out ρ fun d M1 => (match keyOf d with
    | some k => .exc ⟨cls, f, k⟩ ρ M1
    | none => .bad)
  | .tri body cs bs, ρ, M => (match exs c body ρ M with
    | .exc x ρ1 M1 => exh c cs bs x ρ1 M1
    | o => o)
noncomputable def exs (c : Cx) : List S → Env → Store → Out
  | [], ρ, M => .nx ρ M
  | s :: ss, ρ, M => (ex c s ρ M).andThen fun ρ1 M1 => exs c ss ρ1 M1
/-- the clauses of a try -/
noncomputable def exh (c : Cx) (cs : List (String × Option Nat)) : List (List S) → Exc → Env → Store → Out
  | [], x, ρ, M => .exc x ρ M
  | b :: bs, x, ρ, M => (match cs with
    | [] => .bad
    | q :: cs => if q.1 = x.cls then ((exs c b (bndX q.2 x ρ) M).noX).kill (slotX q.2) else exh c cs bs x ρ M)
end

/-- a call's end -/
def leave (n : Nat) : Out → Res D
  | .rt d M => gc n d M
  | .nx _ M => .ok .non (M.take n)
  | .exc x _ M => .exc x (M.take n)
  | _ => .bad
def init (d : Def) (vs : List D) : Env := vs.map some ++ List.replicate (d.names.length - vs.length) none
/-- a call at depth k at most -/
noncomputable def run (T : String → Option Def) (G : String → Option D) : Nat → String → List D → Store → Res D
  | 0, _, _, _ => .bad
  | k + 1, f, vs, M => match T f with
    | some d => if vs.length = d.params then leave M.length (exs ⟨run T G k, G, M.length⟩ d.body (init d vs) M) else .bad
    | none => .bad
end Sk
end
section
set_option Elab.async false
set_option linter.all false
set_option autoImplicit false
set_option maxRecDepth 100000
/-! SkA: the relation between my data and the hand layer's abstract heap. -/
namespace Sk
open PySem PySem.Spec PyProof.Rows L2

theorem lim_eq : lim = sizeLine := by rw [sizeLine_eq]; rfl

def kyV : Ky → V
  | .inl i => .int i
  | .inr s => .str s
def kyOk : Ky → Prop
  | .inl _ => True
  | .inr s => s.length ≤ sizeLine ∧ PyData.strOk s = true
/-- a caught exception, its field f: held as it is -/
def XoAt (K : PySem.W.Frag) (H : Hp) (f : String) (k : Ky) (v : V) : Prop :=
  ∃ (a C dd : Addr) (oe od : Obj) (fs : List (Str × V)), v = .ref a ∧ H a = some (.frz oe (.own a)) ∧ oe.cls = .ref C ∧ (∃ vs, oe.data = .fields vs) ∧ oe.dict = some dd ∧ H dd = some (.frz od (.xd fs)) ∧ fs.lookup (Str.ofString f) = some (kyV k) ∧ kyOk k ∧ XfC K C ∧ PySem.W.findIn K (.ref C) (Str.ofString f) = some none
theorem XoAt.keep {K : PySem.W.Frag} {H H' : Hp} {f : String} {k : Ky} {v : V} (h : XoAt K H f k v) (hf : ∀ (x : Addr) (o : Obj) (u : HO), H x = some (.frz o u) → H' x = some (.frz o u)) : XoAt K H' f k v := by
  obtain ⟨a, C, dd, oe, od, fs, h1, h2, h3, h4, h5, h6, h7, h8, h9, h10⟩ := h
  exact ⟨a, C, dd, oe, od, fs, h1, hf _ _ _ h2, h3, h4, h5, hf _ _ _ h6, h7, h8, h9, h10⟩
section
variable (K : PySem.W.Frag) (ι : List Addr) (H : Hp)
mutual
/-- a datum stands at a value -/
def RelD : D → V → Prop
  | .non, v => v = .non
  | .bl b, v => v = .bl b
  | .int i, v => v = .int i
  | .str s, v => v = .str s ∧ s.length ≤ sizeLine ∧ PyData.strOk s = true
  | .tup xs, v => ∃ a vs, v = .ref a ∧ SqT K H a vs ∧ RelDs xs vs
  | .ref i, v => ∃ a, v = .ref a ∧ ι[i]? = some a
  | .xo f k, v => XoAt K H f k v
def RelDs : List D → List V → Prop
  | [], vs => vs = []
  | x :: xs, vs => ∃ v r, vs = v :: r ∧ RelD x v ∧ RelDs xs r
end
/-- a list that is only read -/
def RoL (a : Addr) (vs : List V) : Prop := (∃ o, H a = some (.frz o (.lst vs))) ∨
  ∃ (o : Obj) (its : Array Value) (n : Nat), K.lookup a = some o ∧ o.cls = .type "list" ∧ o.dict = none ∧ o.data = .seq its n ∧ its.size ≤ sizeLine ∧ Vals vs its.toList
def RelKV {κ : Type} : List (κ × D) → List (κ × V) → Prop := Paired fun (p : κ × D) (q : κ × V) => p.1 = q.1 ∧ RelD K ι H p.2 q.2
/-- an object of the store stands at an address -/
def OR : O → Addr → Prop
  | .lst xs, a => ∃ vs, H a = some (.lst vs) ∧ RelDs K ι H xs vs
  | .ro xs, a => ∃ vs, RoL K H a vs ∧ RelDs K ι H xs vs
  | .dk kvs, a => ∃ kv, H a = some (.dK kv) ∧ RelKV K ι H kvs kv
  | .dt kvs, a => ∃ kv, H a = some (.dT kv) ∧ RelKV K ι H kvs kv
  | .ins _ _, _ => False
def O.mut : O → Bool
  | .ro _ => false
  | _ => true
structure SR (M : Store) : Prop where
  len : ι.length = M.length
  obj : ∀ (i : Nat) (o : O) (a : Addr), M[i]? = some o → ι[i]? = some a → OR K ι H o a
  inj : ∀ (i j : Nat) (a : Addr) (o o' : O), ι[i]? = some a → ι[j]? = some a → M[i]? = some o → M[j]? = some o' → o.mut = true → o'.mut = true → i = j
  pos : 0 < M.length
  kind : ∀ (i : Nat) (o : O), M[i]? = some o → (o.mut = true ↔ i ≠ 0)
def REnv (ρ : Env) (σ : L2.St) : Prop := ρ.length = σ.length ∧ ∀ (i : Nat) (d : D), ρ[i]? = some (some d) → ∃ v, σ[i]? = some (some v) ∧ RelD K ι H d v
end
def Imm : HO → Prop
  | .tup _ => True
  | .frz _ _ => True
  | _ => False
/-- how the abstract heap goes on -/
structure Step (ι : List Addr) (H : Hp) (ι' : List Addr) (H' : Hp) : Prop where
  ext : ∃ t, ι' = ι ++ t ∧ ∀ p ∈ t, H p = none
  imm : ∀ a o, H a = some o → Imm o → H' a = some o
  out : ∀ a o, H a = some o → a ∉ ι.drop 1 → H' a = some o
  dom : ∀ a, H a ≠ none → H' a ≠ none

section
variable {K : PySem.W.Frag} {ι ι' ι2 : List Addr} {H H' H2 : Hp}
theorem Step.refl : Step ι H ι H := ⟨⟨[], by simp, by simp⟩, fun _ _ h _ => h, fun _ _ h _ => h, fun _ h => h⟩
theorem Step.trans (a : Step ι H ι' H') (b : Step ι' H' ι2 H2) : Step ι H ι2 H2 := by
  obtain ⟨t, rfl, ht⟩ := a.ext
  obtain ⟨u, rfl, hu⟩ := b.ext
  refine ⟨⟨t ++ u, by simp, fun p hp => ?_⟩, fun x o h i => b.imm x o (a.imm x o h i) i, fun x o h n => ?_, fun x h => b.dom x (a.dom x h)⟩
  · rcases List.mem_append.mp hp with h | h
    · exact ht p h
    · cases e : H p with
      | none => rfl
      | some o => exact absurd (hu p h) (a.dom p (by rw [e]; simp))
  · refine b.out x o (a.out x o h n) fun hm => ?_
    rw [List.drop_append] at hm
    rcases List.mem_append.mp hm with hm | hm
    · exact n hm
    · rw [ht x (List.mem_of_mem_drop hm)] at h; cases h
theorem Step.get (a : Step ι H ι' H') {i : Nat} {x : Addr} (h : ι[i]? = some x) : ι'[i]? = some x := by
  obtain ⟨t, rfl, _⟩ := a.ext
  have := (List.getElem?_eq_some_iff.mp h).1
  rw [List.getElem?_append_left this]; exact h
theorem Step.sqT (a : Step ι H ι' H') {x : Addr} {vs : List V} (h : SqT K H x vs) : SqT K H' x vs := by
  rcases h with (h | ⟨o, h⟩) | h
  · exact .inl (.inl (a.imm _ _ h trivial))
  · exact .inl (.inr ⟨o, a.imm _ _ h trivial⟩)
  · exact .inr h
theorem Step.roL (a : Step ι H ι' H') {x : Addr} {vs : List V} (h : RoL K H x vs) : RoL K H' x vs := by
  rcases h with ⟨o, h⟩ | h
  · exact .inl ⟨o, a.imm _ _ h trivial⟩
  · exact .inr h
theorem RoL.sqL {x : Addr} {vs : List V} (h : RoL K H x vs) : SqL K H x vs := by
  rcases h with ⟨o, h⟩ | h
  · exact .inl (.inr ⟨o, h⟩)
  · exact .inr h
mutual
theorem RelD.mono (hi : ∀ (i : Nat) (x : Addr), ι[i]? = some x → ι'[i]? = some x) (hs : ∀ x vs, SqT K H x vs → SqT K H' x vs) (hf : ∀ (x : Addr) (o : Obj) (u : HO), H x = some (.frz o u) → H' x = some (.frz o u)) : ∀ {d : D} {v : V}, RelD K ι H d v → RelD K ι' H' d v
  | .non, _, h => by simpa only [RelD] using h
  | .bl _, _, h => by simpa only [RelD] using h
  | .int _, _, h => by simpa only [RelD] using h
  | .str _, _, h => by simpa only [RelD] using h
  | .tup xs, v, h => by
    simp only [RelD] at h ⊢
    obtain ⟨x, vs, e, h1, hr⟩ := h
    exact ⟨x, vs, e, hs _ _ h1, RelDs.mono hi hs hf hr⟩
  | .ref i, v, h => by
    simp only [RelD] at h ⊢
    obtain ⟨x, e, h1⟩ := h
    exact ⟨x, e, hi _ _ h1⟩
  | .xo f k, v, h => by
    simp only [RelD] at h ⊢
    exact h.keep hf
theorem RelDs.mono (hi : ∀ (i : Nat) (x : Addr), ι[i]? = some x → ι'[i]? = some x) (hs : ∀ x vs, SqT K H x vs → SqT K H' x vs) (hf : ∀ (x : Addr) (o : Obj) (u : HO), H x = some (.frz o u) → H' x = some (.frz o u)) : ∀ {xs : List D} {vs : List V}, RelDs K ι H xs vs → RelDs K ι' H' xs vs
  | [], _, h => by simpa only [RelDs] using h
  | x :: xs, vs, h => by
    simp only [RelDs] at h ⊢
    obtain ⟨v, r, e, h1, h2⟩ := h
    exact ⟨v, r, e, RelD.mono hi hs hf h1, RelDs.mono hi hs hf h2⟩
end
theorem RelD.step (a : Step ι H ι' H') {d : D} {v : V} (h : RelD K ι H d v) : RelD K ι' H' d v := h.mono (fun _ _ h => a.get h) (fun _ _ h => a.sqT h) fun _ _ _ h => a.imm _ _ h trivial
theorem RelDs.step (a : Step ι H ι' H') {xs : List D} {vs : List V} (h : RelDs K ι H xs vs) : RelDs K ι' H' xs vs := h.mono (fun _ _ h => a.get h) (fun _ _ h => a.sqT h) fun _ _ _ h => a.imm _ _ h trivial
theorem RelKV.step {κ : Type} (a : Step ι H ι' H') {xs : List (κ × D)} {vs : List (κ × V)} (h : RelKV K ι H xs vs) : RelKV K ι' H' xs vs := Paired.mapP h fun _ _ q => ⟨q.1, q.2.step a⟩
theorem REnv.step (a : Step ι H ι' H') {ρ : Env} {σ : L2.St} (h : REnv K ι H ρ σ) : REnv K ι' H' ρ σ := ⟨h.1, fun i d e => by
  obtain ⟨v, h1, h2⟩ := h.2 i d e
  exact ⟨v, h1, h2.step a⟩⟩

/-! ### lists of data -/
theorem RelDs.length : ∀ {xs : List D} {vs : List V}, RelDs K ι H xs vs → xs.length = vs.length
  | [], _, h => by simp only [RelDs] at h; subst h; rfl
  | x :: xs, vs, h => by
    simp only [RelDs] at h
    obtain ⟨v, r, rfl, _, h2⟩ := h
    simp [RelDs.length h2]
theorem RelDs.get : ∀ {xs : List D} {vs : List V} {i : Nat} {d : D}, RelDs K ι H xs vs → xs[i]? = some d → ∃ v, vs[i]? = some v ∧ RelD K ι H d v
  | [], _, _, _, _, e => by simp at e
  | x :: xs, vs, i, d, h, e => by
    simp only [RelDs] at h
    obtain ⟨v, r, rfl, h1, h2⟩ := h
    cases i with
    | zero => simp at e; subst e; exact ⟨v, rfl, h1⟩
    | succ i =>
      obtain ⟨w, e1, e2⟩ := RelDs.get (i := i) (d := d) h2 (by simpa using e)
      exact ⟨w, by simpa using e1, e2⟩
theorem RelDs.getV : ∀ {xs : List D} {vs : List V} {i : Nat} {v : V}, RelDs K ι H xs vs → vs[i]? = some v → ∃ d, xs[i]? = some d ∧ RelD K ι H d v
  | [], _, _, _, h, e => by simp only [RelDs] at h; subst h; simp at e
  | x :: xs, vs, i, d, h, e => by
    simp only [RelDs] at h
    obtain ⟨v, r, rfl, h1, h2⟩ := h
    cases i with
    | zero => simp at e; subst e; exact ⟨x, rfl, h1⟩
    | succ i =>
      obtain ⟨w, e1, e2⟩ := RelDs.getV (i := i) (v := d) h2 (by simpa using e)
      exact ⟨w, by simpa using e1, e2⟩
theorem RelDs.append : ∀ {xs ys : List D} {vs ws : List V}, RelDs K ι H xs vs → RelDs K ι H ys ws → RelDs K ι H (xs ++ ys) (vs ++ ws)
  | [], _, _, _, h, g => by simp only [RelDs] at h; subst h; exact g
  | x :: xs, ys, vs, ws, h, g => by
    simp only [RelDs] at h
    obtain ⟨v, r, rfl, h1, h2⟩ := h
    simp only [List.cons_append, RelDs]
    exact ⟨v, r ++ ws, rfl, h1, RelDs.append h2 g⟩
theorem RelDs.one {d : D} {v : V} (h : RelD K ι H d v) : RelDs K ι H [d] [v] := by
  simp only [RelDs]
  exact ⟨v, [], rfl, h, rfl⟩
theorem RelDs.nil : RelDs K ι H [] [] := by simp only [RelDs]
theorem RelDs.take : ∀ {xs : List D} {vs : List V} (n : Nat), RelDs K ι H xs vs → RelDs K ι H (xs.take n) (vs.take n)
  | _, _, 0, _ => by simp [RelDs]
  | [], _, n + 1, h => by simp only [RelDs] at h; subst h; simp [RelDs]
  | x :: xs, vs, n + 1, h => by
    simp only [RelDs] at h
    obtain ⟨v, r, rfl, h1, h2⟩ := h
    simp only [List.take_succ_cons, RelDs]
    exact ⟨v, r.take n, rfl, h1, RelDs.take n h2⟩
theorem RelDs.drop : ∀ {xs : List D} {vs : List V} (n : Nat), RelDs K ι H xs vs → RelDs K ι H (xs.drop n) (vs.drop n)
  | _, _, 0, h => by simpa using h
  | [], _, n + 1, h => by simp only [RelDs] at h; subst h; simp [RelDs]
  | x :: xs, vs, n + 1, h => by
    simp only [RelDs] at h
    obtain ⟨v, r, rfl, h1, h2⟩ := h
    simpa using RelDs.drop n h2
theorem RelDs.set : ∀ {xs : List D} {vs : List V} {d : D} {v : V} (i : Nat), RelDs K ι H xs vs → RelD K ι H d v → RelDs K ι H (xs.set i d) (vs.set i v)
  | [], _, _, _, _, h, _ => by simp only [RelDs] at h; subst h; simp [RelDs]
  | x :: xs, vs, d, v, 0, h, g => by
    simp only [RelDs] at h
    obtain ⟨w, r, rfl, h1, h2⟩ := h
    simp only [List.set_cons_zero, RelDs]
    exact ⟨v, r, rfl, g, h2⟩
  | x :: xs, vs, d, v, i + 1, h, g => by
    simp only [RelDs] at h
    obtain ⟨w, r, rfl, h1, h2⟩ := h
    simp only [List.set_cons_succ, RelDs]
    exact ⟨w, r.set i v, rfl, h1, RelDs.set i h2 g⟩
theorem RelDs.eraseIdx : ∀ {xs : List D} {vs : List V} (i : Nat), RelDs K ι H xs vs → RelDs K ι H (xs.eraseIdx i) (vs.eraseIdx i)
  | [], _, _, h => by simp only [RelDs] at h; subst h; simp [RelDs]
  | x :: xs, vs, 0, h => by
    simp only [RelDs] at h
    obtain ⟨w, r, rfl, h1, h2⟩ := h
    simpa using h2
  | x :: xs, vs, i + 1, h => by
    simp only [RelDs] at h
    obtain ⟨w, r, rfl, h1, h2⟩ := h
    simp only [List.eraseIdx_cons_succ, RelDs]
    exact ⟨w, r.eraseIdx i, rfl, h1, RelDs.eraseIdx i h2⟩
theorem RelDs.dropLast {xs : List D} {vs : List V} (h : RelDs K ι H xs vs) : RelDs K ι H xs.dropLast vs.dropLast := by
  rw [List.dropLast_eq_take, List.dropLast_eq_take, ← h.length]
  exact h.take _
theorem RelDs.reverse : ∀ {xs : List D} {vs : List V}, RelDs K ι H xs vs → RelDs K ι H xs.reverse vs.reverse
  | [], _, h => by simp only [RelDs] at h; subst h; simp [RelDs]
  | x :: xs, vs, h => by
    simp only [RelDs] at h
    obtain ⟨v, r, rfl, h1, h2⟩ := h
    rw [List.reverse_cons, List.reverse_cons]
    exact RelDs.append (RelDs.reverse h2) (.one h1)
theorem RelDs.reps {xs : List D} {vs : List V} (h : RelDs K ι H xs vs) : ∀ n : Nat, RelDs K ι H (List.replicate n xs).flatten (List.replicate n vs).flatten
  | 0 => by simp [RelDs]
  | n + 1 => by
    rw [List.replicate_succ, List.replicate_succ, List.flatten_cons, List.flatten_cons]
    exact h.append (RelDs.reps h n)
theorem RelDs.isEmpty {xs : List D} {vs : List V} (h : RelDs K ι H xs vs) : vs.isEmpty = xs.isEmpty := by
  have := h.length
  cases xs <;> cases vs <;> simp_all
theorem relDs_ints : ∀ ns : List Int, RelDs K ι H (ns.map D.int) (ns.map V.int)
  | [] => by simp [RelDs]
  | n :: ns => by simp only [List.map_cons, RelDs]; exact ⟨_, _, rfl, rfl, relDs_ints ns⟩

/-! ### the store -/
section
variable {M : Store}
theorem SR.at {i : Nat} {o : O} (s : SR K ι H M) (h : M[i]? = some o) : ∃ a, ι[i]? = some a ∧ OR K ι H o a := by
  have hl : i < M.length := (List.getElem?_eq_some_iff.mp h).1
  have hi : i < ι.length := by rw [s.len]; exact hl
  exact ⟨ι[i], by simp [hi], s.obj i o _ h (by simp [hi])⟩
theorem SR.ref {i : Nat} {o : O} {v : V} (s : SR K ι H M) (h : M[i]? = some o) (r : RelD K ι H (.ref i) v) : ∃ a, v = .ref a ∧ ι[i]? = some a ∧ OR K ι H o a := by
  simp only [RelD] at r
  obtain ⟨a, e, hi⟩ := r
  exact ⟨a, e, hi, s.obj i o a h hi⟩
theorem OR.mono (hi : ∀ (i : Nat) (x : Addr), ι[i]? = some x → ι'[i]? = some x) (hs : ∀ x vs, SqT K H x vs → SqT K H' x vs) (hr : ∀ x vs, RoL K H x vs → RoL K H' x vs) (hf : ∀ (x : Addr) (o : Obj) (u : HO), H x = some (.frz o u) → H' x = some (.frz o u)) {o : O} {x : Addr} (hx : o.mut = true → ∀ u, H x = some u → H' x = some u) (h : OR K ι H o x) : OR K ι' H' o x := by
  cases o with
  | lst xs => obtain ⟨vs, e, r⟩ := h; exact ⟨vs, hx rfl _ e, r.mono hi hs hf⟩
  | ro xs => obtain ⟨vs, e, r⟩ := h; exact ⟨vs, hr _ _ e, r.mono hi hs hf⟩
  | dk kvs => obtain ⟨vs, e, r⟩ := h; exact ⟨vs, hx rfl _ e, Paired.mapP r fun _ _ q => ⟨q.1, q.2.mono hi hs hf⟩⟩
  | dt kvs => obtain ⟨vs, e, r⟩ := h; exact ⟨vs, hx rfl _ e, Paired.mapP r fun _ _ q => ⟨q.1, q.2.mono hi hs hf⟩⟩
  | ins c fs => exact h.elim
theorem OR.step (a : Step ι H ι' H') {o : O} {x : Addr} (hx : o.mut = true → ∀ u, H x = some u → H' x = some u) (h : OR K ι H o x) : OR K ι' H' o x := h.mono (fun _ _ h => a.get h) (fun _ _ h => a.sqT h) (fun _ _ h => a.roL h) (fun _ _ _ h => a.imm _ _ h trivial) hx
theorem OR.here {o : O} {x : Addr} (h : OR K ι H o x) (hm : o.mut = true) : ∃ u, H x = some u ∧ ¬ Imm u := by
  cases o with
  | lst xs => obtain ⟨vs, e, r⟩ := h; exact ⟨_, e, fun z => z⟩
  | ro xs => cases hm
  | dk kvs => obtain ⟨vs, e, r⟩ := h; exact ⟨_, e, fun z => z⟩
  | dt kvs => obtain ⟨vs, e, r⟩ := h; exact ⟨_, e, fun z => z⟩
  | ins c fs => exact h.elim
/-- a new thing is laid that the store does not hold -/
theorem Step.fresh {p : Addr} {u : HO} (hp : H p = none) : Step ι H ι (upd H p u) :=
  ⟨⟨[], by simp, by simp⟩, fun a o h _ => by rw [upd_ne (ne_of_none h hp)]; exact h, fun a o h _ => by rw [upd_ne (ne_of_none h hp)]; exact h, fun a h e => by
    by_cases hb : a = p
    · subst hb; exact h hp
    · rw [upd_ne hb] at e; exact h e⟩
theorem SR.same (s : SR K ι H M) (a : Step ι H ι H') (hx : ∀ (i : Nat) (x : Addr) (o : O) (u : HO), M[i]? = some o → ι[i]? = some x → o.mut = true → H x = some u → H' x = some u) : SR K ι H' M :=
  ⟨s.len, fun i o x h hi => (s.obj i o x h hi).step a fun hm u => hx i x o u h hi hm, s.inj, s.pos, s.kind⟩
theorem SR.fresh {p : Addr} {u : HO} (s : SR K ι H M) (hp : H p = none) : SR K ι (upd H p u) M :=
  s.same (Step.fresh hp) fun i x o w _ _ _ h => by rw [upd_ne (ne_of_none h hp)]; exact h
/-- .. that the store holds from now on -/
theorem Step.alloc {p : Addr} {u : HO} (hp : H p = none) : Step ι H (ι ++ [p]) (upd H p u) :=
  ⟨⟨[p], rfl, by simpa using hp⟩, (Step.fresh (ι := ι) hp).imm, (Step.fresh (ι := ι) hp).out, (Step.fresh (ι := ι) hp).dom⟩
theorem Step.more (t : List Addr) (h : ∀ p ∈ t, H p = none) : Step ι H (ι ++ t) H := ⟨⟨t, rfl, h⟩, fun _ _ h _ => h, fun _ _ h _ => h, fun _ h => h⟩
theorem SR.alloc {p : Addr} {u : HO} {o : O} (s : SR K ι H M) (hp : H p = none) (new : OR K (ι ++ [p]) (upd H p u) o p) (hm : o.mut = true) : SR K (ι ++ [p]) (upd H p u) (M ++ [o]) := by
  have st : Step ι H (ι ++ [p]) (upd H p u) := Step.alloc hp
  refine ⟨by simp [s.len], fun i q x h hi => ?_, fun i j x q q' h1 h2 h3 h4 m1 m2 => ?_, by simp, fun i q h => ?_⟩
  rotate_left 2
  · by_cases hl : i < M.length
    · rw [List.getElem?_append_left hl] at h
      exact s.kind i q h
    · rw [List.getElem?_append_right (by omega)] at h
      have e0 : i - M.length = 0 := by
        have := (List.getElem?_eq_some_iff.mp h).1
        simp at this; omega
      rw [e0] at h
      simp at h
      subst h
      have := s.pos
      exact ⟨fun _ => by omega, fun _ => hm⟩
  · by_cases hl : i < M.length
    · rw [List.getElem?_append_left hl] at h
      rw [List.getElem?_append_left (by rw [s.len]; exact hl)] at hi
      exact (s.obj i q x h hi).step st fun _ w hw => by rw [upd_ne (ne_of_none hw hp)]; exact hw
    · rw [List.getElem?_append_right (by omega)] at h
      rw [List.getElem?_append_right (by rw [s.len]; omega)] at hi
      have e0 : i - M.length = 0 := by
        have := (List.getElem?_eq_some_iff.mp h).1
        simp at this; omega
      rw [e0] at h
      rw [s.len, e0] at hi
      simp at h hi
      subst h hi
      exact new
  · have key : ∀ k y r, (ι ++ [p])[k]? = some y → (M ++ [o])[k]? = some r → r.mut = true → (k < M.length ∧ ι[k]? = some y ∧ M[k]? = some r ∧ y ≠ p) ∨ (k = M.length ∧ y = p) := fun k y r e1 e2 hm => by
      by_cases hl : k < M.length
      · rw [List.getElem?_append_left hl] at e2
        rw [List.getElem?_append_left (by rw [s.len]; exact hl)] at e1
        obtain ⟨w, hw, _⟩ := (s.obj k r y e2 e1).here hm
        exact .inl ⟨hl, e1, e2, ne_of_none hw hp⟩
      · rw [List.getElem?_append_right (by omega)] at e2
        rw [List.getElem?_append_right (by rw [s.len]; omega)] at e1
        have e0 : k - M.length = 0 := by
          have := (List.getElem?_eq_some_iff.mp e2).1
          simp at this; omega
        rw [s.len, e0] at e1
        simp at e1
        exact .inr ⟨by omega, e1.symm⟩
    rcases key i x q h1 h3 m1 with ⟨_, a1, a2, a3⟩ | ⟨a1, a2⟩
    · rcases key j x q' h2 h4 m2 with ⟨_, b1, b2, b3⟩ | ⟨b1, b2⟩
      · exact s.inj i j x q q' a1 b1 a2 b2 m1 m2
      · exact absurd b2 a3
    · rcases key j x q' h2 h4 m2 with ⟨_, b1, b2, b3⟩ | ⟨b1, b2⟩
      · exact absurd a2 b3
      · omega
/-- an object of the store is written -/
theorem Step.write {i : Nat} {x : Addr} {o : O} {u : HO} (s : SR K ι H M) (h : M[i]? = some o) (hm : o.mut = true) (hi : ι[i]? = some x) : Step ι H ι (upd H x u) := by
  obtain ⟨w, hw, ni⟩ := (s.obj i o x h hi).here hm
  refine ⟨⟨[], by simp, by simp⟩, fun a q e im => ?_, fun a q e n => ?_, fun a e => ?_⟩
  · rw [upd_ne]
    · exact e
    · rintro rfl
      rw [hw] at e; cases e; exact ni im
  · rw [upd_ne]
    · exact e
    · rintro rfl
      have h0 := (s.kind i o h).mp hm
      refine n (List.mem_of_getElem? (i := i - 1) ?_)
      rw [List.getElem?_drop, show 1 + (i - 1) = i by omega]
      exact hi
  · by_cases hb : a = x
    · subst hb; rw [upd_same]; simp
    · rw [upd_ne hb]; exact e
theorem SR.write {i : Nat} {x : Addr} {o o' : O} {u : HO} (s : SR K ι H M) (h : M[i]? = some o) (hm : o.mut = true) (hi : ι[i]? = some x) (new : OR K ι (upd H x u) o' x) (hm' : o'.mut = true) : SR K ι (upd H x u) (M.set i o') := by
  have st : Step ι H ι (upd H x u) := Step.write s h hm hi
  have hil : i < M.length := (List.getElem?_eq_some_iff.mp h).1
  refine ⟨by simp [s.len], fun j q y hj hy => ?_, fun j k y q q' h1 h2 h3 h4 m1 m2 => ?_, by simpa using s.pos, fun j q hj => ?_⟩
  rotate_left 2
  · by_cases e : i = j
    · subst e
      rw [List.getElem?_set_self hil] at hj
      cases hj
      exact ⟨fun _ => (s.kind i o h).mp hm, fun _ => hm'⟩
    · rw [List.getElem?_set_ne e] at hj
      exact s.kind j q hj
  · by_cases e : i = j
    · subst e
      rw [List.getElem?_set_self hil] at hj
      rw [hi] at hy
      cases hj; cases hy
      exact new
    · rw [List.getElem?_set_ne e] at hj
      refine (s.obj j q y hj hy).step st fun hmq w hw => ?_
      rw [upd_ne]
      · exact hw
      · rintro rfl
        exact e (s.inj i j y o q hi hy h hj hm hmq)
  · have key : ∀ (k : Nat) (r : O), (M.set i o')[k]? = some r → r.mut = true → ∃ r' : O, M[k]? = some r' ∧ r'.mut = true := fun k r e m => by
      by_cases z : i = k
      · subst z; exact ⟨o, h, hm⟩
      · rw [List.getElem?_set_ne z] at e; exact ⟨r, e, m⟩
    obtain ⟨r1, a1, a2⟩ := key j q h3 m1
    obtain ⟨r2, b1, b2⟩ := key k q' h4 m2
    exact s.inj j k y r1 r2 h1 h2 a1 b1 a2 b2
end
end

/-! ### which places a datum names -/
mutual
def D.under (n : Nat) : D → Prop
  | .tup xs => D.unders n xs
  | .ref i => i < n
  | .xo _ _ => True
  | .non => True
  | .bl _ => True
  | .int _ => True
  | .str _ => True
def D.unders (n : Nat) : List D → Prop
  | [] => True
  | x :: xs => D.under n x ∧ D.unders n xs
end
def O.under (n : Nat) : O → Prop
  | .lst xs => D.unders n xs
  | .ro xs => D.unders n xs
  | .dk kvs => ∀ p ∈ kvs, D.under n p.2
  | .dt kvs => ∀ p ∈ kvs, D.under n p.2
  | .ins _ fs => ∀ p ∈ fs, D.under n p.2
theorem D.unders_mem {n : Nat} : ∀ {xs : List D}, D.unders n xs ↔ ∀ x ∈ xs, x.under n
  | [] => by simp [D.unders]
  | x :: xs => by simp only [D.unders, D.unders_mem (xs := xs), List.mem_cons, forall_eq_or_imp]
mutual
theorem D.pure_under {n : Nat} : ∀ {d : D}, d.pure = true → d.under n
  | .tup xs, h => by simp only [D.pure] at h; simp only [D.under]; exact D.pures_under h
  | .ref i, h => by simp [D.pure] at h
  | .xo _ _, h => by simp [D.pure] at h
  | .non, _ => by simp only [D.under]
  | .bl _, _ => by simp only [D.under]
  | .int _, _ => by simp only [D.under]
  | .str _, _ => by simp only [D.under]
theorem D.pures_under {n : Nat} : ∀ {xs : List D}, D.pures xs = true → D.unders n xs
  | [], _ => by simp only [D.unders]
  | x :: xs, h => by
    simp only [D.pures, Bool.and_eq_true] at h
    simp only [D.unders]
    exact ⟨D.pure_under h.1, D.pures_under h.2⟩
end
theorem D.pures_mem : ∀ {xs : List D}, D.pures xs = true ↔ ∀ x ∈ xs, x.pure = true
  | [] => by simp [D.pures]
  | x :: xs => by simp only [D.pures, Bool.and_eq_true, D.pures_mem (xs := xs), List.mem_cons, forall_eq_or_imp]
theorem O.pure_under {n : Nat} {o : O} (h : o.pure = true) : o.under n := by
  cases o with
  | lst xs => exact D.pures_under h
  | ro xs => exact D.pures_under h
  | dk kvs => exact fun p hp => D.pure_under (List.all_eq_true.mp h p hp)
  | dt kvs => exact fun p hp => D.pure_under (List.all_eq_true.mp h p hp)
  | ins c fs => exact fun p hp => D.pure_under (List.all_eq_true.mp h p hp)
mutual
theorem D.under_mono {n m : Nat} (hn : n ≤ m) : ∀ {d : D}, d.under n → d.under m
  | .tup xs, h => by simp only [D.under] at h ⊢; exact D.unders_mono hn h
  | .ref i, h => by simp only [D.under] at h ⊢; omega
  | .xo _ _, _ => by simp only [D.under]
  | .non, _ => by simp only [D.under]
  | .bl _, _ => by simp only [D.under]
  | .int _, _ => by simp only [D.under]
  | .str _, _ => by simp only [D.under]
theorem D.unders_mono {n m : Nat} (hn : n ≤ m) : ∀ {xs : List D}, D.unders n xs → D.unders m xs
  | [], _ => by simp only [D.unders]
  | x :: xs, h => by
    simp only [D.unders] at h ⊢
    exact ⟨D.under_mono hn h.1, D.unders_mono hn h.2⟩
end
/-- the objects below b name places below b alone -/
def Below (b : Nat) (M : Store) : Prop := ∀ (i : Nat) (o : O), i < b → M[i]? = some o → o.under b
section
variable {K : PySem.W.Frag} {ι ι' : List Addr} {H : Hp} {M : Store}
mutual
theorem RelD.under : ∀ {d : D} {v : V}, RelD K ι H d v → d.under ι.length
  | .tup xs, v, h => by
    simp only [RelD] at h
    obtain ⟨_, vs, _, _, h⟩ := h
    simp only [D.under]; exact RelDs.under h
  | .ref i, v, h => by
    simp only [RelD] at h
    obtain ⟨_, _, h⟩ := h
    simp only [D.under]; exact (List.getElem?_eq_some_iff.mp h).1
  | .xo _ _, _, _ => by simp only [D.under]
  | .non, _, _ => by simp only [D.under]
  | .bl _, _, _ => by simp only [D.under]
  | .int _, _, _ => by simp only [D.under]
  | .str _, _, _ => by simp only [D.under]
theorem RelDs.under : ∀ {xs : List D} {vs : List V}, RelDs K ι H xs vs → D.unders ι.length xs
  | [], _, _ => by simp only [D.unders]
  | x :: xs, vs, h => by
    simp only [RelDs] at h
    obtain ⟨_, _, _, h1, h2⟩ := h
    simp only [D.unders]
    exact ⟨RelD.under h1, RelDs.under h2⟩
end
theorem Paired.memL {α β : Type} {F : α → β → Prop} : ∀ {l : List α} {r : List β}, Paired F l r → ∀ x ∈ l, ∃ y ∈ r, F x y
  | _, _, .nil, x, h => by cases h
  | _, _, .cons q t, x, h => by
    rcases List.mem_cons.mp h with rfl | h
    · exact ⟨_, List.mem_cons_self, q⟩
    · obtain ⟨y, hy, f⟩ := Paired.memL t x h
      exact ⟨y, List.mem_cons_of_mem _ hy, f⟩
theorem OR.under {o : O} {a : Addr} (h : OR K ι H o a) : o.under ι.length := by
  cases o with
  | lst xs => obtain ⟨_, _, r⟩ := h; exact r.under
  | ro xs => obtain ⟨_, _, r⟩ := h; exact r.under
  | dk kvs => obtain ⟨_, _, r⟩ := h; exact fun p hp => let ⟨_, _, f⟩ := Paired.memL r p hp; f.2.under
  | dt kvs => obtain ⟨_, _, r⟩ := h; exact fun p hp => let ⟨_, _, f⟩ := Paired.memL r p hp; f.2.under
  | ins c fs => exact h.elim
theorem SR.belowAll (s : SR K ι H M) : Below M.length M := fun i o _ h => by
  obtain ⟨a, _, q⟩ := s.at h
  rw [← s.len]; exact q.under
-- names that lie within a shorter list
mutual
theorem RelD.cut {n : Nat} : ∀ {d : D} {v : V}, RelD K ι H d v → d.under n → RelD K (ι.take n) H d v
  | .non, _, h, _ => by simpa only [RelD] using h
  | .bl _, _, h, _ => by simpa only [RelD] using h
  | .int _, _, h, _ => by simpa only [RelD] using h
  | .str _, _, h, _ => by simpa only [RelD] using h
  | .tup xs, v, h, b => by
    simp only [RelD] at h ⊢
    simp only [D.under] at b
    obtain ⟨x, vs, e, hs, hr⟩ := h
    exact ⟨x, vs, e, hs, RelDs.cut hr b⟩
  | .ref i, v, h, b => by
    simp only [RelD] at h ⊢
    simp only [D.under] at b
    obtain ⟨x, e, hs⟩ := h
    exact ⟨x, e, by rw [List.getElem?_take_of_lt b]; exact hs⟩
  | .xo _ _, _, h, _ => by simpa only [RelD] using h
theorem RelDs.cut {n : Nat} : ∀ {xs : List D} {vs : List V}, RelDs K ι H xs vs → D.unders n xs → RelDs K (ι.take n) H xs vs
  | [], _, h, _ => by simpa only [RelDs] using h
  | x :: xs, vs, h, b => by
    simp only [RelDs] at h ⊢
    simp only [D.unders] at b
    obtain ⟨v, r, e, h1, h2⟩ := h
    exact ⟨v, r, e, RelD.cut h1 b.1, RelDs.cut h2 b.2⟩
end
mutual
theorem RelD.anyI : ∀ {d : D} {v : V}, RelD K ι H d v → d.pure = true → RelD K ι' H d v
  | .non, _, h, _ => by simpa only [RelD] using h
  | .bl _, _, h, _ => by simpa only [RelD] using h
  | .int _, _, h, _ => by simpa only [RelD] using h
  | .str _, _, h, _ => by simpa only [RelD] using h
  | .tup xs, v, h, b => by
    simp only [RelD] at h ⊢
    simp only [D.pure] at b
    obtain ⟨x, vs, e, hs, hr⟩ := h
    exact ⟨x, vs, e, hs, RelDs.anyI hr b⟩
  | .ref i, v, h, b => by simp [D.pure] at b
  | .xo _ _, _, _, b => by simp [D.pure] at b
theorem RelDs.anyI : ∀ {xs : List D} {vs : List V}, RelDs K ι H xs vs → D.pures xs = true → RelDs K ι' H xs vs
  | [], _, h, _ => by simpa only [RelDs] using h
  | x :: xs, vs, h, b => by
    simp only [RelDs] at h ⊢
    simp only [D.pures, Bool.and_eq_true] at b
    obtain ⟨v, r, e, h1, h2⟩ := h
    exact ⟨v, r, e, RelD.anyI h1 b.1, RelDs.anyI h2 b.2⟩
end
theorem Paired.mapM {α β : Type} {F G : α → β → Prop} : ∀ {l : List α} {r : List β}, Paired F l r → (∀ a b, a ∈ l → F a b → G a b) → Paired G l r
  | _, _, .nil, _ => .nil
  | _, _, .cons q t, f => .cons (f _ _ List.mem_cons_self q) (Paired.mapM t fun a b h => f a b (List.mem_cons_of_mem _ h))
theorem OR.cut {n : Nat} {o : O} {a : Addr} (h : OR K ι H o a) (b : o.under n) : OR K (ι.take n) H o a := by
  cases o with
  | lst xs => obtain ⟨vs, e, r⟩ := h; exact ⟨vs, e, r.cut b⟩
  | ro xs => obtain ⟨vs, e, r⟩ := h; exact ⟨vs, e, r.cut b⟩
  | dk kvs => obtain ⟨vs, e, r⟩ := h; exact ⟨vs, e, Paired.mapM r fun p q hp f => ⟨f.1, f.2.cut (b p hp)⟩⟩
  | dt kvs => obtain ⟨vs, e, r⟩ := h; exact ⟨vs, e, Paired.mapM r fun p q hp f => ⟨f.1, f.2.cut (b p hp)⟩⟩
  | ins c fs => exact h.elim
theorem OR.anyI {o : O} {a : Addr} (h : OR K ι H o a) (b : o.pure = true) : OR K ι' H o a := by
  cases o with
  | lst xs => obtain ⟨vs, e, r⟩ := h; exact ⟨vs, e, r.anyI b⟩
  | ro xs => obtain ⟨vs, e, r⟩ := h; exact ⟨vs, e, r.anyI b⟩
  | dk kvs => obtain ⟨vs, e, r⟩ := h; exact ⟨vs, e, Paired.mapM r fun p q hp f => ⟨f.1, f.2.anyI (List.all_eq_true.mp b p hp)⟩⟩
  | dt kvs => obtain ⟨vs, e, r⟩ := h; exact ⟨vs, e, Paired.mapM r fun p q hp f => ⟨f.1, f.2.anyI (List.all_eq_true.mp b p hp)⟩⟩
  | ins c fs => exact h.elim
/-- the store cut at n -/
theorem SR.cut {n : Nat} (s : SR K ι H M) (b : Below n M) (h0 : 0 < n) : SR K (ι.take n) H (M.take n) := by
  refine ⟨by simp [s.len], fun i o a h hi => ?_, fun i j a o o' h1 h2 h3 h4 m1 m2 => ?_, by have := s.pos; simp; omega, fun i o h => ?_⟩
  rotate_left 2
  · have hin : i < n := by
      have := (List.getElem?_eq_some_iff.mp h).1
      rw [List.length_take] at this; omega
    rw [List.getElem?_take_of_lt hin] at h
    exact s.kind i o h
  · have hin : i < n := by
      have := (List.getElem?_eq_some_iff.mp h).1
      rw [List.length_take] at this; omega
    rw [List.getElem?_take_of_lt hin] at h hi
    exact (s.obj i o a h hi).cut (b i o hin h)
  · have lt : ∀ k r, (M.take n)[k]? = some r → k < n := fun k r e => by
      have := (List.getElem?_eq_some_iff.mp e).1
      rw [List.length_take] at this; omega
    have l1 := lt _ _ h3
    have l2 := lt _ _ h4
    rw [List.getElem?_take_of_lt l1] at h1 h3
    rw [List.getElem?_take_of_lt l2] at h2 h4
    exact s.inj i j a o o' h1 h2 h3 h4 m1 m2
/-- .. and one pure object more -/
theorem SR.cutOne {n j : Nat} {o : O} {a : Addr} (s : SR K ι H M) (b : Below n M) (h0 : 0 < n) (hn : n ≤ j) (h : M[j]? = some o) (hi : ι[j]? = some a) (hp : o.pure = true) : SR K (ι.take n ++ [a]) H (M.take n ++ [o]) := by
  have hj : j < M.length := (List.getElem?_eq_some_iff.mp h).1
  have hl : (ι.take n).length = n := by rw [List.length_take, s.len]; omega
  have hl' : (M.take n).length = n := by rw [List.length_take]; omega
  have sc := s.cut b h0
  have key : ∀ k x r, (ι.take n ++ [a])[k]? = some x → (M.take n ++ [o])[k]? = some r → (k < n ∧ (ι.take n)[k]? = some x ∧ (M.take n)[k]? = some r ∧ ι[k]? = some x ∧ M[k]? = some r) ∨ (k = n ∧ x = a ∧ r = o) := fun k x r e1 e2 => by
    by_cases hk : k < n
    · rw [List.getElem?_append_left (by omega)] at e1 e2
      exact .inl ⟨hk, e1, e2, by rw [List.getElem?_take_of_lt hk] at e1; exact e1, by rw [List.getElem?_take_of_lt hk] at e2; exact e2⟩
    · rw [List.getElem?_append_right (by omega)] at e1 e2
      have e0 : k - n = 0 := by
        have := (List.getElem?_eq_some_iff.mp e2).1
        rw [hl'] at this; simp at this; omega
      rw [hl, e0] at e1
      rw [hl', e0] at e2
      simp at e1 e2
      exact .inr ⟨by omega, e1.symm, e2.symm⟩
  refine ⟨by simp [hl, hl'], fun i q x e1 e2 => ?_, fun i k x q q' h1 h2 h3 h4 m1 m2 => ?_, by simp, fun i q e => ?_⟩
  rotate_left 2
  · by_cases hk : i < n
    · rw [List.getElem?_append_left (by omega)] at e
      exact sc.kind i q e
    · rw [List.getElem?_append_right (by omega)] at e
      have e0 : i - n = 0 := by
        have := (List.getElem?_eq_some_iff.mp e).1
        rw [hl'] at this; simp at this; omega
      rw [hl', e0] at e
      simp at e
      subst e
      exact ⟨fun _ => by omega, fun _ => (s.kind j _ h).mpr (by omega)⟩
  · rcases key i x q e2 e1 with ⟨hk, a1, a2, _, _⟩ | ⟨_, rfl, rfl⟩
    · have r := sc.obj i q x a2 a1
      refine r.mono (fun k y e => ?_) (fun _ _ h => h) (fun _ _ h => h) (fun _ _ _ h => h) fun _ _ h => h
      rw [List.getElem?_append_left (List.getElem?_eq_some_iff.mp e).1]; exact e
    · exact (s.obj j _ _ h hi).anyI hp
  · rcases key i x q h1 h3 with ⟨hk, _, _, a3, a4⟩ | ⟨a1, a2, a3⟩
    · rcases key k x q' h2 h4 with ⟨_, _, _, b3, b4⟩ | ⟨b1, b2, b3⟩
      · exact s.inj i k x q q' a3 b3 a4 b4 m1 m2
      · subst b2 b3
        have := s.inj i j _ q _ a3 hi a4 h m1 m2
        omega
    · rcases key k x q' h2 h4 with ⟨_, _, _, b3, b4⟩ | ⟨b1, b2, b3⟩
      · subst a2 a3
        have := s.inj k j _ q' _ b3 hi b4 h m2 m1
        omega
      · omega
end
end Sk
end
section
set_option Elab.async false
set_option linter.all false
set_option autoImplicit false
set_option maxRecDepth 100000
/-! SkB: operators by values. -/
namespace Sk
open PySem PySem.Spec PyProof.Rows L2

/-! ### data as the library's data -/
mutual
def D.toP : D → PyData
  | .non => .none
  | .bl b => .bool b
  | .int i => .int i
  | .str s => .str s
  | .tup xs => .tuple (D.toPs xs)
  | .ref _ => .none
  | .xo _ _ => .none
def D.toPs : List D → List PyData
  | [] => []
  | x :: xs => x.toP :: D.toPs xs
end
theorem D.toPs_map : ∀ xs : List D, D.toPs xs = xs.map D.toP
  | [] => by simp [D.toPs]
  | x :: xs => by simp [D.toPs, D.toPs_map xs]
section
variable {K : PySem.W.Frag} {ι ι' : List Addr} {H H' : Hp} {M : Store}
mutual
theorem RelD.dp : ∀ {d : D} {v : V}, RelD K ι H d v → d.pure = true → Dp K H v d.toP
  | .non, v, h, _ => by simp only [RelD] at h; subst h; simp only [D.toP]; exact .non
  | .bl _, v, h, _ => by simp only [RelD] at h; subst h; simp only [D.toP]; exact .bl _
  | .int _, v, h, _ => by simp only [RelD] at h; subst h; simp only [D.toP]; exact .int _
  | .str _, v, h, _ => by simp only [RelD] at h; obtain ⟨rfl, _⟩ := h; simp only [D.toP]; exact .str _
  | .tup xs, v, h, p => by
    simp only [RelD] at h
    simp only [D.pure] at p
    obtain ⟨a, vs, rfl, hs, hr⟩ := h
    simp only [D.toP]
    exact .tup hs (RelDs.dp hr p)
  | .ref i, v, h, p => by simp [D.pure] at p
  | .xo _ _, v, h, p => by simp [D.pure] at p
theorem RelDs.dp : ∀ {xs : List D} {vs : List V}, RelDs K ι H xs vs → D.pures xs = true → DpAll K H vs (D.toPs xs)
  | [], _, h, _ => by simp only [RelDs] at h; subst h; simp only [D.toPs]; exact .nil
  | x :: xs, vs, h, p => by
    simp only [RelDs] at h
    simp only [D.pures, Bool.and_eq_true] at p
    obtain ⟨v, r, rfl, h1, h2⟩ := h
    simp only [D.toPs]
    exact .cons (RelD.dp h1 p.1) (RelDs.dp h2 p.2)
end
mutual
theorem RelD.lay : ∀ {d : D} {v : V}, RelD K ι H d v → d.toP.canLay0 = true
  | .non, v, h => by simp [D.toP, PyData.canLay0]
  | .bl _, v, h => by simp [D.toP, PyData.canLay0]
  | .int _, v, h => by simp [D.toP, PyData.canLay0]
  | .str _, v, h => by simp only [RelD] at h; simp [D.toP, PyData.canLay0, h.2.2]
  | .tup xs, v, h => by
    simp only [RelD] at h
    obtain ⟨a, vs, rfl, hs, hr⟩ := h
    simp only [D.toP, PyData.canLay0]
    exact RelDs.lay hr
  | .ref i, v, h => by simp [D.toP, PyData.canLay0]
  | .xo _ _, v, h => by simp [D.toP, PyData.canLay0]
theorem RelDs.lay : ∀ {xs : List D} {vs : List V}, RelDs K ι H xs vs → PyData.canLayAll0 (D.toPs xs) = true
  | [], _, h => by simp [D.toPs, PyData.canLayAll0]
  | x :: xs, vs, h => by
    simp only [RelDs] at h
    obtain ⟨v, r, rfl, h1, h2⟩ := h
    simp only [D.toPs, PyData.canLayAll0, Bool.and_eq_true]
    exact ⟨RelD.lay h1, RelDs.lay h2⟩
end
mutual
theorem D.dle_depth : ∀ {d : D} {n : Nat}, d.dle n = true → d.toP.depth ≤ n
  | .non, _, _ => by simp [D.toP, PyData.depth]
  | .bl _, _, _ => by simp [D.toP, PyData.depth]
  | .int _, _, _ => by simp [D.toP, PyData.depth]
  | .str _, _, _ => by simp [D.toP, PyData.depth]
  | .ref _, _, _ => by simp [D.toP, PyData.depth]
  | .xo _ _, _, _ => by simp [D.toP, PyData.depth]
  | .tup xs, n, h => by
    cases n with
    | zero => simp [D.dle] at h
    | succ n =>
      simp only [D.dle] at h
      simp only [D.toP, PyData.depth]
      have := D.dles_depth h
      omega
theorem D.dles_depth : ∀ {xs : List D} {n : Nat}, D.dles xs n = true → PyData.depthAll (D.toPs xs) ≤ n
  | [], _, _ => by simp [D.toPs, PyData.depthAll]
  | x :: xs, n, h => by
    simp only [D.dles, Bool.and_eq_true] at h
    have h1 := D.dle_depth h.1
    have h2 := D.dles_depth h.2
    simp only [D.toPs, PyData.depthAll]
    omega
end
theorem RelD.shaped {d : D} {v : V} (h : RelD K ι H d v) (hd : d.dle 50 = true) : SeqAt.shaped d.toP = true := by
  have := D.dle_depth hd
  show (d.toP.canLay0 && decide (d.toP.depth ≤ 64)) = true
  rw [h.lay, Bool.true_and]
  exact decide_eq_true (by omega)
theorem RelDs.shapedL {xs : List D} {vs : List V} (h : RelDs K ι H xs vs) (hd : D.dles xs 50 = true) : SeqAt.shaped (.list (D.toPs xs)) = true := by
  have := D.dles_depth hd
  show ((PyData.list (D.toPs xs)).canLay0 && decide ((PyData.list (D.toPs xs)).depth ≤ 64)) = true
  simp only [PyData.canLay0, PyData.depth, h.lay, Bool.true_and]
  exact decide_eq_true (by omega)
theorem RelDs.shapedT {xs : List D} {vs : List V} (h : RelDs K ι H xs vs) (hd : D.dles xs 50 = true) : SeqAt.shaped (.tuple (D.toPs xs)) = true := by
  have := D.dles_depth hd
  show ((PyData.tuple (D.toPs xs)).canLay0 && decide ((PyData.tuple (D.toPs xs)).depth ≤ 64)) = true
  simp only [PyData.canLay0, PyData.depth, h.lay, Bool.true_and]
  exact decide_eq_true (by omega)
mutual
theorem D.eqv_toP : ∀ {a b : D}, a.pure = true → b.pure = true → PyData.eqv a.toP b.toP = D.eqv a b
  | .non, b, _, hb => by cases b <;> simp_all [D.toP, D.eqv, PyData.eqv, D.pure]
  | .bl x, b, _, hb => by cases b <;> simp_all [D.toP, D.eqv, PyData.eqv, D.pure]
  | .int i, b, _, hb => by cases b <;> simp_all [D.toP, D.eqv, PyData.eqv, D.pure]
  | .str s, b, _, hb => by cases b <;> simp_all [D.toP, D.eqv, PyData.eqv, D.pure]
  | .ref i, b, h, hb => by simp [D.pure] at h
  | .xo _ _, b, h, hb => by simp [D.pure] at h
  | .tup xs, b, h, hb => by
    cases b with
    | tup ys =>
      simp only [D.pure] at h hb
      simp only [D.toP, D.eqv, PyData.eqv]
      exact D.eqvs_toP h hb
    | ref i => simp [D.pure] at hb
    | xo _ _ => simp [D.pure] at hb
    | _ => simp [D.toP, D.eqv, PyData.eqv]
theorem D.eqvs_toP : ∀ {xs ys : List D}, D.pures xs = true → D.pures ys = true → PyData.eqvAll (D.toPs xs) (D.toPs ys) = D.eqvs xs ys
  | [], ys, _, _ => by cases ys <;> simp [D.toPs, D.eqvs, PyData.eqvAll]
  | x :: xs, ys, h, g => by
    cases ys with
    | nil => simp [D.toPs, D.eqvs, PyData.eqvAll]
    | cons y ys =>
      simp only [D.pures, Bool.and_eq_true] at h g
      simp only [D.toPs, D.eqvs, PyData.eqvAll]
      rw [D.eqv_toP h.1 g.1, D.eqvs_toP h.2 g.2]
end
mutual
theorem D.alike_toP : ∀ {a b : D}, D.alike a b = true → PySem.W.alike a.toP b.toP = true
  | .non, b, h => by cases b <;> simp_all [D.toP, D.alike, PySem.W.alike]
  | .bl x, b, h => by cases b <;> simp_all [D.toP, D.alike, PySem.W.alike]
  | .int i, b, h => by cases b <;> simp_all [D.toP, D.alike, PySem.W.alike]
  | .str s, b, h => by cases b <;> simp_all [D.toP, D.alike, PySem.W.alike]
  | .ref i, b, h => by simp [D.alike] at h
  | .xo _ _, b, h => by simp [D.alike] at h
  | .tup xs, b, h => by
    cases b with
    | tup ys =>
      simp only [D.alike] at h
      simp only [D.toP, PySem.W.alike]
      exact D.alikes_toP h
    | _ => simp [D.alike] at h
theorem D.alikes_toP : ∀ {xs ys : List D}, D.alikes xs ys = true → PySem.W.alikeAll (D.toPs xs) (D.toPs ys) = true
  | [], ys, _ => by simp [D.toPs, PySem.W.alikeAll]
  | x :: xs, ys, h => by
    cases ys with
    | nil => simp [D.toPs, PySem.W.alikeAll]
    | cons y ys =>
      simp only [D.alikes, Bool.and_eq_true] at h
      simp only [D.toPs, PySem.W.alikeAll, Bool.and_eq_true]
      exact ⟨D.alike_toP h.1, D.alikes_toP h.2⟩
end
theorem lex_ends (l : List (Int ⊕ List Nat)) : PyProof.Rows.lexLt itemOrd [Sum.inl 0] (Sum.inl 1 :: l) = true ∧ PyProof.Rows.lexLt itemOrd (Sum.inl 1 :: l) [Sum.inl 0] = false ∧ PyProof.Rows.lexLt itemOrd [(Sum.inl 0 : Int ⊕ List Nat)] [Sum.inl 0] = false := by
  have h1 := PySem.W.lex_atom (p := Sum.inl 0) (q := Sum.inl 1) (by intro z; cases z) ([] : List (Int ⊕ List Nat)) l
  have h2 := PySem.W.lex_atom (p := Sum.inl 1) (q := Sum.inl 0) (by intro z; cases z) l ([] : List (Int ⊕ List Nat))
  rw [h1, h2, PySem.W.lex_one, PySem.W.lex_one, PySem.W.lex_one]
  refine ⟨?_, ?_, ?_⟩ <;> rfl
mutual
theorem D.lt_toP : ∀ {a b : D}, D.alike a b = true → a.pure = true → b.pure = true → PySem.W.dataLt a.toP b.toP = D.lt a b
  | .non, b, h, _, _ => by
    cases b <;> simp_all [D.alike]
    simp only [D.toP, D.lt]; rfl
  | .bl x, b, h, _, _ => by
    cases b <;> simp_all [D.alike]
    rename_i y _
    simp only [D.toP, D.lt, PySem.W.dataLt_bool]
    cases x <;> cases y <;> rfl
  | .int i, b, h, _, _ => by
    cases b <;> simp_all [D.alike]
    simp only [D.toP, D.lt, PySem.W.dataLt_int]
  | .str s, b, h, _, _ => by
    cases b <;> simp_all [D.alike]
    simp only [D.toP, D.lt, PySem.W.dataLt_str]
  | .ref i, b, h, _, _ => by simp [D.alike] at h
  | .xo _ _, b, h, _, _ => by simp [D.alike] at h
  | .tup xs, b, h, p, q => by
    cases b with
    | tup ys =>
      simp only [D.alike] at h
      simp only [D.pure] at p q
      simp only [D.toP, D.lt, PySem.W.dataLt_tuple]
      exact D.lts_toP h p q
    | _ => simp [D.alike] at h
theorem D.lts_toP : ∀ {xs ys : List D}, D.alikes xs ys = true → D.pures xs = true → D.pures ys = true → PyProof.Rows.lexLt itemOrd (PySem.W.keyToksAll (D.toPs xs)) (PySem.W.keyToksAll (D.toPs ys)) = D.lts xs ys
  | [], ys, _, _, _ => by
    cases ys with
    | nil => simp only [D.toPs, D.lts, PySem.W.keyToksAll]; exact (lex_ends []).2.2
    | cons y ys => simp only [D.toPs, D.lts, PySem.W.keyToksAll]; exact (lex_ends _).1
  | x :: xs, ys, h, p, q => by
    cases ys with
    | nil => simp only [D.toPs, D.lts, PySem.W.keyToksAll]; exact (lex_ends _).2.1
    | cons y ys =>
      simp only [D.alikes, Bool.and_eq_true] at h
      simp only [D.pures, Bool.and_eq_true] at p q
      simp only [D.toPs, D.lts]
      have ha := D.alike_toP h.1
      have he := D.eqv_toP p.1 q.1
      cases e : D.eqv x y with
      | true =>
        rw [e] at he
        rw [PySem.W.dataLt_all_yes ha he, if_pos rfl]
        exact D.lts_toP h.2 p.2 q.2
      | false =>
        rw [e] at he
        rw [PySem.W.dataLt_all_no ha he, if_neg (by simp)]
        exact D.lt_toP h.1 p.1 q.1
end
theorem D.toP_ne_none {d : D} (h : d.isNon = false) (p : d.pure = true) : d.toP ≠ .none := by
  cases d <;> simp_all [D.isNon, D.toP, D.pure]
end

/-! ### results -/
section
variable (K : PySem.W.Frag) (ι : List Addr) (H : Hp)
/-- what is wanted of a result -/
def OkR (Q : VK) : Res D → Prop
  | .ok d M' => ∀ ι' H' v, Step ι H ι' H' → SR K ι' H' M' → RelD K ι' H' d v → Q v H'
  | _ => False
/-- a binary operator by data -/
def rB (f : D → D → Store → Res D) : R2 := fun x y H Q => ∃ ι M a b, SR K ι H M ∧ RelD K ι H a x ∧ RelD K ι H b y ∧ OkR K ι H Q (f a b M)
def rA (f : List D → Store → Res D) : List V → Hp → VK → Prop := fun vs H Q => ∃ ι M ds, SR K ι H M ∧ RelDs K ι H ds vs ∧ OkR K ι H Q (f ds M)
def rMt (f : D → List D → Store → Res D) : V → List V → Hp → VK → Prop := fun x vs H Q => ∃ ι M a ds, SR K ι H M ∧ RelD K ι H a x ∧ RelDs K ι H ds vs ∧ OkR K ι H Q (f a ds M)
end
section
variable {K : PySem.W.Frag} {ι ι' : List Addr} {H H' : Hp} {M : Store}
theorem OkR.same {Q : VK} {d : D} {v : V} (h : OkR K ι H Q (.ok d M)) (s : SR K ι H M) (r : RelD K ι H d v) : Q v H := h ι H v .refl s r
/-- a new object, held by the store -/
theorem OkR.new {Q : VK} {o : O} {u : HO} {p : Addr} (h : OkR K ι H Q (alloc M o)) (s : SR K ι H M) (hp : H p = none) (hm : o.mut = true) (new : OR K (ι ++ [p]) (upd H p u) o p) : Q (.ref p) (upd H p u) := by
  refine h (ι ++ [p]) (upd H p u) (.ref p) (Step.alloc hp) (s.alloc hp new hm) ?_
  simp only [RelD]
  exact ⟨p, rfl, by rw [List.getElem?_append_right (by rw [s.len]; exact Nat.le_refl _), s.len]; simp⟩
/-- a new tuple -/
theorem OkR.newT {Q : VK} {xs : List D} {vs : List V} {p : Addr} (h : OkR K ι H Q (.ok (.tup xs) M)) (s : SR K ι H M) (hp : H p = none) (r : RelDs K ι H xs vs) : Q (.ref p) (upd H p (.tup vs)) := by
  refine h ι (upd H p (.tup vs)) (.ref p) (Step.fresh hp) (s.fresh hp) ?_
  simp only [RelD]
  exact ⟨p, vs, rfl, .inl (.inl upd_same), r.step (Step.fresh hp)⟩
theorem relD_str {s t : Str} {v : V} (h : RelD K ι H (.str s) v) : v = .str s ∧ s.length ≤ sizeLine ∧ PyData.strOk s = true := by simpa only [RelD] using h
theorem relD_int {i : Int} {v : V} (h : RelD K ι H (.int i) v) : v = .int i := by simpa only [RelD] using h
theorem relD_bl {i : Bool} {v : V} (h : RelD K ι H (.bl i) v) : v = .bl i := by simpa only [RelD] using h
theorem relD_non {v : V} (h : RelD K ι H .non v) : v = .non := by simpa only [RelD] using h
theorem RelD.ints {i : Int} : RelD K ι H (.int i) (.int i) := by simp only [RelD]
theorem RelD.bls {i : Bool} : RelD K ι H (.bl i) (.bl i) := by simp only [RelD]
theorem RelD.nons : RelD K ι H .non .non := by simp only [RelD]
theorem RelD.strs {s : Str} (h : s.length ≤ sizeLine) (g : PyData.strOk s = true) : RelD K ι H (.str s) (.str s) := by simpa only [RelD, true_and] using ⟨h, g⟩
theorem strOk_app {s t : Str} (h : PyData.strOk s = true) (g : PyData.strOk t = true) : PyData.strOk (s ++ t) = true := by
  have e : (s ++ t).cps = s.cps ++ t.cps := rfl
  unfold PyData.strOk at h g ⊢
  rw [e, Array.all_append, h, g]; rfl
theorem strOk_list {s : Str} : PyData.strOk s = true ↔ ∀ c ∈ s.cps.toList, c < 1114112 := by
  unfold PyData.strOk
  rw [Array.all_eq_true_iff_forall_mem]
  constructor
  · intro h c hc
    simpa using h c (Array.mem_toList_iff.mp hc)
  · intro h c hc
    simpa using h c (Array.mem_toList_iff.mpr hc)
theorem strOk_of {l : List Nat} (h : ∀ c ∈ l, c < 1114112) : PyData.strOk ⟨l.toArray⟩ = true := strOk_list.mpr (by simpa using h)
theorem listAt_lst {i : Nat} {xs : List D} (h : listAt M i = some xs) : M[i]? = some (.lst xs) ∨ M[i]? = some (.ro xs) := by
  unfold listAt at h
  split at h
  · cases h; rename_i e; exact .inl e
  · cases h; rename_i e; exact .inr e
  · cases h
/-- a list that may be read -/
theorem SR.list {i : Nat} {xs : List D} {v : V} (s : SR K ι H M) (h : listAt M i = some xs) (r : RelD K ι H (.ref i) v) : ∃ a vs, v = .ref a ∧ SqL K H a vs ∧ RelDs K ι H xs vs := by
  rcases listAt_lst h with e | e
  · obtain ⟨a, rfl, _, vs, q, rs⟩ := s.ref e r
    exact ⟨a, vs, rfl, .inl (.inl q), rs⟩
  · obtain ⟨a, rfl, _, vs, q, rs⟩ := s.ref e r
    exact ⟨a, vs, rfl, q.sqL, rs⟩
theorem SR.lst {i : Nat} {xs : List D} {v : V} (s : SR K ι H M) (e : M[i]? = some (.lst xs)) (r : RelD K ι H (.ref i) v) : ∃ a vs, v = .ref a ∧ ι[i]? = some a ∧ H a = some (.lst vs) ∧ RelDs K ι H xs vs := by
  obtain ⟨a, rfl, hi, vs, q, rs⟩ := s.ref e r
  exact ⟨a, vs, rfl, hi, q, rs⟩
end

section
variable {X : L2.Cx}
theorem okMul_ok {i j : Int} (h : okMul i j = true) : IntMulOk i j := by
  unfold okMul smallI at h
  simp only [Bool.or_eq_true, decide_eq_true_eq] at h
  rcases h with (h | h) | h
  · exact CMul.ok (.inl h)
  · exact CMul.ok (.inr h)
  · exact CMulW.ok h
theorem op_mulA : OpR X (binaryOp .Mult) (rI IntMulOk fun i j => .int (i * j)) := opI fun _ _ _ _ _ _ _ hc q => mul_int q hc
theorem op_fdivA : OpR X (binaryOp .FloorDiv) (rI (fun _ j => okDiv j = true) fun i j => .int (i / j)) := by
  intro pins s σ H x y v u Q I rx ry h
  obtain ⟨i, j, rfl, rfl, hc, q⟩ := h
  unfold okDiv at hc
  simp only [Bool.or_eq_true, decide_eq_true_eq] at hc
  rcases hc with hc | hc
  · exact op_fdiv pins s σ H _ _ v u Q I rx ry ⟨i, j, rfl, rfl, hc, q⟩
  · exact op_fdivW pins s σ H _ _ v u Q I rx ry ⟨i, j, rfl, rfl, hc, q⟩

theorem ob_add : OpR X (binaryOp .Add) (rB X.K (binD .add)) := by
  intro pins s σ H x y v u Q I rx ry h
  obtain ⟨ι, M, a, b, S, ra, rb, h⟩ := h
  cases a with
  | int i =>
    cases b with
    | int j =>
      rw [relD_int ra] at rx
      rw [relD_int rb] at ry
      exact op_add pins s σ H _ _ v u Q I rx ry ⟨i, j, rfl, rfl, OkR.same h S .ints⟩
    | _ => exact h.elim
  | str s1 =>
    cases b with
    | str s2 =>
      obtain ⟨rfl, l1, k1⟩ := relD_str (t := s1) ra
      obtain ⟨rfl, l2, k2⟩ := relD_str (t := s1) rb
      simp only [binD, addD] at h
      split at h
      · rename_i hl
        rw [lim_eq] at hl
        refine op_add_str pins s σ H _ _ v u Q I rx ry ⟨s1, s2, rfl, rfl, hl, OkR.same h S (.strs ?_ (strOk_app k1 k2))⟩
        have e : (s1 ++ s2).length = s1.length + s2.length := Array.size_append
        rw [e]; exact hl
      · exact h.elim
    | _ => exact h.elim
  | tup xs =>
    cases b with
    | tup ys =>
      simp only [RelD] at ra rb
      obtain ⟨a1, vs, rfl, h1, r1⟩ := ra
      obtain ⟨b1, ws, rfl, h2, r2⟩ := rb
      simp only [binD, addD] at h
      split at h
      · rename_i hl
        rw [lim_eq] at hl
        refine op_catA pins s σ H _ _ v u Q I rx ry ⟨a1, b1, vs, ws, rfl, rfl, h1, h2, by rw [← r1.length, ← r2.length]; exact hl, fun e => ?_, fun e e2 => ?_, fun _ _ p hp => OkR.newT h S hp (r1.append r2)⟩
        · refine OkR.same h S ?_
          have : xs = [] := by have := r1.length; rw [e] at this; simpa using this
          subst this
          simp only [List.nil_append, RelD]
          exact ⟨b1, ws, rfl, h2, r2⟩
        · refine OkR.same h S ?_
          have : ys = [] := by have := r2.length; rw [e2] at this; simpa using this
          subst this
          simp only [List.append_nil, RelD]
          exact ⟨a1, vs, rfl, h1, r1⟩
      · exact h.elim
    | _ => exact h.elim
  | ref i =>
    cases b with
    | ref j =>
      simp only [binD, addD] at h
      split at h
      · rename_i xs ys e1 e2
        obtain ⟨a1, vs, rfl, _, h1, r1⟩ := S.lst e1 ra
        obtain ⟨b1, ws, rfl, _, h2, r2⟩ := S.lst e2 rb
        split at h
        · rename_i hl
          rw [lim_eq] at hl
          refine op_cat pins s σ H _ _ v u Q I rx ry ⟨a1, b1, vs, ws, rfl, rfl, h1, h2, by rw [← r1.length, ← r2.length]; exact hl, fun p hp => OkR.new h S hp rfl ⟨_, upd_same, (r1.append r2).step (Step.alloc hp)⟩⟩
        · exact h.elim
      · exact h.elim
    | _ => exact h.elim
  | _ => exact h.elim
theorem ob_sub : OpR X (binaryOp .Sub) (rB X.K (binD .sub)) := by
  intro pins s σ H x y v u Q I rx ry h
  obtain ⟨ι, M, a, b, S, ra, rb, h⟩ := h
  simp only [binD] at h
  split at h
  · rename_i i j
    rw [relD_int ra] at rx
    rw [relD_int rb] at ry
    exact op_sub pins s σ H _ _ v u Q I rx ry ⟨i, j, rfl, rfl, OkR.same h S .ints⟩
  · exact h.elim
theorem ob_fdiv : OpR X (binaryOp .FloorDiv) (rB X.K (binD .fdiv)) := by
  intro pins s σ H x y v u Q I rx ry h
  obtain ⟨ι, M, a, b, S, ra, rb, h⟩ := h
  simp only [binD] at h
  split at h
  · rename_i i j
    rw [relD_int ra] at rx
    rw [relD_int rb] at ry
    split at h
    · rename_i hc
      exact op_fdivA pins s σ H _ _ v u Q I rx ry ⟨i, j, rfl, rfl, hc, OkR.same h S .ints⟩
    · exact h.elim
  · exact h.elim
theorem ob_mod : OpR X (binaryOp .Mod) (rB X.K (binD .mod)) := by
  intro pins s σ H x y v u Q I rx ry h
  obtain ⟨ι, M, a, b, S, ra, rb, h⟩ := h
  simp only [binD] at h
  split at h
  · rename_i i j
    rw [relD_int ra] at rx
    rw [relD_int rb] at ry
    split at h
    · rename_i hc
      exact op_mod pins s σ H _ _ v u Q I rx ry ⟨i, j, rfl, rfl, hc, OkR.same h S .ints⟩
    · exact h.elim
  · exact h.elim
theorem ob_pow : OpR X (binaryOp .Pow) (rB X.K (binD .pow)) := by
  intro pins s σ H x y v u Q I rx ry h
  obtain ⟨ι, M, a, b, S, ra, rb, h⟩ := h
  simp only [binD] at h
  split at h
  · rename_i i j
    rw [relD_int ra] at rx
    rw [relD_int rb] at ry
    split at h
    · rename_i hc
      unfold okPow at hc
      exact op_pow pins s σ H _ _ v u Q I rx ry ⟨i, j, rfl, rfl, (by simp only [decide_eq_true_eq] at hc; exact hc), OkR.same h S .ints⟩
    · exact h.elim
  · exact h.elim
end
end Sk
end
section
set_option Elab.async false
set_option linter.all false
set_option autoImplicit false
set_option maxRecDepth 100000
/-! SkB2: products, comparisons, items, slices. -/
namespace Sk
open PySem PySem.Spec PyProof.Rows L2
section
variable {X : L2.Cx}

/-! ### products -/
theorem foldl_reps (c : Array Nat) : ∀ (n : Nat) (acc : Array Nat), ((List.replicate n c).foldl (· ++ ·) acc).toList = acc.toList ++ (List.replicate n c.toList).flatten
  | 0, acc => by simp
  | n + 1, acc => by
    rw [List.replicate_succ, List.foldl_cons, foldl_reps c n]
    simp [List.replicate_succ]
theorem strRep_eq (s : Str) (k : Int) (hk : ¬ k < 1) : strRep s k = ⟨(List.replicate k.toNat s.cps).foldl (· ++ ·) #[]⟩ := by
  unfold strRep
  congr 1
  apply Array.ext'
  rw [foldl_reps]; simp
theorem txtMul_eq (s : Str) (k : Int) : Txt.mul s k = strRep s k := by
  unfold Txt.mul
  by_cases h : k < 1
  · rw [if_pos h]
    have : k.toNat = 0 := by omega
    unfold strRep; rw [this]; rfl
  · rw [if_neg h]
    by_cases h1 : (k == 1 || s.length == 0) = true
    · rw [if_pos h1]
      rw [Bool.or_eq_true] at h1
      rcases h1 with h1 | h1
      · have : k = 1 := by simpa using h1
        subst this
        unfold strRep
        have e : (List.replicate (Int.toNat 1) s.cps.toList).flatten = s.cps.toList := by simp
        rw [e]
      · have hl : s.cps.toList = [] := by
          have : s.cps.size = 0 := by simpa [Str.length] using h1
          simpa using this
        unfold strRep; rw [hl]
        have : s = ⟨#[]⟩ := by
          cases s with
          | mk c => congr 1; simpa using hl
        rw [this]; simp
    · rw [if_neg h1, strRep_eq s k h]
theorem strRep_len (s : Str) (k : Int) : (strRep s k).length = k.toNat * s.length := by
  unfold strRep Str.length
  simp [List.length_flatten]
theorem strRep_ok {s : Str} (k : Int) (h : PyData.strOk s = true) : PyData.strOk (strRep s k) = true := by
  unfold strRep
  refine strOk_of fun c hc => ?_
  rw [List.mem_flatten] at hc
  obtain ⟨l, hl, hc⟩ := hc
  rw [List.mem_replicate] at hl
  exact strOk_list.mp h c (hl.2 ▸ hc)
theorem ob_mul : OpR X (binaryOp .Mult) (rB X.K (binD .mul)) := by
  intro pins s σ H x y v u Q I rx ry h
  obtain ⟨ι, M, a, b, S, ra, rb, h⟩ := h
  cases a with
  | int i =>
    cases b with
    | int j =>
      rw [relD_int ra] at rx
      rw [relD_int rb] at ry
      simp only [binD, mulD] at h
      split at h
      · rename_i hc
        exact op_mulA pins s σ H _ _ v u Q I rx ry ⟨i, j, rfl, rfl, okMul_ok hc, OkR.same h S .ints⟩
      · exact h.elim
    | _ => exact h.elim
  | tup xs =>
    cases b with
    | int k =>
      simp only [RelD] at ra
      obtain ⟨a1, vs, rfl, h1, r1⟩ := ra
      rw [relD_int rb] at ry
      simp only [binD, mulD] at h
      split at h
      · rename_i hc
        obtain ⟨c1, c2, c3, c4⟩ := hc
        refine op_repT pins s σ H _ _ v u Q I rx ry ⟨a1, k, vs, rfl, rfl, h1, fun e => c1 ?_, c2, c3, by rw [← r1.length]; exact c4, fun p hp => OkR.newT h S hp (r1.reps _)⟩
        have := r1.length
        rw [e] at this
        simpa using this
      · exact h.elim
    | _ => exact h.elim
  | ref i =>
    cases b with
    | int k =>
      rw [relD_int rb] at ry
      simp only [binD, mulD] at h
      split at h
      · rename_i xs e1
        obtain ⟨a1, vs, rfl, _, h1, r1⟩ := S.lst e1 ra
        split at h
        · rename_i hc
          obtain ⟨c1, c2, c3⟩ := hc
          rw [lim_eq] at c3
          refine op_rep pins s σ H _ _ v u Q I rx ry ⟨a1, k, vs, rfl, rfl, h1, c1, c2, by rw [← r1.length]; exact c3, fun p hp => OkR.new h S hp rfl ⟨_, upd_same, (r1.reps _).step (Step.alloc hp)⟩⟩
        · exact h.elim
      · exact h.elim
    | _ => exact h.elim
  | str z =>
    cases b with
    | int k =>
      obtain ⟨rfl, l1, k1⟩ := relD_str (t := z) ra
      rw [relD_int rb] at ry
      simp only [binD, mulD] at h
      split at h
      · rename_i hc
        obtain ⟨c1, c2, c3⟩ := hc
        obtain ⟨t1, rfl⟩ := rx
        obtain ⟨t2, rfl⟩ := ry
        have hm : z.length * k.toNat ≤ 16 * 1000000 := Nat.mul_le_mul c3 (by omega)
        refine SB.mul ⟨?_, fun hk _ => ?_, fun hk _ => ?_⟩ fun t' k' => ?_
        · rw [decide_eq_false (by omega), decide_eq_false (by omega)]; rfl
        · intro z
          have h2 : (2 ^ 63 - 1 : Int) / k ≥ 16 := Int.le_ediv_of_mul_le (by omega) (by omega)
          omega
        · unfold Builtin.Str.tooLong
          rw [decide_eq_false]
          rw [sizeLine_eq]; omega
        · rw [txtMul_eq]
          refine ⟨.str (strRep z k), H, I.tok _, ⟨_, rfl⟩, OkR.same h S (.strs ?_ (strRep_ok k k1))⟩
          rw [strRep_len, sizeLine_eq, Nat.mul_comm]; omega
      · exact h.elim
    | _ => exact h.elim
  | _ => exact h.elim

/-! ### comparisons -/
theorem OkR.bool {K : PySem.W.Frag} {ι : List Addr} {H : Hp} {M : Store} {Q : VK} {o : Option Bool} (h : OkR K ι H Q (optB M o)) (s : SR K ι H M) : ∃ b, o = some b ∧ Q (.bl b) H := by
  cases o with
  | none => exact h.elim
  | some b => exact ⟨b, rfl, OkR.same h s .bls⟩
theorem eqM_dp {K : PySem.W.Frag} {ι : List Addr} {H : Hp} {M : Store} {a b : D} {x y : V} {k : Bool} (S : SR K ι H M) (ra : RelD K ι H a x) (rb : RelD K ι H b y) (e : eqM M a b = some k) :
    ∃ d d', Dp K H x d ∧ Dp K H y d' ∧ SeqAt.shaped d = true ∧ SeqAt.shaped d' = true ∧ PyData.eqv d d' = k := by
  have plain : a.pure = true ∧ b.pure = true ∧ a.dle 50 = true ∧ b.dle 50 = true → D.eqv a b = k → ∃ d d', Dp K H x d ∧ Dp K H y d' ∧ SeqAt.shaped d = true ∧ SeqAt.shaped d' = true ∧ PyData.eqv d d' = k := fun ⟨p, q, l, m⟩ e =>
    ⟨_, _, ra.dp p, rb.dp q, ra.shaped l, rb.shaped m, by rw [D.eqv_toP p q]; exact e⟩
  have mixL : ∀ i, a = .ref i → (∀ j, b ≠ .ref j) → (match listAt M i with
    | some xs => if D.pures xs = true ∧ b.pure = true ∧ D.dles xs 50 = true ∧ b.dle 50 = true then some false else none
    | none => none) = some k → ∃ d d', Dp K H x d ∧ Dp K H y d' ∧ SeqAt.shaped d = true ∧ SeqAt.shaped d' = true ∧ PyData.eqv d d' = k := by
    rintro i rfl hb e
    split at e
    · rename_i xs hl
      split at e
      · rename_i hc
        obtain ⟨p, q, l, m⟩ := hc
        cases e
        obtain ⟨a1, vs, rfl, hs, r⟩ := S.list hl ra
        refine ⟨.list (D.toPs xs), b.toP, .lst hs (r.dp p), rb.dp q, r.shapedL l, rb.shaped m, ?_⟩
        cases b <;> simp_all [D.toP, PyData.eqv, D.pure]
      · cases e
    · cases e
  have mixR : ∀ j, b = .ref j → (∀ i, a ≠ .ref i) → (match listAt M j with
    | some ys => if a.pure = true ∧ D.pures ys = true ∧ a.dle 50 = true ∧ D.dles ys 50 = true then some false else none
    | none => none) = some k → ∃ d d', Dp K H x d ∧ Dp K H y d' ∧ SeqAt.shaped d = true ∧ SeqAt.shaped d' = true ∧ PyData.eqv d d' = k := by
    rintro j rfl ha e
    split at e
    · rename_i xs hl
      split at e
      · rename_i hc
        obtain ⟨p, q, l, m⟩ := hc
        cases e
        obtain ⟨a1, vs, rfl, hs, r⟩ := S.list hl rb
        refine ⟨a.toP, .list (D.toPs xs), ra.dp p, .lst hs (r.dp q), ra.shaped l, r.shapedL m, ?_⟩
        cases a <;> simp_all [D.toP, PyData.eqv, D.pure]
      · cases e
    · cases e
  cases a with
  | ref i =>
    cases b with
    | ref j =>
      simp only [eqM] at e
      split at e
      · rename_i xs ys e1 e2
        split at e
        · rename_i hc
          obtain ⟨p, q, l, m⟩ := hc
          cases e
          obtain ⟨a1, vs, rfl, hs, r⟩ := S.list e1 ra
          obtain ⟨b1, ws, rfl, hs2, r2⟩ := S.list e2 rb
          refine ⟨.list (D.toPs xs), .list (D.toPs ys), .lst hs (r.dp p), .lst hs2 (r2.dp q), r.shapedL l, r2.shapedL m, ?_⟩
          simp only [PyData.eqv]
          exact D.eqvs_toP p q
        · cases e
      · cases e
    | _ => exact mixL i rfl (fun j z => by cases z) e
  | non =>
    cases b with
    | ref j => exact mixR j rfl (fun j z => by cases z) e
    | _ => simp only [eqM] at e; split at e <;> first | (rename_i hc; exact plain hc (Option.some.inj e)) | cases e
  | bl _ =>
    cases b with
    | ref j => exact mixR j rfl (fun j z => by cases z) e
    | _ => simp only [eqM] at e; split at e <;> first | (rename_i hc; exact plain hc (Option.some.inj e)) | cases e
  | int _ =>
    cases b with
    | ref j => exact mixR j rfl (fun j z => by cases z) e
    | _ => simp only [eqM] at e; split at e <;> first | (rename_i hc; exact plain hc (Option.some.inj e)) | cases e
  | str _ =>
    cases b with
    | ref j => exact mixR j rfl (fun j z => by cases z) e
    | _ => simp only [eqM] at e; split at e <;> first | (rename_i hc; exact plain hc (Option.some.inj e)) | cases e
  | tup _ =>
    cases b with
    | ref j => exact mixR j rfl (fun j z => by cases z) e
    | _ => simp only [eqM] at e; split at e <;> first | (rename_i hc; exact plain hc (Option.some.inj e)) | cases e
  | xo _ _ =>
    cases b with
    | ref j => exact mixR j rfl (fun j z => by cases z) e
    | _ => simp only [eqM] at e; split at e <;> first | (rename_i hc; exact plain hc (Option.some.inj e)) | cases e
/-- room on the stack -/
def Rm (X : L2.Cx) : Prop := X.A.units + 200 < cLine
theorem oc_eq (hu : Rm X) : OpR X (compareOp .Eq) (rB X.K (cmpD .eq)) := by
  intro pins s σ H x y v u Q I rx ry h
  obtain ⟨ι, M, a, b, S, ra, rb, h⟩ := h
  obtain ⟨k, e, q⟩ := OkR.bool h S
  obtain ⟨d, d', h1, h2, h3, h4, h5⟩ := eqM_dp S ra rb e
  exact op_eqD (by unfold Rm at hu; omega) pins s σ H _ _ v u Q I rx ry ⟨d, d', h1, h2, h3, h4, by rw [h5]; exact q⟩
theorem oc_ne (hu : Rm X) : OpR X (compareOp .NotEq) (rB X.K (cmpD .ne)) := by
  intro pins s σ H x y v u Q I rx ry h
  obtain ⟨ι, M, a, b, S, ra, rb, h⟩ := h
  obtain ⟨k, e, q⟩ := OkR.bool h S
  obtain ⟨k', e', rfl⟩ := Option.map_eq_some_iff.mp e
  obtain ⟨d, d', h1, h2, h3, h4, h5⟩ := eqM_dp S ra rb e'
  exact op_neD (by unfold Rm at hu; omega) pins s σ H _ _ v u Q I rx ry ⟨d, d', h1, h2, h3, h4, by rw [h5]; exact q⟩
theorem okLt_facts {a b : D} (h : okLt a b = true) : D.alike a b = true ∧ a.isNon = false ∧ a.pure = true ∧ b.pure = true ∧ a.dle 50 = true ∧ b.dle 50 = true := by
  unfold okLt at h
  simp only [Bool.and_eq_true, Bool.not_eq_true'] at h
  obtain ⟨⟨⟨⟨⟨h1, h2⟩, h3⟩, h4⟩, h5⟩, h6⟩ := h
  exact ⟨h1, h2, h3, h4, h5, h6⟩
theorem lt_room {a b : D} (hu : Rm X) (h : a.dle 50 = true) : X.A.units + min a.toP.depth b.toP.depth < cLine := by
  have := D.dle_depth h
  unfold Rm at hu
  omega
theorem D.alike_comm {a b : D} (h : D.alike a b = true) (p : a.pure = true) (q : b.pure = true) : PySem.W.alike b.toP a.toP = true := by
  rw [PySem.W.alike_comm]; exact D.alike_toP h
mutual
theorem D.alike_symm : ∀ {a b : D}, D.alike a b = true → D.alike b a = true
  | .non, b, h => by cases b <;> simp_all [D.alike]
  | .bl x, b, h => by cases b <;> simp_all [D.alike]
  | .int i, b, h => by cases b <;> simp_all [D.alike]
  | .str s, b, h => by cases b <;> simp_all [D.alike]
  | .ref i, b, h => by simp [D.alike] at h
  | .xo _ _, b, h => by simp [D.alike] at h
  | .tup xs, b, h => by
    cases b with
    | tup ys => simp only [D.alike] at h ⊢; exact D.alikes_symm h
    | _ => simp [D.alike] at h
theorem D.alikes_symm : ∀ {xs ys : List D}, D.alikes xs ys = true → D.alikes ys xs = true
  | [], ys, _ => by cases ys <;> simp [D.alikes]
  | x :: xs, ys, h => by
    cases ys with
    | nil => simp [D.alikes]
    | cons y ys =>
      simp only [D.alikes, Bool.and_eq_true] at h ⊢
      exact ⟨D.alike_symm h.1, D.alikes_symm h.2⟩
end
theorem oc_lt (hu : Rm X) : OpR X (compareOp .Lt) (rB X.K (cmpD .lt)) := by
  intro pins s σ H x y v u Q I rx ry h
  obtain ⟨ι, M, a, b, S, ra, rb, h⟩ := h
  simp only [cmpD] at h
  split at h
  · rename_i hc
    obtain ⟨h1, h2, h3, h4, h5, h6⟩ := okLt_facts hc
    obtain ⟨as, r1⟩ := Dp.reads I _ _ _ (ra.dp h3) rx
    obtain ⟨bs, r2⟩ := Dp.reads I _ _ _ (rb.dp h4) ry
    refine PySem.W.lt_data r1 r2 (D.alike_toP h1) (D.toP_ne_none h2 h3) (lt_room hu h5) ⟨.bl _, H, I, rfl, ?_⟩
    rw [D.lt_toP h1 h3 h4]
    exact OkR.same h S .bls
  · exact h.elim
theorem oc_gt (hu : Rm X) : OpR X (compareOp .Gt) (rB X.K (cmpD .gt)) := by
  intro pins s σ H x y v u Q I rx ry h
  obtain ⟨ι, M, a, b, S, ra, rb, h⟩ := h
  simp only [cmpD] at h
  split at h
  · rename_i hc
    obtain ⟨h1, h2, h3, h4, h5, h6⟩ := okLt_facts hc
    obtain ⟨as, r1⟩ := Dp.reads I _ _ _ (ra.dp h3) rx
    obtain ⟨bs, r2⟩ := Dp.reads I _ _ _ (rb.dp h4) ry
    refine PySem.W.gt_data r1 r2 (D.alike_toP h1) (D.toP_ne_none h2 h3) (lt_room hu h5) ⟨.bl _, H, I, rfl, ?_⟩
    rw [D.lt_toP (D.alike_symm h1) h4 h3]
    exact OkR.same h S .bls
  · exact h.elim
theorem oc_le (hu : Rm X) : OpR X (compareOp .LtE) (rB X.K (cmpD .le)) := by
  intro pins s σ H x y v u Q I rx ry h
  obtain ⟨ι, M, a, b, S, ra, rb, h⟩ := h
  simp only [cmpD] at h
  split at h
  · rename_i hc
    obtain ⟨h1, h2, h3, h4, h5, h6⟩ := okLt_facts hc
    obtain ⟨as, r1⟩ := Dp.reads I _ _ _ (ra.dp h3) rx
    obtain ⟨bs, r2⟩ := Dp.reads I _ _ _ (rb.dp h4) ry
    refine PySem.W.le_data r1 r2 (D.alike_toP h1) (D.toP_ne_none h2 h3) (lt_room hu h5) ⟨.bl _, H, I, rfl, ?_⟩
    rw [D.lt_toP (D.alike_symm h1) h4 h3]
    exact OkR.same h S .bls
  · exact h.elim
theorem oc_ge (hu : Rm X) : OpR X (compareOp .GtE) (rB X.K (cmpD .ge)) := by
  intro pins s σ H x y v u Q I rx ry h
  obtain ⟨ι, M, a, b, S, ra, rb, h⟩ := h
  simp only [cmpD] at h
  split at h
  · rename_i hc
    obtain ⟨h1, h2, h3, h4, h5, h6⟩ := okLt_facts hc
    obtain ⟨as, r1⟩ := Dp.reads I _ _ _ (ra.dp h3) rx
    obtain ⟨bs, r2⟩ := Dp.reads I _ _ _ (rb.dp h4) ry
    refine PySem.W.ge_data r1 r2 (D.alike_toP h1) (D.toP_ne_none h2 h3) (lt_room hu h5) ⟨.bl _, H, I, rfl, ?_⟩
    rw [D.lt_toP h1 h3 h4]
    exact OkR.same h S .bls
  · exact h.elim
theorem isNon_v {K : PySem.W.Frag} {ι : List Addr} {H : Hp} {a : D} {x : V} (r : RelD K ι H a x) : decide (x = .non) = a.isNon := by
  cases a with
  | non => rw [relD_non r]; rfl
  | bl b => rw [relD_bl r]; rfl
  | int b => rw [relD_int r]; rfl
  | str b => rw [(relD_str (t := b) r).1]; rfl
  | tup xs => simp only [RelD] at r; obtain ⟨_, _, rfl, _⟩ := r; rfl
  | ref i => simp only [RelD] at r; obtain ⟨_, rfl, _⟩ := r; rfl
  | xo f k => simp only [RelD] at r; obtain ⟨_, _, _, _, _, _, rfl, _⟩ := r; rfl
theorem oc_is : OpR X (compareOp .Is) (rB X.K (cmpD .is)) := by
  intro pins s σ H x y v u Q I rx ry h
  obtain ⟨ι, M, a, b, S, ra, rb, h⟩ := h
  simp only [cmpD] at h
  split at h
  · rw [relD_non rb] at ry
    exact op_isN pins s σ H _ _ v u Q I rx ry ⟨rfl, by rw [isNon_v ra]; exact OkR.same h S .bls⟩
  · split at h
    · rw [relD_bl ra] at rx
      rw [relD_bl rb] at ry
      cases rx
      cases ry
      exact PyProof.Rows.is_bool ⟨.bl _, H, I, rfl, OkR.same h S .bls⟩
    · exact h.elim
  · exact h.elim
theorem oc_isnot : OpR X (compareOp .IsNot) (rB X.K (cmpD .isnot)) := by
  intro pins s σ H x y v u Q I rx ry h
  obtain ⟨ι, M, a, b, S, ra, rb, h⟩ := h
  simp only [cmpD] at h
  split at h
  · rw [relD_non rb] at ry
    exact op_notN pins s σ H _ _ v u Q I rx ry ⟨rfl, by rw [isNon_v ra]; exact OkR.same h S .bls⟩
  · split at h
    · rw [relD_bl ra] at rx
      rw [relD_bl rb] at ry
      cases rx
      cases ry
      exact PyProof.Rows.isnot_bool ⟨.bl _, H, I, rfl, OkR.same h S .bls⟩
    · exact h.elim
  · exact h.elim

/-! ### dicts, read -/
theorem kD_kV {K : PySem.W.Frag} {ι : List Addr} {H : Hp} {k : D} {q : Ky} {y : V} (e : keyOf k = some q) (r : RelD K ι H k y) : y = kV q := by
  cases k with
  | int i => cases e; exact relD_int r
  | str z => cases e; exact (relD_str (t := z) r).1
  | _ => cases e
theorem getK_val {K : PySem.W.Frag} {ι : List Addr} {H : Hp} {κ : Type} [DecidableEq κ] : ∀ {kvs : List (κ × D)} {kv : List (κ × V)} (k : κ), RelKV K ι H kvs kv →
    (∀ d, getK kvs k = some d → ∃ v, valV kv k = some v ∧ RelD K ι H d v) ∧ (getK kvs k = none → valV kv k = none)
  | [], _, k, h => by
    cases h
    exact ⟨fun d h => (by cases h), fun _ => rfl⟩
  | p :: _, [], k, h => by cases h
  | p :: l, q :: r, k, h => by
    obtain ⟨hq, t⟩ : (p.1 = q.1 ∧ RelD K ι H p.2 q.2) ∧ RelKV K ι H l r := by cases h with | cons a b => exact ⟨a, b⟩
    obtain ⟨ih1, ih2⟩ := getK_val k t
    by_cases e : p.1 = k
    · have e2 : q.1 = k := hq.1 ▸ e
      have g : getK (p :: l) k = some p.2 := by rw [getK, if_pos e]
      constructor
      · intro d h
        rw [g] at h; cases h
        exact ⟨q.2, valV_pos e2, hq.2⟩
      · intro h; rw [g] at h; cases h
    · have e2 : ¬ q.1 = k := hq.1 ▸ e
      have g : getK (p :: l) k = getK l k := by rw [getK, if_neg e]
      constructor
      · intro d h
        rw [g] at h
        rw [valV_neg e2]
        exact ih1 d h
      · intro h
        rw [g] at h
        rw [valV_neg e2]
        exact ih2 h
theorem SR.dget {K : PySem.W.Frag} {ι : List Addr} {H : Hp} {M : Store} {i : Nat} {k : D} {x y : V} {o : Option D} (S : SR K ι H M) (e : dictGet M i k = some o) (rx : RelD K ι H (.ref i) x) (ry : RelD K ι H k y) :
    ∃ a ov, x = .ref a ∧ DGet H a y ov ∧ ov.isSome = o.isSome ∧ ∀ d, o = some d → ∃ v, ov = some v ∧ RelD K ι H d v := by
  unfold dictGet at e
  split at e
  · rename_i kvs e1
    obtain ⟨a, rfl, _, kv, h1, h2⟩ := S.ref e1 rx
    obtain ⟨q, hq, rfl⟩ := Option.map_eq_some_iff.mp e
    obtain ⟨g1, g2⟩ := getK_val q h2
    rw [kD_kV hq ry]
    refine ⟨a, _, rfl, DGet.k h1, ?_, fun d hd => ?_⟩
    · cases e : getK kvs q with
      | none => rw [g2 e]; rfl
      | some d => obtain ⟨v, hv, _⟩ := g1 d e; rw [hv]; rfl
    · exact g1 d hd
  · cases e
  · cases e
end
end Sk
end
section
set_option Elab.async false
set_option linter.all false
set_option autoImplicit false
set_option maxRecDepth 100000
/-! SkB3: in, items, slices, truth, built-in functions. -/
namespace Sk
open PySem PySem.Spec PyProof.Rows L2
section
variable {X : L2.Cx}
theorem any_eqv {a : D} (p : a.pure = true) : ∀ {ys : List D}, D.pures ys = true → ((D.toPs ys).any fun z => PyData.eqv z a.toP) = ys.any fun y => D.eqv y a
  | [], _ => by simp [D.toPs]
  | y :: ys, h => by
    simp only [D.pures, Bool.and_eq_true] at h
    simp only [D.toPs, List.any_cons, any_eqv p h.2, D.eqv_toP h.1 p]
theorem sign_of {s : Str} (h : s.length = 1) : s = ⟨#[s.cps.getD 0 0]⟩ := by
  obtain ⟨c⟩ := s
  have hc : c.size = 1 := h
  have : c.toList.length = 1 := by simpa using hc
  match c, hc with
  | ⟨[x]⟩, _ => rfl
/-- y in s: what the answer means -/
theorem inM_cases {K : PySem.W.Frag} {ι : List Addr} {H : Hp} {M : Store} {a b : D} {x y : V} {k : Bool} (S : SR K ι H M) (ra : RelD K ι H a x) (rb : RelD K ι H b y) (e : inM M a b = some k) :
    (∃ (c : Nat) (z : Str), x = .str ⟨#[c]⟩ ∧ y = .str z ∧ k = decide (c ∈ z.cps.toList)) ∨
    (∃ d ds, Dp K H x d ∧ (Dp K H y (.list ds) ∧ SeqAt.shaped (.list ds) = true ∨ Dp K H y (.tuple ds) ∧ SeqAt.shaped (.tuple ds) = true) ∧ SeqAt.shaped d = true ∧ k = ds.any fun z => PyData.eqv z d) ∨
    (∃ a o, y = .ref a ∧ DGet H a x o ∧ k = o.isSome) := by
  cases b with
  | str t =>
    cases a with
    | str s =>
      simp only [inM] at e
      split at e
      · rename_i h1
        cases e
        refine .inl ⟨s.cps.getD 0 0, t, ?_, (relD_str (t := s) rb).1, rfl⟩
        rw [(relD_str (t := s) ra).1, ← sign_of h1]
      · cases e
    | _ => simp [inM] at e
  | tup ys =>
    simp only [inM] at e
    split at e
    · rename_i hc
      obtain ⟨p, q, l, m⟩ := hc
      cases e
      simp only [RelD] at rb
      obtain ⟨a1, vs, rfl, hs, r⟩ := rb
      exact .inr (.inl ⟨a.toP, D.toPs ys, ra.dp p, .inr ⟨.tup hs (r.dp q), r.shapedT m⟩, ra.shaped l, by rw [any_eqv p q]⟩)
    · cases e
  | ref i =>
    have key : ∀ ys, listAt M i = some ys → (if a.pure = true ∧ D.pures ys = true ∧ a.dle 50 = true ∧ D.dles ys 50 = true then some (ys.any fun y => D.eqv y a) else none) = some k →
        ∃ d ds, Dp K H x d ∧ (Dp K H y (.list ds) ∧ SeqAt.shaped (.list ds) = true ∨ Dp K H y (.tuple ds) ∧ SeqAt.shaped (.tuple ds) = true) ∧ SeqAt.shaped d = true ∧ k = ds.any fun z => PyData.eqv z d := by
      intro ys hl e
      split at e
      · rename_i hc
        obtain ⟨p, q, l, m⟩ := hc
        cases e
        obtain ⟨a1, vs, rfl, hs, r⟩ := S.list hl rb
        exact ⟨a.toP, D.toPs ys, ra.dp p, .inl ⟨.lst hs (r.dp q), r.shapedL m⟩, ra.shaped l, by rw [any_eqv p q]⟩
      · cases e
    simp only [inM] at e
    split at e
    · rename_i ys e1
      exact .inr (.inl (key ys (by unfold listAt; rw [e1]) e))
    · rename_i ys e1
      exact .inr (.inl (key ys (by unfold listAt; rw [e1]) e))
    · obtain ⟨o, ho, rfl⟩ := Option.map_eq_some_iff.mp e
      obtain ⟨a1, ov, rfl, g, hs, _⟩ := S.dget ho rb ra
      exact .inr (.inr ⟨a1, ov, rfl, g, hs.symm⟩)
  | _ => simp [inM] at e
theorem oc_in (hu : Rm X) : OpR X (compareOp .In) (rB X.K (cmpD .in)) := by
  intro pins s σ H x y v u Q I rx ry h
  obtain ⟨ι, M, a, b, S, ra, rb, h⟩ := h
  obtain ⟨k, e, q⟩ := OkR.bool h S
  unfold Rm at hu
  rcases inM_cases S ra rb e with ⟨c, z, rfl, rfl, rfl⟩ | ⟨d, ds, h1, h2, h3, rfl⟩ | ⟨a1, o, rfl, g, rfl⟩
  · exact op_in_sign pins s σ H _ _ v u Q I rx ry ⟨c, z, rfl, rfl, q⟩
  · obtain ⟨as, r1⟩ := Dp.reads I _ _ _ h1 rx
    rcases h2 with ⟨h2, h4⟩ | ⟨h2, h4⟩
    · obtain ⟨bs, r2⟩ := Dp.reads I _ _ _ h2 ry
      exact SeqAt.in_list_reads r2 r1 (SeqAt.canLay_of_shaped h4) (SeqAt.canLay_of_shaped h3) (room_in_shaped h3 (by omega)) ⟨.bl _, H, I, rfl, q⟩
    · obtain ⟨bs, r2⟩ := Dp.reads I _ _ _ h2 ry
      exact SeqAt.in_tuple_reads r2 r1 (SeqAt.canLay_of_shaped h4) (SeqAt.canLay_of_shaped h3) (room_in_shaped h3 (by omega)) ⟨.bl _, H, I, rfl, q⟩
  · cases (show u = Value.ref a1 from ry)
    exact d_in (by omega) I g rx fun s3 I3 => ⟨.bl o.isSome, H, I3, rfl, q⟩
theorem oc_notin (hu : Rm X) : OpR X (compareOp .NotIn) (rB X.K (cmpD .notin)) := by
  intro pins s σ H x y v u Q I rx ry h
  obtain ⟨ι, M, a, b, S, ra, rb, h⟩ := h
  obtain ⟨k', e', q⟩ := OkR.bool h S
  obtain ⟨k, e, rfl⟩ := Option.map_eq_some_iff.mp e'
  unfold Rm at hu
  rcases inM_cases S ra rb e with ⟨c, z, rfl, rfl, rfl⟩ | ⟨d, ds, h1, h2, h3, rfl⟩ | ⟨a1, o, rfl, g, rfl⟩
  · exact op_notIn_sign pins s σ H _ _ v u Q I rx ry ⟨c, z, rfl, rfl, q⟩
  · obtain ⟨as, r1⟩ := Dp.reads I _ _ _ h1 rx
    rcases h2 with ⟨h2, h4⟩ | ⟨h2, h4⟩
    · obtain ⟨bs, r2⟩ := Dp.reads I _ _ _ h2 ry
      exact SeqAt.notIn_list_reads r2 r1 (SeqAt.canLay_of_shaped h4) (SeqAt.canLay_of_shaped h3) (room_in_shaped h3 (by omega)) ⟨.bl _, H, I, rfl, q⟩
    · obtain ⟨bs, r2⟩ := Dp.reads I _ _ _ h2 ry
      exact SeqAt.notIn_tuple_reads r2 r1 (SeqAt.canLay_of_shaped h4) (SeqAt.canLay_of_shaped h3) (room_in_shaped h3 (by omega)) ⟨.bl _, H, I, rfl, q⟩
  · cases (show u = Value.ref a1 from ry)
    exact d_notIn (by omega) I g rx fun s3 I3 => ⟨.bl (!o.isSome), H, I3, rfl, q⟩
/-- the library's operator -/
def BOp.py : BOp → Operator
  | .add => .Add
  | .sub => .Sub
  | .mul => .Mult
  | .fdiv => .FloorDiv
  | .mod => .Mod
  | .pow => .Pow
def COp.py : COp → CmpOp
  | .eq => .Eq
  | .ne => .NotEq
  | .lt => .Lt
  | .le => .LtE
  | .gt => .Gt
  | .ge => .GtE
  | .is => .Is
  | .isnot => .IsNot
  | .in => .In
  | .notin => .NotIn
theorem ob_all (o : BOp) : OpR X (binaryOp o.py) (rB X.K (binD o)) := by
  cases o
  · exact ob_add
  · exact ob_sub
  · exact ob_mul
  · exact ob_fdiv
  · exact ob_mod
  · exact ob_pow
theorem oc_all (hu : Rm X) (o : COp) : OpR X (compareOp o.py) (rB X.K (cmpD o)) := by
  cases o
  · exact oc_eq hu
  · exact oc_ne hu
  · exact oc_lt hu
  · exact oc_le hu
  · exact oc_gt hu
  · exact oc_ge hu
  · exact oc_is
  · exact oc_isnot
  · exact oc_in hu
  · exact oc_notin hu
theorem o_neg : UnR X (unaryOp .USub) (fun x H Q => ∃ i, x = .int i ∧ Q (.int (-i)) H) := un_neg

/-! ### truth -/
theorem truth_ok {K : PySem.W.Frag} {ι : List Addr} {H : Hp} {M : Store} {d : D} {x : V} {k : Bool} (S : SR K ι H M) (r : RelD K ι H d x) (e : truth M d = some k) : TruV K x H k := by
  cases d with
  | non => rw [relD_non r]; simp only [truth, Option.some.injEq] at e; subst e; rfl
  | bl b => rw [relD_bl r]; simp only [truth, Option.some.injEq] at e; subst e; rfl
  | int b => rw [relD_int r]; simp only [truth, Option.some.injEq] at e; subst e; rfl
  | str b =>
    obtain ⟨rfl, hl, _⟩ := relD_str (t := b) r
    simp only [truth, Option.some.injEq] at e; subst e
    exact ⟨hl, rfl⟩
  | tup xs =>
    simp only [RelD] at r
    obtain ⟨a, vs, rfl, hs, hr⟩ := r
    simp only [truth, Option.some.injEq] at e; subst e
    exact .inr (.inl ⟨vs, hs, by rw [hr.isEmpty]⟩)
  | ref i =>
    simp only [truth] at e
    split at e
    · rename_i xs e1
      cases e
      obtain ⟨a, vs, rfl, _, h1, h2⟩ := S.lst e1 r
      exact .inl ⟨vs, SqL.of h1, by rw [h2.isEmpty]⟩
    · rename_i xs e1
      cases e
      obtain ⟨a, rfl, _, vs, h1, h2⟩ := S.ref e1 r
      exact .inl ⟨vs, h1.sqL, by rw [h2.isEmpty]⟩
    · rename_i kvs e1
      cases e
      obtain ⟨a, rfl, _, kv, h1, h2⟩ := S.ref e1 r
      refine .inr (.inr ⟨kv, h1, ?_⟩)
      have := Paired.length h2
      cases kvs <;> cases kv <;> simp_all
    · cases e
  | xo f k => cases e

/-! ### items -/
theorem ixN_eq (n : Nat) (i : Int) : ixN n i = L2.ixN n i := by
  unfold ixN L2.ixN
  by_cases h : 0 ≤ i
  · rw [if_pos h, if_neg (by omega : ¬ i < 0)]
    by_cases h2 : i < n
    · rw [if_pos h2]; simp only [h, h2, and_self, if_true]
    · rw [if_neg h2]; simp only [h2, and_false, if_false]
  · rw [if_neg h, if_pos (by omega : i < 0)]
    by_cases h2 : -(n : Int) ≤ i
    · rw [if_pos h2]
      have : 0 ≤ i + n ∧ i + n < n := by omega
      simp only [this, and_self, if_true]
    · rw [if_neg h2]
      have : ¬ (0 ≤ i + n ∧ i + n < n) := by omega
      simp only [this, if_false]
theorem atI_bind {α : Type} (xs : List α) (i : Int) : atI xs i = (ixN xs.length i).bind fun j => xs[j]? := by
  unfold atI
  cases ixN xs.length i <;> rfl
theorem atI_eq {α : Type} (xs : List α) (i : Int) : atI xs i = L2.atI xs i := by
  rw [atI_bind, ixN_eq]; rfl
theorem atI_rel {K : PySem.W.Frag} {ι : List Addr} {H : Hp} {xs : List D} {vs : List V} {i : Int} {d : D} (r : RelDs K ι H xs vs) (e : atI xs i = some d) : ∃ v, L2.atI vs i = some v ∧ RelD K ι H d v := by
  rw [atI_bind] at e
  obtain ⟨j, h1, h2⟩ := Option.bind_eq_some_iff.mp e
  obtain ⟨v, h3, h4⟩ := r.get h2
  refine ⟨v, ?_, h4⟩
  unfold L2.atI
  rw [← r.length, ← ixN_eq, h1]
  exact h3
theorem sign_ok {c : Nat} {s : Str} (h : PyData.strOk s = true) (m : c ∈ s.cps.toList) {K : PySem.W.Frag} {ι : List Addr} {H : Hp} : RelD K ι H (.str ⟨#[c]⟩) (.str ⟨#[c]⟩) := by
  refine .strs (by rw [sizeLine_eq]; show 1 ≤ _; decide) (strOk_list.mpr fun x hx => ?_)
  have : x = c := by simpa using hx
  rw [this]
  exact strOk_list.mp h c m
theorem atI_mem {α : Type} {xs : List α} {i : Int} {d : α} (e : atI xs i = some d) : d ∈ xs := by
  rw [atI_bind] at e
  obtain ⟨j, h1, h2⟩ := Option.bind_eq_some_iff.mp e
  exact List.mem_of_getElem? h2
theorem ix_all (hu : Rm X) : IxR X (rB X.K ixD) := by
  intro value slice pins s σ H x y v u Q I rx ry h hs
  obtain ⟨ι, M, a, b, S, ra, rb, h⟩ := h
  cases a with
  | str z =>
    cases b with
    | int i =>
      obtain ⟨rfl, hl, hk⟩ := relD_str (t := z) ra
      rw [relD_int rb] at ry
      simp only [ixD] at h
      split at h
      · rename_i c e
        exact ix_str value slice pins s σ H _ _ v u Q I rx ry ⟨z, i, c, rfl, rfl, hl, (atI_eq _ _).symm.trans e, OkR.same h S (sign_ok hk (atI_mem e))⟩ hs
      · exact h.elim
    | _ => exact h.elim
  | tup xs =>
    cases b with
    | int i =>
      simp only [RelD] at ra
      obtain ⟨a1, vs, rfl, hq, hr⟩ := ra
      rw [relD_int rb] at ry
      simp only [ixD] at h
      split at h
      · rename_i d e
        obtain ⟨w, h1, h2⟩ := atI_rel hr e
        exact ix_tup value slice pins s σ H _ _ v u Q I rx ry ⟨a1, vs, i, w, rfl, rfl, hq, h1, OkR.same h S h2⟩ hs
      · exact h.elim
    | _ => exact h.elim
  | ref j =>
    have key : ∀ xs, listAt M j = some xs → OkR X.K ι H Q (ixL xs b M) → wpAny (model X.prog X.w) X.A (subscriptTail value slice v u) (EP X pins σ Q) X.xe s := by
      intro xs hl h
      obtain ⟨a1, vs, rfl, hq, hr⟩ := S.list hl ra
      cases b with
      | int i =>
        rw [relD_int rb] at ry
        simp only [ixL] at h
        split at h
        · rename_i d e
          obtain ⟨w, h1, h2⟩ := atI_rel hr e
          exact ix_list value slice pins s σ H _ _ v u Q I rx ry ⟨a1, vs, i, w, rfl, rfl, hq, h1, OkR.same h S h2⟩ hs
        · exact h.elim
      | _ => exact h.elim
    simp only [ixD] at h
    split at h
    · rename_i xs e1
      exact key xs (by unfold listAt; rw [e1]) h
    · rename_i xs e1
      exact key xs (by unfold listAt; rw [e1]) h
    · split at h
      · rename_i d e
        obtain ⟨a1, ov, rfl, g, _, hd⟩ := S.dget e ra rb
        obtain ⟨w, rfl, hw⟩ := hd d rfl
        cases (show v = Value.ref a1 from rx)
        unfold Rm at hu
        exact tail_any (dict_typeIs I g) PySem.F.slot_dict_getitem.lookup (d_getItem (by omega) I g ry fun w' s' I' rw' => ⟨w, H, I', rw', OkR.same h S hw⟩) hs
      · exact h.elim
  | _ => exact h.elim

/-! ### slices -/
theorem sIx_eq (n d : Nat) (o : Option Int) : sIx n d o = HT.sIx n d o := by
  cases o with
  | none => rfl
  | some v =>
    show (if 0 ≤ v then min v.toNat n else (v + n).toNat) = (if v < 0 then _ else _)
    by_cases h : 0 ≤ v
    · rw [if_pos h, if_neg (by omega)]
    · rw [if_neg h, if_pos (by omega)]
theorem cut_rel {K : PySem.W.Frag} {ι : List Addr} {H : Hp} {xs : List D} {vs : List V} (r : RelDs K ι H xs vs) (lo hi : Option Int) : RelDs K ι H (cut xs lo hi) (cutV vs lo hi) := by
  unfold cut cutV
  simp only
  rw [sIx_eq, sIx_eq, r.length]
  exact (r.drop _).take _
theorem cut_whole {α : Type} (xs : List α) (lo hi : Option Int) (h : HT.sIx xs.length 0 lo = 0 ∧ HT.sIx xs.length xs.length hi = xs.length) : cut xs lo hi = xs := by
  unfold cut
  simp only
  rw [sIx_eq, sIx_eq, h.1, h.2]; simp
theorem sl_all : SlR X (fun x lo hi H Q => ∃ ι M a, SR X.K ι H M ∧ RelD X.K ι H a x ∧ OkR X.K ι H Q (slcD a lo hi M)) := by
  intro pins s σ H x v vl vu lo hi sl Q I rx hs pl pu h
  obtain ⟨ι, M, a, S, ra, h⟩ := h
  cases a with
  | str z =>
    obtain ⟨rfl, hl, hk⟩ := relD_str (t := z) ra
    refine sl_str pins s σ H _ v vl vu lo hi sl Q I rx hs pl pu ⟨z, rfl, hl, ?_⟩
    have e : cutS z lo hi = ⟨(cut z.cps.toList lo hi).toArray⟩ := by
      unfold cutS cut
      simp only
      rw [sIx_eq, sIx_eq]
      have : z.cps.toList.length = z.length := by simp [Str.length]
      rw [this]
    rw [e]
    refine OkR.same h S (.strs ?_ (strOk_of fun c hc => strOk_list.mp hk c ?_))
    · show (cut z.cps.toList lo hi).toArray.size ≤ sizeLine
      have h1 : (cut z.cps.toList lo hi).length ≤ z.cps.toList.length := by
        unfold cut; rw [List.length_take, List.length_drop]; omega
      have h2 : z.cps.toList.length = z.length := by simp [Str.length]
      simp only [List.size_toArray]; omega
    · unfold cut at hc
      exact List.mem_of_mem_drop (List.mem_of_mem_take hc)
  | tup xs =>
    simp only [RelD] at ra
    obtain ⟨a1, vs, rfl, hq, hr⟩ := ra
    refine sl_tupA pins s σ H _ v vl vu lo hi sl Q I rx hs pl pu ⟨a1, vs, rfl, hq, fun e => ?_, fun _ p hp => OkR.newT h S hp (cut_rel hr lo hi)⟩
    refine OkR.same h S ?_
    rw [← hr.length] at e
    rw [cut_whole xs lo hi e]
    simp only [RelD]
    exact ⟨a1, vs, rfl, hq, hr⟩
  | ref i =>
    simp only [slcD] at h
    split at h
    · rename_i xs e
      obtain ⟨a1, vs, rfl, hq, hr⟩ := S.list e ra
      exact sl_list pins s σ H _ v vl vu lo hi sl Q I rx hs pl pu ⟨a1, vs, rfl, hq, fun p hp => OkR.new h S hp rfl ⟨_, upd_same, (cut_rel hr lo hi).step (Step.alloc hp)⟩⟩
    · exact h.elim
  | _ => exact h.elim
end
end Sk
end
section
set_option Elab.async false
set_option linter.all false
set_option autoImplicit false
set_option maxRecDepth 100000
/-! SkB4: built-in functions. -/
namespace Sk
open PySem PySem.Spec PyProof.Rows L2
section
variable {X : L2.Cx}
theorem relDs_one {K : PySem.W.Frag} {ι : List Addr} {H : Hp} {d : D} {vs : List V} (r : RelDs K ι H [d] vs) : ∃ v, vs = [v] ∧ RelD K ι H d v := by
  simp only [RelDs] at r
  obtain ⟨v, _, rfl, h, rfl⟩ := r
  exact ⟨v, rfl, h⟩
theorem relDs_two {K : PySem.W.Frag} {ι : List Addr} {H : Hp} {d e : D} {vs : List V} (r : RelDs K ι H [d, e] vs) : ∃ v w, vs = [v, w] ∧ RelD K ι H d v ∧ RelD K ι H e w := by
  simp only [RelDs] at r
  obtain ⟨v, _, rfl, h, w, _, rfl, g, rfl⟩ := r
  exact ⟨v, w, rfl, h, g⟩
theorem relDs_three {K : PySem.W.Frag} {ι : List Addr} {H : Hp} {d e f : D} {vs : List V} (r : RelDs K ι H [d, e, f] vs) : ∃ v w x, vs = [v, w, x] ∧ RelD K ι H d v ∧ RelD K ι H e w ∧ RelD K ι H f x := by
  simp only [RelDs] at r
  obtain ⟨v, _, rfl, h, w, _, rfl, g, x, _, rfl, k, rfl⟩ := r
  exact ⟨v, w, x, rfl, h, g, k⟩
/-- the items of a list or a tuple -/
theorem seqOf_rel {K : PySem.W.Frag} {ι : List Addr} {H : Hp} {M : Store} {d : D} {xs : List D} {v : V} (S : SR K ι H M) (e : seqOf M d = some xs) (r : RelD K ι H d v) : ∃ a vs, v = .ref a ∧ (SqL K H a vs ∨ SqT K H a vs ∧ d = .tup xs) ∧ RelDs K ι H xs vs := by
  cases d with
  | tup ys =>
    simp only [seqOf, Option.some.injEq] at e
    subst e
    simp only [RelD] at r
    obtain ⟨a, vs, rfl, h, g⟩ := r
    exact ⟨a, vs, rfl, .inr ⟨h, rfl⟩, g⟩
  | ref i =>
    simp only [seqOf] at e
    obtain ⟨a, vs, rfl, h, g⟩ := S.list e r
    exact ⟨a, vs, rfl, .inl h, g⟩
  | _ => cases e
/-- a built-in function -/
def CB (X : L2.Cx) (f : Value) (g : List D → Store → Res D) : Prop := CallR X f (rA X.K g)
theorem cb_len : CB X (.builtin "len") (bltD .len) := by
  intro pins s σ H vs us Q I r h
  obtain ⟨ι, M, ds, S, rd, h⟩ := h
  simp only [bltD] at h
  split at h
  · rename_i d
    obtain ⟨v, rfl, rv⟩ := relDs_one rd
    split at h
    · rename_i n e
      have fin : LenV X.K v H n → wpAny (model X.prog X.w) X.A (call (.builtin "len") us) (EP X pins σ Q) X.xe s := fun l =>
        call_len pins s σ H _ us Q I r ⟨v, n, rfl, l, OkR.same h S .ints⟩
      cases d with
      | str z =>
        simp only [lenM, Option.some.injEq] at e
        obtain ⟨rfl, hl, _⟩ := relD_str (t := z) rv
        exact fin ⟨hl, e.symm⟩
      | tup xs =>
        simp only [lenM, Option.some.injEq] at e
        simp only [RelD] at rv
        obtain ⟨a, ws, rfl, hs, hr⟩ := rv
        exact fin (.inr ⟨ws, hs, by rw [← hr.length]; exact e.symm⟩)
      | ref i =>
        simp only [lenM] at e
        split at e
        · rename_i xs e1
          obtain ⟨a, ws, rfl, hs, hr⟩ := S.list (xs := xs) (by unfold listAt; rw [e1]) rv
          exact fin (.inl ⟨ws, hs, by rw [← hr.length]; exact (Option.some.inj e).symm⟩)
        · rename_i xs e1
          obtain ⟨a, ws, rfl, hs, hr⟩ := S.list (xs := xs) (by unfold listAt; rw [e1]) rv
          exact fin (.inl ⟨ws, hs, by rw [← hr.length]; exact (Option.some.inj e).symm⟩)
        · rename_i kvs e1
          obtain ⟨a, rfl, _, kv, h1, h2⟩ := S.ref e1 rv
          obtain ⟨u, rfl, ru⟩ := vals1 r
          cases (show u = Value.ref a from ru)
          refine d_len I (.inl h1) fun t s' I' => ⟨.int (kv.length : Nat), H, I', ⟨t, rfl⟩, ?_⟩
          have hl : kvs.length = kv.length := Paired.length h2
          rw [← hl, Option.some.inj e]
          exact OkR.same h S .ints
        · cases e
      | _ => cases e
    · exact h.elim
  · exact h.elim
theorem cb_tuple : CB X (.type "tuple") (bltD .tuple) := by
  intro pins s σ H vs us Q I r h
  obtain ⟨ι, M, ds, S, rd, h⟩ := h
  simp only [bltD] at h
  split at h
  · rename_i d
    obtain ⟨v, rfl, rv⟩ := relDs_one rd
    split at h
    · rename_i xs e
      obtain ⟨a, ws, rfl, hs, hr⟩ := seqOf_rel S e rv
      refine call_tuple_of pins s σ H _ us Q I r ⟨a, ws, rfl, ?_⟩
      rcases hs with hs | ⟨hs, rfl⟩
      · exact .inl ⟨hs, fun p hp => OkR.newT h S hp hr⟩
      · exact .inr ⟨hs, OkR.same h S rv⟩
    · exact h.elim
  · exact h.elim
theorem cb_list : CB X (.type "list") (bltD .list) := by
  intro pins s σ H vs us Q I r h
  obtain ⟨ι, M, ds, S, rd, h⟩ := h
  simp only [bltD] at h
  split at h
  · rename_i d
    obtain ⟨v, rfl, rv⟩ := relDs_one rd
    split at h
    · rename_i xs e
      obtain ⟨a, ws, rfl, hs, hr⟩ := seqOf_rel S e rv
      exact call_list_of pins s σ H _ us Q I r ⟨a, ws, rfl, hs.imp (fun h => h) (fun h => h.1), fun p hp => OkR.new h S hp rfl ⟨_, upd_same, hr.step (Step.alloc hp)⟩⟩
    · exact h.elim
  · exact h.elim
theorem intsOf_rel {K : PySem.W.Frag} {ι : List Addr} {H : Hp} : ∀ {xs : List D} {ns : List Int} {vs : List V}, intsOf xs = some ns → RelDs K ι H xs vs → vs = ns.map V.int
  | [], _, _, e, r => by simp only [RelDs] at r; cases e; subst r; rfl
  | .int i :: xs, _, vs, e, r => by
    simp only [RelDs] at r
    obtain ⟨v, ws, rfl, h1, h2⟩ := r
    simp only [intsOf] at e
    obtain ⟨ms, e1, rfl⟩ := Option.map_eq_some_iff.mp e
    rw [relD_int h1, intsOf_rel e1 h2]; rfl
  | .non :: _, _, _, e, _ => by cases e
  | .bl _ :: _, _, _, e, _ => by cases e
  | .str _ :: _, _, _, e, _ => by cases e
  | .tup _ :: _, _, _, e, _ => by cases e
  | .ref _ :: _, _, _, e, _ => by cases e
  | .xo _ _ :: _, _, _, e, _ => by cases e
theorem cb_sum (hc : X.calm = true) : CB X (.builtin "sum") (bltD .sum) := by
  intro pins s σ H vs us Q I r h
  obtain ⟨ι, M, ds, S, rd, h⟩ := h
  simp only [bltD] at h
  split at h
  · rename_i i
    obtain ⟨v, rfl, rv⟩ := relDs_one rd
    split at h
    · rename_i xs e
      split at h
      · rename_i ns e2
        obtain ⟨a, ws, rfl, hs, hr⟩ := S.list e rv
        rw [intsOf_rel e2 hr] at hs
        exact cr_sum hc pins s σ H _ us Q I r ⟨a, ns, rfl, hs, OkR.same h S .ints⟩
      · exact h.elim
    · exact h.elim
  · rename_i xs
    obtain ⟨v, rfl, rv⟩ := relDs_one rd
    split at h
    · rename_i ns e2
      simp only [RelD] at rv
      obtain ⟨a, ws, rfl, hs, hr⟩ := rv
      rw [intsOf_rel e2 hr] at hs
      obtain ⟨its, rv, hl, _⟩ := I.tuple hs
      rw [Vals.ref1 r]
      have hi := rv.ints
      obtain ⟨xs', hx⟩ := hi.allInts.items
      have hn : numsOf its.toArray.toList = ns := by rw [show its.toArray.toList = its from rfl, hi.numsOf]
      rw [hx] at hn
      rw [nums_intItems] at hn
      refine PySem.W.ktm_sumG (I.ok.hd hc) (show s.heap.IsTuple a _ from hx ▸ hl) fun h' tk t' hk => ⟨.int _, H, I.kept hk, ⟨_, rfl⟩, ?_⟩
      rw [preSum_eq, List.take_of_length_le (by simp), hn]
      exact OkR.same h S .ints
    · exact h.elim
  · exact h.elim
theorem boolsOf_rel {K : PySem.W.Frag} {ι : List Addr} {H : Hp} : ∀ {xs : List D} {ns : List Bool} {vs : List V}, boolsOf xs = some ns → RelDs K ι H xs vs → vs = ns.map V.bl
  | [], _, _, e, r => by simp only [RelDs] at r; cases e; subst r; rfl
  | .bl i :: xs, _, vs, e, r => by
    simp only [RelDs] at r
    obtain ⟨v, ws, rfl, h1, h2⟩ := r
    simp only [boolsOf] at e
    obtain ⟨ms, e1, rfl⟩ := Option.map_eq_some_iff.mp e
    rw [relD_bl h1, boolsOf_rel e1 h2]; rfl
  | .non :: _, _, _, e, _ => by cases e
  | .int _ :: _, _, _, e, _ => by cases e
  | .str _ :: _, _, _, e, _ => by cases e
  | .tup _ :: _, _, _, e, _ => by cases e
  | .ref _ :: _, _, _, e, _ => by cases e
  | .xo _ _ :: _, _, _, e, _ => by cases e
theorem cb_any (hc : X.calm = true) : CB X (.builtin "any") (bltD .any) := by
  intro pins s σ H vs us Q I r h
  obtain ⟨ι, M, ds, S, rd, h⟩ := h
  simp only [bltD] at h
  split at h
  · rename_i i
    obtain ⟨v, rfl, rv⟩ := relDs_one rd
    split at h
    · rename_i bs e
      obtain ⟨xs, e1, e2⟩ := Option.bind_eq_some_iff.mp e
      obtain ⟨a, ws, rfl, hs, hr⟩ := S.list e1 rv
      rw [boolsOf_rel e2 hr] at hs
      exact cr_any hc pins s σ H _ us Q I r ⟨a, bs, rfl, hs, OkR.same h S .bls⟩
    · exact h.elim
  · exact h.elim
theorem cb_all (hc : X.calm = true) : CB X (.builtin "all") (bltD .all) := by
  intro pins s σ H vs us Q I r h
  obtain ⟨ι, M, ds, S, rd, h⟩ := h
  simp only [bltD] at h
  split at h
  · rename_i i
    obtain ⟨v, rfl, rv⟩ := relDs_one rd
    split at h
    · rename_i bs e
      obtain ⟨xs, e1, e2⟩ := Option.bind_eq_some_iff.mp e
      obtain ⟨a, ws, rfl, hs, hr⟩ := S.list e1 rv
      rw [boolsOf_rel e2 hr] at hs
      exact cr_all hc pins s σ H _ us Q I r ⟨a, bs, rfl, hs, OkR.same h S .bls⟩
    · exact h.elim
  · exact h.elim
theorem cb_abs : CB X (.builtin "abs") (bltD .abs) := by
  intro pins s σ H vs us Q I r h
  obtain ⟨ι, M, ds, S, rd, h⟩ := h
  simp only [bltD] at h
  split at h
  · rename_i i
    obtain ⟨v, rfl, rv⟩ := relDs_one rd
    rw [relD_int rv] at r
    exact call_abs pins s σ H _ us Q I r ⟨i, rfl, OkR.same h S .ints⟩
  · exact h.elim
theorem cb_int : CB X (.type "int") (bltD .int) := by
  intro pins s σ H vs us Q I r h
  obtain ⟨ι, M, ds, S, rd, h⟩ := h
  simp only [bltD] at h
  split at h
  · rename_i i
    obtain ⟨v, rfl, rv⟩ := relDs_one rd
    rw [relD_int rv] at r
    exact call_int1 pins s σ H _ us Q I r (.inl ⟨i, rfl, OkR.same h S .ints⟩)
  · rename_i b
    obtain ⟨v, rfl, rv⟩ := relDs_one rd
    rw [relD_bl rv] at r
    exact call_int1 pins s σ H _ us Q I r (.inr ⟨b, rfl, OkR.same h S .ints⟩)
  · exact h.elim

/-! ### least, greatest, sorted -/
mutual
theorem D.toP_inj : ∀ {a b : D}, a.pure = true → b.pure = true → a.toP = b.toP → a = b
  | .non, b, _, q, e => by cases b <;> simp_all [D.toP, D.pure]
  | .bl _, b, _, q, e => by cases b <;> simp_all [D.toP, D.pure]
  | .int _, b, _, q, e => by cases b <;> simp_all [D.toP, D.pure]
  | .str _, b, _, q, e => by cases b <;> simp_all [D.toP, D.pure]
  | .ref _, b, p, _, _ => by simp [D.pure] at p
  | .xo _ _, b, p, _, _ => by simp [D.pure] at p
  | .tup xs, b, p, q, e => by
    cases b with
    | tup ys =>
      simp only [D.toP, PyData.tuple.injEq] at e
      simp only [D.pure] at p q
      rw [D.toPs_inj p q e]
    | ref _ => simp [D.pure] at q
    | _ => simp [D.toP] at e
theorem D.toPs_inj : ∀ {xs ys : List D}, D.pures xs = true → D.pures ys = true → D.toPs xs = D.toPs ys → xs = ys
  | [], ys, _, _, e => by cases ys <;> simp_all [D.toPs]
  | x :: xs, ys, p, q, e => by
    cases ys with
    | nil => simp [D.toPs] at e
    | cons y ys =>
      simp only [D.toPs, List.cons.injEq] at e
      simp only [D.pures, Bool.and_eq_true] at p q
      rw [D.toP_inj p.1 q.1 e.1, D.toPs_inj p.2 q.2 e.2]
end
theorem okOrd_facts {xs : List D} (h : okOrd xs = true) : (∀ a ∈ xs, ∀ b ∈ xs, D.alike a b = true) ∧ D.pures xs = true ∧ D.dles xs 50 = true ∧ ∀ a ∈ xs, a.isNon = false := by
  unfold okOrd allAlike at h
  simp only [Bool.and_eq_true, List.all_eq_true, Bool.not_eq_true'] at h
  exact ⟨fun a ha b hb => h.1.1.1 a ha b hb, h.1.1.2, h.1.2, h.2⟩
theorem alikeAll_of {xs : List D} (h : okOrd xs = true) : PySem.W.AlikeAll (D.toPs xs) := by
  obtain ⟨h1, h2, h3, h4⟩ := okOrd_facts h
  rw [D.pures_mem] at h2
  rw [D.toPs_map]
  constructor
  · intro x hx y hy
    obtain ⟨a, ha, rfl⟩ := List.mem_map.mp hx
    obtain ⟨b, hb, rfl⟩ := List.mem_map.mp hy
    exact D.alike_toP (h1 a ha b hb)
  · intro x hx
    obtain ⟨a, ha, rfl⟩ := List.mem_map.mp hx
    exact D.toP_ne_none (h4 a ha) (h2 a ha)
theorem minD_toP : ∀ (xs : List D) (x : D), (∀ a ∈ x :: xs, ∀ b ∈ x :: xs, D.alike a b = true) → D.pures (x :: xs) = true → PySem.W.minD x.toP (D.toPs xs) = (bestMin x xs).toP ∧ bestMin x xs ∈ x :: xs
  | [], x, _, _ => ⟨by simp only [D.toPs]; rfl, by simp [bestMin]⟩
  | y :: ys, x, h, p => by
    have p2 := D.pures_mem.mp p
    have e : PySem.W.dataLt y.toP x.toP = D.lt y x := D.lt_toP (h y (by simp) x (by simp)) (p2 y (by simp)) (p2 x (by simp))
    have key : ∀ z : D, (z = x ∨ z = y) → (∀ a ∈ z :: ys, a ∈ x :: y :: ys) := by
      rintro z (rfl | rfl) a ha
      · rcases List.mem_cons.mp ha with rfl | ha
        · simp
        · simp [ha]
      · rcases List.mem_cons.mp ha with rfl | ha
        · simp
        · simp [ha]
    have step : ∀ z : D, (z = x ∨ z = y) → PySem.W.minD z.toP (D.toPs ys) = (bestMin z ys).toP ∧ bestMin z ys ∈ x :: y :: ys := fun z hz => by
      have k := key z hz
      obtain ⟨a1, a2⟩ := minD_toP ys z (fun a ha b hb => h a (k a ha) b (k b hb)) (D.pures_mem.mpr fun a ha => p2 a (k a ha))
      exact ⟨a1, k _ a2⟩
    simp only [D.toPs]
    unfold PySem.W.minD bestMin
    rw [List.foldl_cons, List.foldl_cons, e]
    cases D.lt y x with
    | true => simp only [if_true]; exact step y (.inr rfl)
    | false => simp only [Bool.false_eq_true, if_false]; exact step x (.inl rfl)
theorem maxD_toP : ∀ (xs : List D) (x : D), (∀ a ∈ x :: xs, ∀ b ∈ x :: xs, D.alike a b = true) → D.pures (x :: xs) = true → PySem.W.maxD x.toP (D.toPs xs) = (bestMax x xs).toP ∧ bestMax x xs ∈ x :: xs
  | [], x, _, _ => ⟨by simp only [D.toPs]; rfl, by simp [bestMax]⟩
  | y :: ys, x, h, p => by
    have p2 := D.pures_mem.mp p
    have e : PySem.W.dataLt x.toP y.toP = D.lt x y := D.lt_toP (h x (by simp) y (by simp)) (p2 x (by simp)) (p2 y (by simp))
    have key : ∀ z : D, (z = x ∨ z = y) → (∀ a ∈ z :: ys, a ∈ x :: y :: ys) := by
      rintro z (rfl | rfl) a ha
      · rcases List.mem_cons.mp ha with rfl | ha
        · simp
        · simp [ha]
      · rcases List.mem_cons.mp ha with rfl | ha
        · simp
        · simp [ha]
    have step : ∀ z : D, (z = x ∨ z = y) → PySem.W.maxD z.toP (D.toPs ys) = (bestMax z ys).toP ∧ bestMax z ys ∈ x :: y :: ys := fun z hz => by
      have k := key z hz
      obtain ⟨a1, a2⟩ := maxD_toP ys z (fun a ha b hb => h a (k a ha) b (k b hb)) (D.pures_mem.mpr fun a ha => p2 a (k a ha))
      exact ⟨a1, k _ a2⟩
    simp only [D.toPs]
    unfold PySem.W.maxD bestMax
    rw [List.foldl_cons, List.foldl_cons, e]
    cases D.lt x y with
    | true => simp only [if_true]; exact step y (.inr rfl)
    | false => simp only [Bool.false_eq_true, if_false]; exact step x (.inl rfl)
/-- the value that was found is the datum meant -/
theorem found_is {K : PySem.W.Frag} {pins : List (Addr × Obj)} {σ : L2.St} {H : Hp} {s : Shared} {ι : List Addr} {xs : List D} {ws : List V} {its : List Value} {i : Nat} {v : Value} {h' : Heap} {b : D} {bs : List Addr} (I : Inv X pins σ H s) (hK : X.K = K)
    (hr : RelDs K ι H xs ws) (rv : Vals ws its) (hv : its[i]? = some v) (hp : D.pures xs = true) (hb : b ∈ xs) (hal : ∀ a ∈ xs, ∀ b ∈ xs, D.alike a b = true) (rd : Reads h' v b.toP bs) (k : ∀ b o, s.heap.get? b = some o → h'.get? b = some o) :
    ∃ w, RelV w v ∧ RelD K ι H b w := by
  subst hK
  have hl : i < ws.length := by
    have := (List.getElem?_eq_some_iff.mp hv).1
    rw [rv.length]; exact this
  obtain ⟨w, hw⟩ : ∃ w, ws[i]? = some w := ⟨ws[i], by simp [hl]⟩
  obtain ⟨u, hu, ru⟩ := rv.get hw
  rw [hv] at hu; cases hu
  obtain ⟨d, hd, rd'⟩ := hr.getV hw
  have hdm : d ∈ xs := List.mem_of_getElem? hd
  have hpd := D.pures_mem.mp hp
  obtain ⟨as, r1⟩ := Dp.reads I _ _ _ (rd'.dp (hpd d hdm)) ru
  have e := PySem.W.alike_unique _ _ _ _ _ (D.alike_toP (hal d hdm b hb)) (Reads.keeps k r1) rd
  have : d = b := D.toP_inj (hpd d hdm) (hpd b hb) e
  subst this
  exact ⟨w, ru, rd'⟩
theorem cb_min (hc : X.calm = true) (hu : Rm X) : CB X (.builtin "min") (bltD .min) := by
  intro pins s σ H vs us Q I r h
  obtain ⟨ι, M, ds, S, rd, h⟩ := h
  simp only [bltD] at h
  split at h
  · rename_i d
    obtain ⟨v, rfl, rv⟩ := relDs_one rd
    split at h
    · rename_i x xs e
      split at h
      · rename_i ho
        obtain ⟨h1, h2, h3, h4⟩ := okOrd_facts ho
        obtain ⟨a, ws, rfl, hs, hr⟩ := seqOf_rel S e rv
        obtain ⟨u, rfl, ru⟩ := vals1 r
        cases (show u = Value.ref a from ru)
        have hd := D.dles_depth h3
        have hm := minD_toP xs x h1 h2
        unfold Rm at hu
        rcases hs with hs | ⟨hs, _⟩
        · obtain ⟨its, rvs, hl, _⟩ := I.list hs
          obtain ⟨as, hrd⟩ := Dp.readsAll I _ _ _ (hr.dp h2) rvs
          refine PySem.W.min_list_data (I.ok.hd hc) hl.isList (vs := its.toArray) (by simpa [D.toPs] using hrd) (alikeAll_of ho) (by simp only [D.toPs] at hd; omega) fun i w h' tk bs hv hrr hk => ?_
          obtain ⟨w', rw', rd'⟩ := found_is I rfl hr rvs (by simpa using hv) h2 hm.2 h1 (by rw [← hm.1]; exact hrr) hk
          exact ⟨w', H, I.kept hk, rw', OkR.same h S rd'⟩
        · obtain ⟨its, rvs, hl, _⟩ := I.tuple hs
          obtain ⟨as, hrd⟩ := Dp.readsAll I _ _ _ (hr.dp h2) rvs
          refine PySem.W.min_tuple_data (I.ok.hd hc) hl (vs := its.toArray) (by simpa [D.toPs] using hrd) (alikeAll_of ho) (by simp only [D.toPs] at hd; omega) fun i w h' tk bs hv hrr hk => ?_
          obtain ⟨w', rw', rd'⟩ := found_is I rfl hr rvs (by simpa using hv) h2 hm.2 h1 (by rw [← hm.1]; exact hrr) hk
          exact ⟨w', H, I.kept hk, rw', OkR.same h S rd'⟩
      · exact h.elim
    · exact h.elim
  · rename_i i j
    obtain ⟨v, w, rfl, r1, r2⟩ := relDs_two rd
    rw [relD_int r1, relD_int r2] at r
    exact call_min2 hc pins s σ H _ us Q I r ⟨i, j, rfl, OkR.same h S .ints⟩
  · rename_i i j k
    obtain ⟨v, w, x, rfl, r1, r2, r3⟩ := relDs_three rd
    rw [relD_int r1, relD_int r2, relD_int r3] at r
    obtain ⟨u1, us1, rfl, ⟨t1, rfl⟩, r'⟩ : ∃ u us', us = u :: us' ∧ RelV (.int i) u ∧ Vals [.int j, .int k] us' := by cases r with | cons a b => exact ⟨_, _, rfl, a, b⟩
    obtain ⟨u2, u3, rfl, ⟨t2, rfl⟩, ⟨t3, rfl⟩⟩ := vals2 r'
    refine min_three_ints (I.ok.hd hc) fun h' tk hk => ⟨.int (if j < i then (if k < j then k else j) else (if k < i then k else i)), H, I.kept hk, ?_, OkR.same h S .ints⟩
    by_cases a : j < i <;> by_cases b : k < j <;> by_cases c : k < i <;> simp only [a, b, c, if_true, if_false] <;> exact ⟨_, rfl⟩
  · exact h.elim
theorem cb_max (hc : X.calm = true) (hu : Rm X) : CB X (.builtin "max") (bltD .max) := by
  intro pins s σ H vs us Q I r h
  obtain ⟨ι, M, ds, S, rd, h⟩ := h
  simp only [bltD] at h
  split at h
  · rename_i d
    obtain ⟨v, rfl, rv⟩ := relDs_one rd
    split at h
    · rename_i x xs e
      split at h
      · rename_i ho
        obtain ⟨h1, h2, h3, h4⟩ := okOrd_facts ho
        obtain ⟨a, ws, rfl, hs, hr⟩ := seqOf_rel S e rv
        obtain ⟨u, rfl, ru⟩ := vals1 r
        cases (show u = Value.ref a from ru)
        have hd := D.dles_depth h3
        have hm := maxD_toP xs x h1 h2
        unfold Rm at hu
        rcases hs with hs | ⟨hs, _⟩
        · obtain ⟨its, rvs, hl, _⟩ := I.list hs
          obtain ⟨as, hrd⟩ := Dp.readsAll I _ _ _ (hr.dp h2) rvs
          refine PySem.W.max_list_data (I.ok.hd hc) hl.isList (vs := its.toArray) (by simpa [D.toPs] using hrd) (alikeAll_of ho) (by simp only [D.toPs] at hd; omega) fun i w h' tk bs hv hrr hk => ?_
          obtain ⟨w', rw', rd'⟩ := found_is I rfl hr rvs (by simpa using hv) h2 hm.2 h1 (by rw [← hm.1]; exact hrr) hk
          exact ⟨w', H, I.kept hk, rw', OkR.same h S rd'⟩
        · obtain ⟨its, rvs, hl, _⟩ := I.tuple hs
          obtain ⟨as, hrd⟩ := Dp.readsAll I _ _ _ (hr.dp h2) rvs
          refine PySem.W.max_tuple_data (I.ok.hd hc) hl (vs := its.toArray) (by simpa [D.toPs] using hrd) (alikeAll_of ho) (by simp only [D.toPs] at hd; omega) fun i w h' tk bs hv hrr hk => ?_
          obtain ⟨w', rw', rd'⟩ := found_is I rfl hr rvs (by simpa using hv) h2 hm.2 h1 (by rw [← hm.1]; exact hrr) hk
          exact ⟨w', H, I.kept hk, rw', OkR.same h S rd'⟩
      · exact h.elim
    · exact h.elim
  · rename_i i j
    obtain ⟨v, w, rfl, r1, r2⟩ := relDs_two rd
    rw [relD_int r1, relD_int r2] at r
    exact call_max2 hc pins s σ H _ us Q I r ⟨i, j, rfl, OkR.same h S .ints⟩
  · exact h.elim
/-- min(xs, default=x) -/
def rMinD (K : PySem.W.Frag) : List V → List V → Hp → VK → Prop := fun vs zs H Q => ∃ ι M d z v w, vs = [v] ∧ zs = [w] ∧ SR K ι H M ∧ RelD K ι H d v ∧ RelD K ι H z w ∧ OkR K ι H Q (bltD .minD [d, z] M)
theorem ck_min (hc : X.calm = true) (hu : Rm X) : CallRK X (.builtin "min") [Str.ofString "default"] (rMinD X.K) := by
  intro pins s σ H vs zs us ws Q I r rz h
  obtain ⟨ι, M, d, z, v, w, rfl, rfl, S, rv, rw', h⟩ := h
  simp only [bltD] at h
  obtain ⟨u, rfl, ru⟩ := vals1 r
  obtain ⟨y, rfl, ry⟩ := vals1 rz
  unfold Rm at hu
  have none_case : ∀ {xs : List D}, seqOf M d = some xs → xs = [] → ∀ h' tk, (∀ b o, s.heap.get? b = some o → h'.get? b = some o) → EP X pins σ Q y { s with heap := h', toks := tk } := by
    intro xs e e2 h' tk hk
    subst e2
    rw [e] at h
    exact ⟨w, H, I.kept hk, ry, OkR.same h S rw'⟩
  cases e : seqOf M d with
  | none => rw [e] at h; exact h.elim
  | some xs =>
    obtain ⟨a, vs, rfl, hs, hr⟩ := seqOf_rel S e rv
    cases (show u = Value.ref a from ru)
    have ho : okOrd xs = true := by
      cases xs with
      | nil => rfl
      | cons x xs =>
        rw [e] at h
        simp only at h
        split at h
        · assumption
        · exact h.elim
    obtain ⟨h1, h2, h3, h4⟩ := okOrd_facts ho
    have hd := D.dles_depth h3
    have some_case : ∀ {its : List Value} (rvs : Vals vs its) (y' : PyData) (ys : List PyData) (i : Nat) (w' : Value) (h' : Heap) (tk : Nat) (bs : List Addr), D.toPs xs = y' :: ys → its.toArray[i]? = some w' → Reads h' w' (PySem.W.minD y' ys) bs → (∀ b o, s.heap.get? b = some o → h'.get? b = some o) → EP X pins σ Q w' { s with heap := h', toks := tk } := by
      intro its rvs y' ys i w' h' tk bs ex hv hrr hk
      cases xs with
      | nil => simp [D.toPs] at ex
      | cons x xs =>
        simp only [D.toPs, List.cons.injEq] at ex
        obtain ⟨rfl, rfl⟩ := ex
        have hm := minD_toP xs x h1 h2
        rw [e] at h
        simp only [ho, if_true] at h
        obtain ⟨w2, rw2, rd'⟩ := found_is I rfl hr rvs (by simpa using hv) h2 hm.2 h1 (by rw [← hm.1]; exact hrr) hk
        exact ⟨w2, H, I.kept hk, rw2, OkR.same h S rd'⟩
    rcases hs with hs | ⟨hs, _⟩
    · obtain ⟨its, rvs, hl, _⟩ := I.list hs
      obtain ⟨as, hrd⟩ := Dp.readsAll I _ _ _ (hr.dp h2) rvs
      refine PySem.W.min_list_default (I.ok.hd hc) hl.isList (vs := its.toArray) (by simpa using hrd) (alikeAll_of ho) (by omega) (fun e0 => none_case e (by cases xs <;> simp_all [D.toPs])) fun y' ys i w' h' tk bs ex hv hrr hk => some_case rvs y' ys i w' h' tk bs ex hv hrr hk
    · obtain ⟨its, rvs, hl, _⟩ := I.tuple hs
      obtain ⟨as, hrd⟩ := Dp.readsAll I _ _ _ (hr.dp h2) rvs
      refine PySem.W.min_tuple_default (I.ok.hd hc) hl (vs := its.toArray) (by simpa using hrd) (alikeAll_of ho) (by omega) (fun e0 => none_case e (by cases xs <;> simp_all [D.toPs])) fun y' ys i w' h' tk bs ex hv hrr hk => some_case rvs y' ys i w' h' tk bs ex hv hrr hk
end
end Sk
end
section
set_option Elab.async false
set_option linter.all false
set_option autoImplicit false
set_option maxRecDepth 100000
/-! SkBs: sorted of tuples of which the first is empty. -/
namespace Sk
open PySem PySem.Calls PyProof.Rows PySem.SeqAt
section
variable {A : Around} {s : Shared}
/-- the call of tuple's own __lt__, as sorting makes it -/
theorem call_tuple_lt {prog : Program} {w : World} {E : Value → Shared → Prop} {Q : Value → Shared → Prop} {l b : Addr} {items items2 : Array Value} {e r : Nat → Bool} (hl : s.heap.IsTuple l items) (hb : s.heap.IsTuple b items2)
    (he : ∀ j (h1 : j < items.size) (h2 : j < items2.size), EqAt A.in1 s items[j] items2[j] (e j)) (hr : ∀ j (h1 : j < items.size) (h2 : j < items2.size), e j = false → RcLt A.in1 s items[j] items2[j] (r j))
    (h : Q (.bool (firstLt e r (decide (items.size < items2.size)) (List.range (min items.size items2.size)))) s) : wpAny (model prog w) A (call (.builtin "tuple.__lt__") [.ref l, .ref b]) Q E s := by
  obtain ⟨⟨cls, dd, data, sl⟩, ho, hc, n, hd⟩ := id hl
  obtain ⟨⟨cls2, dd2, data2, sl2⟩, ho2, hc2, n2, hd2⟩ := id hb
  simp only at hc hd hc2 hd2
  subst hc hd hc2 hd2
  exact call_meets F.slot_tuple_lt ⟨_, ho, rfl⟩ F.entry_tuple_lt (F.args_tuple_lt_2 _ _) (tuple_ltAt l b items items2 n n2 dd dd2 sl sl2 e r) ⟨ho, ho2, he, hr, h⟩
end
section
variable {prog : Program} {w : World} {A : Around} {E : Value → Shared → Prop} {s : Shared}
theorem oneLt_tuple {xs ys : List PyData} {a b : Value} {as bs : List Addr} {Q : Bool → Shared → Prop} (ra : Reads s.heap a (.tuple xs) as) (rb : Reads s.heap b (.tuple ys) bs) (h : PySem.W.alike (.tuple xs) (.tuple ys) = true)
    (hu : A.units + min (PyData.tuple xs).depth (PyData.tuple ys).depth < cLine) (hq : Q (PySem.W.dataLt (.tuple xs) (.tuple ys)) s) : wpAny (model prog w) A (oneLt' true a b) Q E s := by
  have hal : PySem.W.alikeAll xs ys = true := by simpa [PySem.W.alike] using h
  cases ra with
  | @tuple l o vs n _ as₁ h1 h2 h3 h4 =>
    cases rb with
    | @tuple l' o' vs' n' _ bs₁ k1 k2 k3 k4 =>
      have n1 : vs.size = xs.length := by simpa using ReadsAll.length _ _ _ h4
      have n2 : vs'.size = ys.length := by simpa using ReadsAll.length _ _ _ k4
      rw [PySem.W.dataLt_tuple, ← PySem.W.firstLt_toks xs ys hal, ← n1, ← n2] at hq
      rw [oneLt'_eq]
      simp only [if_true]
      refine wpAny_bind (wpAny_cRoomFor (room_here hu) ?_)
      refine wpAny_bind (wpAny_callSpecialIfBound?_slot (T := "tuple") ⟨_, h1, h2⟩ F.slot_tuple_lt (call_tuple_lt (e := pairEq xs ys) (r := fun j => PySem.W.dataLt (xs.getD j .none) (ys.getD j .none)) ⟨_, h1, h2, _, h3⟩ ⟨_, k1, k2, _, k3⟩ (fun j j1 j2 => ?_) (fun j j1 j2 hj => ?_) ?_))
      · have := PySem.W.eqAt_alikeAll xs ys A.in1 s vs.toList vs'.toList _ _ h4 k4 hal (room_in hu) j (by simpa using j1) (by simpa using j2)
        simpa using this
      · have := PySem.W.rcLt_alikeAll xs ys A.in1 s vs.toList vs'.toList _ _ h4 k4 hal (room_in hu) j (by simpa using j1) (by simpa using j2) hj
        simpa using this
      · exact wpAny_truthy_bool hq
/-- the firsts of tuples -/
theorem firsts_any {M : Model} : ∀ (vs : List Value) {Q : List (Option Value) → Shared → Prop}, (∀ v ∈ vs, ∃ a o xs n, v = .ref a ∧ s.heap.get? a = some o ∧ o.cls = .type "tuple" ∧ o.data = .seq xs n) → (∀ bs, bs.length = vs.length → Q bs s) → wpAny M A (vs.mapM firstOfTuple') Q E s
  | [], _, _, h => by rw [List.mapM_nil]; exact wpAny_pure (h [] rfl)
  | v :: vs, Q, t, h => by
    obtain ⟨a, o, xs, n, rfl, ho, hc, hd⟩ := t v List.mem_cons_self
    rw [List.mapM_cons]
    refine wpAny_bind ?_
    rw [PySem.W.kas_first_eq]
    refine wpAny_bind (PySem.W.Looks.here (show PySem.W.Looks M s.heap (typeOf (.ref a)) o.cls from (PySem.W.Looks.ld ho).andThen .now) ?_)
    rw [hc, if_neg (by first | decide | simp)]
    refine wpAny_bind (listItems_at ho hd (wpAny_pure ?_))
    exact wpAny_bind (firsts_any vs (Q := fun bs s' => wpAny M A (pure (xs[0]? :: bs)) Q E s') (fun v hv => t v (List.mem_cons_of_mem _ hv)) fun bs hb => wpAny_pure (h _ (by simp [hb])))
theorem kind_e {M : Model} {a₀ : Addr} {o₀ : Obj} {n₀ : Nat} {vs : List Value} {Q : SortKind → Shared → Prop} (h0 : s.heap.get? a₀ = some o₀) (hc0 : o₀.cls = .type "tuple") (hd0 : o₀.data = .seq #[] n₀)
    (t : ∀ v ∈ vs, ∃ a o xs n, v = .ref a ∧ s.heap.get? a = some o ∧ o.cls = .type "tuple" ∧ o.data = .seq xs n) (h : Q oneType' s) : wpAny M A (keyKind' (.ref a₀ :: vs).toArray) Q E s := by
  rw [keyKind'_eq, List.mapM_toArray, map_eq_pure_bind]
  refine wpAny_bind (wpAny_bind ?_)
  rw [List.mapM_cons]
  refine wpAny_bind ?_
  rw [PySem.W.kas_first_eq]
  refine wpAny_bind (PySem.W.Looks.here (show PySem.W.Looks M s.heap (typeOf (.ref a₀)) o₀.cls from (PySem.W.Looks.ld h0).andThen .now) ?_)
  rw [hc0, if_neg (by first | decide | simp)]
  refine wpAny_bind (listItems_at h0 hd0 (wpAny_pure ?_))
  refine wpAny_bind (firsts_any vs t fun bs hb => wpAny_pure (wpAny_pure ?_))
  rw [if_neg (by simp), if_neg (by simp)]
  rw [oneTypeOnly'_eq, List.mapM_toArray, map_eq_pure_bind]
  have look : ∀ v ∈ (Value.ref a₀ :: vs), ∀ (Q' : Value → Shared → Prop), Q' (.type "tuple") s → wpAny M A (typeOf v) Q' E s := fun v hv Q' hq => by
    have key : ∃ a o xs n, v = .ref a ∧ s.heap.get? a = some o ∧ o.cls = .type "tuple" ∧ o.data = .seq xs n := by
      rcases List.mem_cons.mp hv with rfl | hv
      · exact ⟨_, _, _, _, rfl, h0, hc0, hd0⟩
      · exact t v hv
    obtain ⟨a, o, xs, n, rfl, ho, hc, _⟩ := key
    exact PySem.W.Looks.here (show PySem.W.Looks M s.heap (typeOf (.ref a)) (.type "tuple") from hc ▸ (PySem.W.Looks.ld ho).andThen .now) hq
  refine wpAny_bind (wpAny_bind (wpAny_bind (PySem.W.kas_mapM (r := Value.type "tuple") _ look (wpAny_pure ?_))))
  have hall : ((List.map (fun _ => Value.type "tuple") (Value.ref a₀ :: vs)).toArray.all fun x => x == Value.type "tuple") = true := by
    simp only [List.all_toArray, List.all_map, List.all_eq_true]
    intro _ _
    rfl
  have h0' : (List.map (fun _ => Value.type "tuple") (Value.ref a₀ :: vs)).toArray[0]? = some (Value.type "tuple") := by simp
  rw [h0']
  simp only [hall, if_true]
  exact wpAny_pure (wpAny_pure h)
open PySem.W in
/-- tuples of which the first is empty can be sorted -/
theorem sortsAt_e {vs : List Value} {ds : List PyData} (e : EachIs (fun v d => ∃ as, Reads s.heap v d as) vs (.tuple [] :: ds)) (hal : AllAlike (.tuple [] :: ds)) (hu : ∀ d ∈ (.tuple [] :: ds : List PyData), A.units + d.depth < cLine) : SortsAt prog w A s (dataKind s.heap (.tuple [] :: ds)) vs := by
  have tup : ∀ d ∈ (.tuple [] :: ds : List PyData), ∃ xs, d = .tuple xs := fun d hd => by
    have := hal _ List.mem_cons_self d hd
    cases d <;> first | exact ⟨_, rfl⟩ | (simp [alike] at this)
  refine ⟨fun v hv => ?_, oneType', ?_, fun h2 E Q hq => ?_⟩
  · obtain ⟨d, hd, as, r⟩ := e.left v hv
    exact ⟨_, dataKind_some hal hd r⟩
  · intro E x y a b Q ha hb hq
    obtain ⟨d, as, hd, ra, rfl⟩ := dataKind_inv ha
    obtain ⟨d', as', hd', rb, rfl⟩ := dataKind_inv hb
    obtain ⟨xs, rfl⟩ := tup d hd
    obtain ⟨ys, rfl⟩ := tup d' hd'
    rw [keyLt'_oneType]
    exact oneLt_tuple ra rb (hal _ hd _ hd') (Nat.lt_of_le_of_lt (Nat.add_le_add_left (Nat.min_le_left _ _) _) (hu _ hd)) hq
  · cases e with
    | cons h1 t =>
      rename_i v0 vs
      obtain ⟨as, r⟩ := h1
      cases r with
      | @tuple l o xs n _ _ k1 k2 k3 k4 =>
        have e0 : xs = #[] := by
          cases q : xs.toList with
          | nil => exact Array.toList_eq_nil_iff.mp q
          | cons f fr => rw [q] at k4; cases k4
        subst e0
        refine kind_e k1 k2 k3 (fun v hv => ?_) hq
        obtain ⟨d, hd, as, r⟩ := t.left v hv
        obtain ⟨ys, rfl⟩ := tup d (List.mem_cons_of_mem _ hd)
        cases r with
        | @tuple l o xs n _ _ k1 k2 k3 k4 => exact ⟨l, o, xs, n, rfl, k1, k2, k3⟩
open PySem.W in
theorem sorted_dataE {β : Type} {vs : List Value} {bs : List β} {enc : β → PyData} {R : Value → β → Prop} {l : Addr} {ds : List PyData} {Q : Value → Shared → Prop} (hl : s.heap.IsList l vs.toArray) (e : EachIs R vs bs) (er : EachIs (fun v b => ∃ as, Reads s.heap v (enc b) as) vs bs) (hal : AllAlike (bs.map enc)) (hk : bs.map enc = .tuple [] :: ds) (hL : bs.length ≤ sizeLine)
    (hu : ∀ b, b ∈ bs → A.units + 2 + (enc b).depth < cLine) (h : ∀ out, out.length = bs.length → EachIs R out (bs.mergeSort (dataLe false enc)) → Q (.ref (s.heap.objs.size + 1)) { s with heap := sortedAll s.heap vs (List.toArray out) }) :
    wpAny (model prog w) A (call (.builtin "sorted") [.ref l]) Q E s := by
  have er' : EachIs (fun v b => ∃ as, Reads (sortingHeap (copyHeap s.heap vs) (s.heap.objs.size + 1) vs) v (enc b) as) vs bs := er.mono fun _ _ ⟨as, r⟩ => ⟨as, PyProof.Rows.Reads.keeps (fun _ _ => sorting_copy_old) r⟩
  have er2 := each_map (R := fun v d => ∃ as, Reads (sortingHeap (copyHeap s.heap vs) (s.heap.objs.size + 1) vs) v d as) enc er'
  have hu2 := bound_map (A := A.in1.in1) (enc := enc) (bs := bs) hu
  have hS : SortsAt prog w A.in1.in1 { s with heap := sortingHeap (copyHeap s.heap vs) (s.heap.objs.size + 1) vs } (dataKind (sortingHeap (copyHeap s.heap vs) (s.heap.objs.size + 1) vs) (bs.map enc)) vs := by
    rw [hk] at er2 hal hu2 ⊢
    exact sortsAt_e (s := { s with heap := sortingHeap (copyHeap s.heap vs) (s.heap.objs.size + 1) vs }) er2 hal hu2
  exact sorted_vals hl hS (by rw [e.length]; exact hL)
    (h _ (by rw [sortVals_length false rfl]; exact e.length) (sortVals_data false e er' hal))
end
end Sk
end
section
set_option Elab.async false
set_option linter.all false
set_option autoImplicit false
set_option maxRecDepth 100000
/-! SkB5: sorted, methods. -/
namespace Sk
open PySem PySem.Spec PyProof.Rows L2
section
variable {X : L2.Cx}
theorem dataLe_lt (x y : PyData) : PySem.W.dataLe false (fun d : PyData => d) x y = !PySem.W.dataLt y x := rfl
theorem dataLe_enc {β : Type} (f : β → PyData) (x y : β) : PySem.W.dataLe false f x y = !PySem.W.dataLt (f y) (f x) := rfl
theorem okSort_facts {xs : List D} (h : okSort xs = true) : okOrd xs = true ∧ PySem.W.Sortable (xs.map D.toP) := by
  unfold okSort at h
  simp only [Bool.and_eq_true, Bool.or_eq_true, List.all_eq_true] at h
  refine ⟨h.1, ?_⟩
  rcases h.2 with g | g
  · refine .inl fun d hd => ?_
    obtain ⟨a, ha, rfl⟩ := List.mem_map.mp hd
    have := g a ha
    cases a with
    | tup ys =>
      cases ys with
      | nil => simp [D.isTup] at this
      | cons y ys => exact ⟨y.toP, D.toPs ys, by simp [D.toP, D.toPs]⟩
    | _ => simp [D.isTup] at this
  · refine .inr fun d hd => ?_
    obtain ⟨a, ha, rfl⟩ := List.mem_map.mp hd
    have := g a ha
    have hn := (okOrd_facts h.1).2.1
    cases a <;> simp_all [D.noTup, D.toP]
    all_goals exact absurd (D.pures_mem.mp hn _ ha) (by simp [D.pure])
mutual
theorem noAs {h : Heap} : ∀ (d : D) {v : Value} {as : List Addr}, Reads h v d.toP as → as = []
  | .non, _, _, q => by cases q; rfl
  | .bl _, _, _, q => by cases q; rfl
  | .int _, _, _, q => by cases q; rfl
  | .str _, _, _, q => by cases q; rfl
  | .ref _, _, _, q => by cases q; rfl
  | .xo _ _, _, _, q => by cases q; rfl
  | .tup ds, _, _, q => by
    simp only [D.toP] at q
    cases q with
    | tuple _ _ _ q => exact noAss ds q
theorem noAss {h : Heap} : ∀ (ds : List D) {vs : List Value} {as : List Addr}, ReadsAll h vs (D.toPs ds) as → as = []
  | [], _, _, q => by simp only [D.toPs] at q; cases q; rfl
  | d :: ds, _, _, q => by
    simp only [D.toPs] at q
    cases q with
    | cons a b => rw [noAs d a, noAss ds b]; rfl
end
/-- data and where they stand, in one list -/
theorem zip_rel {K : PySem.W.Frag} {ι : List Addr} {H : Hp} : ∀ {xs : List D} {ws : List V}, RelDs K ι H xs ws → ∃ bs : List (V × D), bs.map (·.1) = ws ∧ bs.map (·.2) = xs ∧ ∀ b ∈ bs, RelD K ι H b.2 b.1
  | [], ws, r => by simp only [RelDs] at r; subst r; exact ⟨[], rfl, rfl, by simp⟩
  | x :: xs, ws, r => by
    simp only [RelDs] at r
    obtain ⟨v, us, rfl, h1, h2⟩ := r
    obtain ⟨bs, e1, e2, e3⟩ := zip_rel h2
    refine ⟨(v, x) :: bs, by simp [e1], by simp [e2], fun b hb => ?_⟩
    rcases List.mem_cons.mp hb with rfl | hb
    · exact h1
    · exact e3 b hb
theorem unzip_rel {K : PySem.W.Frag} {ι : List Addr} {H : Hp} : ∀ {bs : List (V × D)}, (∀ b ∈ bs, RelD K ι H b.2 b.1) → RelDs K ι H (bs.map (·.2)) (bs.map (·.1))
  | [], _ => by simp [RelDs]
  | b :: bs, h => by
    simp only [List.map_cons, RelDs]
    exact ⟨_, _, rfl, h b (by simp), unzip_rel fun c hc => h c (by simp [hc])⟩
theorem each_vals : ∀ {out : List Value} {bs : List (V × D)}, PySem.W.EachIs (fun (u : Value) (b : V × D) => RelV b.1 u) out bs → Vals (bs.map (·.1)) out
  | _, _, .nil => .nil
  | _, _, .cons h t => .cons h (each_vals t)
theorem vals_each : ∀ {out : List Value} {bs : List (V × D)}, Vals (bs.map (·.1)) out → PySem.W.EachIs (fun (u : Value) (b : V × D) => RelV b.1 u) out bs
  | [], [], _ => .nil
  | u :: us, b :: bs, h => by cases h with | cons a t => exact .cons a (vals_each t)
  | _ :: _, [], h => by cases h
  | [], _ :: _, h => by cases h
theorem vals_reads {pins : List (Addr × Obj)} {σ : L2.St} {H : Hp} {s : Shared} {ι : List Addr} (I : Inv X pins σ H s) : ∀ {out : List Value} {bs : List (V × D)}, Vals (bs.map (·.1)) out → (∀ b ∈ bs, RelD X.K ι H b.2 b.1 ∧ b.2.pure = true) →
    PySem.W.EachIs (fun (u : Value) (b : V × D) => ∃ as, Reads s.heap u b.2.toP as) out bs
  | [], [], _, _ => .nil
  | u :: us, b :: bs, h, g => by
    cases h with
    | cons a t =>
      obtain ⟨g1, g2⟩ := g b (by simp)
      exact .cons (Dp.reads I _ _ _ (g1.dp g2) a) (vals_reads I t fun c hc => g c (by simp [hc]))
  | _ :: _, [], h, _ => by cases h
  | [], _ :: _, h, _ => by cases h
/-- what sorting asks of the data, and what it gives -/
theorem sort_pack0 {K : PySem.W.Frag} {ι : List Addr} {H : Hp} {xs : List D} {ws : List V} (hr : RelDs K ι H xs ws) (h0 : okOrd xs = true) :
    ∃ bs : List (V × D), bs.map (·.1) = ws ∧ (∀ b ∈ bs, RelD K ι H b.2 b.1 ∧ b.2.pure = true) ∧ bs.length = xs.length ∧ PySem.W.AllAlike (bs.map fun b => b.2.toP) ∧ (bs.map fun b => b.2.toP) = xs.map D.toP ∧ (∀ b ∈ bs, b.2.toP.depth ≤ 50) ∧
      RelDs K ι H (sortD xs) ((bs.mergeSort (PySem.W.dataLe false fun b => b.2.toP)).map (·.1)) := by
  obtain ⟨h1, h2, h3, h4⟩ := okOrd_facts h0
  obtain ⟨bs, e1, e2, e3⟩ := zip_rel hr
  have mem : ∀ b ∈ bs, b.2 ∈ xs := fun b hb => by rw [← e2]; exact List.mem_map.mpr ⟨b, hb, rfl⟩
  have hp := D.pures_mem.mp h2
  have em : (bs.map fun b => b.2.toP) = xs.map D.toP := by rw [← e2, List.map_map]; rfl
  refine ⟨bs, e1, fun b hb => ⟨e3 b hb, hp _ (mem b hb)⟩, by rw [← e2]; simp, ?_, em, fun b hb => ?_, ?_⟩
  · rw [em]
    intro d hd d' hd'
    obtain ⟨a, ha, rfl⟩ := List.mem_map.mp hd
    obtain ⟨a', ha', rfl⟩ := List.mem_map.mp hd'
    exact D.alike_toP (h1 a ha a' ha')
  · have hd : ∀ {l : List D}, D.dles l 50 = true → ∀ a ∈ l, a.dle 50 = true := by
      intro l
      induction l with
      | nil => intro _ a ha; cases ha
      | cons y l ih =>
        intro h a ha
        simp only [D.dles, Bool.and_eq_true] at h
        rcases List.mem_cons.mp ha with rfl | ha
        · exact h.1
        · exact ih h.2 a ha
    exact D.dle_depth (hd h3 _ (mem b hb))
  · have r := unzip_rel (K := K) (ι := ι) (H := H) (bs := bs.mergeSort (PySem.W.dataLe false fun b => b.2.toP)) fun b hb => e3 b (List.mem_mergeSort.mp hb)
    have e : (bs.mergeSort (PySem.W.dataLe false fun b => b.2.toP)).map (·.2) = sortD xs := by
      unfold sortD
      rw [← e2]
      refine List.map_mergeSort fun a ha b hb => ?_
      rw [dataLe_enc]
      show (!PySem.W.dataLt b.2.toP a.2.toP) = !D.lt b.2 a.2
      rw [D.lt_toP (h1 _ (mem b hb) _ (mem a ha)) (hp _ (mem b hb)) (hp _ (mem a ha))]
    rw [e] at r
    exact r
theorem sort_pack {K : PySem.W.Frag} {ι : List Addr} {H : Hp} {xs : List D} {ws : List V} (hr : RelDs K ι H xs ws) (ho : okSort xs = true) :
    ∃ bs : List (V × D), bs.map (·.1) = ws ∧ (∀ b ∈ bs, RelD K ι H b.2 b.1 ∧ b.2.pure = true) ∧ bs.length = xs.length ∧ PySem.W.AllAlike (bs.map fun b => b.2.toP) ∧ PySem.W.Sortable (bs.map fun b => b.2.toP) ∧ (∀ b ∈ bs, b.2.toP.depth ≤ 50) ∧
      RelDs K ι H (sortD xs) ((bs.mergeSort (PySem.W.dataLe false fun b => b.2.toP)).map (·.1)) := by
  obtain ⟨h0, hS⟩ := okSort_facts ho
  obtain ⟨bs, a, b, c, d, e, f, g⟩ := sort_pack0 hr h0
  exact ⟨bs, a, b, c, d, by rw [e]; exact hS, f, g⟩
theorem sortD_len (xs : List D) : (sortD xs).length = xs.length := by unfold sortD; exact List.length_mergeSort _
theorem kvs_keys {K : PySem.W.Frag} {ι : List Addr} {H : Hp} : ∀ {kvs : List (Ky × D)} {kv : List (Key × V)}, RelKV K ι H kvs kv → kv.map (·.1) = kvs.map (·.1)
  | [], _, h => by cases h; rfl
  | p :: l, [], h => by cases h
  | p :: l, q :: r, h => by
    obtain ⟨hq, t⟩ : (p.1 = q.1 ∧ RelD K ι H p.2 q.2) ∧ RelKV K ι H l r := by cases h with | cons a b => exact ⟨a, b⟩
    simp only [List.map_cons, hq.1, kvs_keys t]
theorem strFit_ok {s : Str} (h : strFit s = true) : s.length ≤ sizeLine ∧ PyData.strOk s = true := by
  unfold strFit at h
  simp only [Bool.and_eq_true, decide_eq_true_eq] at h
  exact ⟨by rw [← lim_eq]; exact h.1, h.2⟩
theorem keys_rel {K : PySem.W.Frag} {ι : List Addr} {H : Hp} : ∀ {kvs : List (Ky × D)}, keysFit kvs = true → RelDs K ι H (kvs.map fun p => kD p.1) (kvs.map fun p => kV p.1)
  | [], _ => by simp [RelDs]
  | p :: l, h => by
    unfold keysFit at h
    rw [List.all_cons, Bool.and_eq_true] at h
    simp only [List.map_cons, RelDs]
    refine ⟨_, _, rfl, ?_, keys_rel (by unfold keysFit; exact h.2)⟩
    obtain ⟨k, d⟩ := p
    cases k with
    | inl i => exact .ints
    | inr s =>
      obtain ⟨h1, h2⟩ := strFit_ok h.1
      exact .strs h1 h2
theorem cb_sorted (hc : X.calm = true) (hu : Rm X) : CB X (.builtin "sorted") (bltD .sorted) := by
  intro pins s σ H vs us Q I r h
  obtain ⟨ι, M, ds, S, rd, h⟩ := h
  simp only [bltD] at h
  unfold Rm at hu
  split at h
  · rename_i i
    obtain ⟨v, rfl, rv⟩ := relDs_one rd
    split at h
    · rename_i xs e
      split at h
      · rename_i ho
        obtain ⟨a, ws, rfl, _, hs, hr⟩ := S.lst e rv
        obtain ⟨u, rfl, ru⟩ := vals1 r
        cases (show u = Value.ref a from ru)
        obtain ⟨its, rvs, hl, hz⟩ := I.list (SqL.of hs)
        unfold okSrt at ho
        rw [Bool.or_eq_true] at ho
        have fin : ∀ bs : List (V × D), bs.map (·.1) = ws → bs.length = xs.length → RelDs X.K ι H (sortD xs) ((bs.mergeSort (PySem.W.dataLe false fun b => b.2.toP)).map (·.1)) → ∀ out : List Value, out.length = bs.length → PySem.W.EachIs (fun (u : Value) (b : V × D) => RelV b.1 u) out (bs.mergeSort (PySem.W.dataLe false fun b => b.2.toP)) → EP X pins σ Q (.ref (s.heap.objs.size + 1)) { s with heap := PyProof.Rows.sortedAll s.heap its (List.toArray out) } := fun bs e1 e3 e7 out hol eo => by
          obtain ⟨ep, he'⟩ := PyProof.Rows.sortedAll_at s.heap its (List.toArray out)
          have hf := I.hok.fresh (Nat.le_succ s.heap.objs.size)
          refine ⟨.ref (s.heap.objs.size + 1), _, I.laid (t' := s.toks) (fun _ _ => PyProof.Rows.sortedAll_old) (Nat.le_succ _) (o := .lst ((bs.mergeSort (PySem.W.dataLe false fun b => b.2.toP)).map (·.1))) ⟨?_, out, ep, each_vals eo, he'⟩, rfl, OkR.new h S hf rfl ⟨_, upd_same, e7.step (Step.alloc hf)⟩⟩
          rw [List.length_map, List.length_mergeSort, e3, hr.length]; exact hz
        rcases ho with ho | ho
        · obtain ⟨bs, e1, e2, e3, e4, e5, e6, e7⟩ := sort_pack hr ho
          have rvs' := rvs
          rw [← e1] at rvs'
          exact PySem.W.sorted_data (R := fun u b => RelV b.1 u) hl.isList (vals_each rvs') (vals_reads I rvs' e2) e4 e5 (by rw [e3, hr.length]; exact hz) (fun b hb => by have := e6 b hb; omega) fun out hol eo => fin bs e1 e3 e7 out hol eo
        · unfold okSortE at ho
          rw [Bool.and_eq_true] at ho
          obtain ⟨h0, hE⟩ := ho
          obtain ⟨bs, e1, e2, e3, e4, e5, e6, e7⟩ := sort_pack0 hr h0
          have rvs' := rvs
          rw [← e1] at rvs'
          split at hE
          · simp only [List.map_cons, D.toP, D.toPs] at e5
            exact sorted_dataE (R := fun u b => RelV b.1 u) hl.isList (vals_each rvs') (vals_reads I rvs' e2) e4 e5 (by rw [e3, hr.length]; exact hz) (fun b hb => by have := e6 b hb; omega) fun out hol eo => fin bs e1 e3 e7 out hol eo
          · cases hE
      · exact h.elim
    · rename_i kvs e
      split at h
      · rename_i ho
        obtain ⟨ho, hkf⟩ := ho
        obtain ⟨a, rfl, _, kv, hs, hkv⟩ := S.ref e rv
        obtain ⟨u, rfl, ru⟩ := vals1 r
        cases (show u = Value.ref a from ru)
        have hr : RelDs X.K ι H (kvs.map fun p => kD p.1) (kvs.map fun p => kV p.1) := keys_rel hkf
        obtain ⟨z, lo, vs, rel, dd⟩ := dk_rd I.hok (.inl hs)
        obtain ⟨ep, hat⟩ := dd.dictAt
        have hk1 : vs.map (·.1) = kvs.map (·.1) := rel.keys.symm.trans (kvs_keys hkv)
        have hl : vs.length = kvs.length := by
          have := congrArg List.length hk1
          simpa using this
        have h16 : vs.length ≤ sizeLine := by
          have : kv.length = vs.length := Paired.length rel
          rw [← this]; exact z
        refine Calls.call_function_entry PyProof.Rows.kind_sorted PyProof.Rows.plain_sorted PyProof.Rows.entry_sorted (PyProof.Rows.args_sorted1 _) ?_
        unfold Builtin.«sorted»
        refine wpAny_bind (m := checkCount "sorted" 1 1 _) (wpAny_pure ?_)
        refine wpAny_bind (PySem.W.kdu_collect (A := X.A.in1) (PySem.W.kdl_dict (knd := mixKind X.prog X.w) (kvs := vs) (ep := ep) lo) (I.ok.hd hc) hat h16 fun h' tk acc hk hacc => ?_)
        have hv : Vals (kvs.map fun p => kV p.1) acc.toList := by
          have := keys_at (by rw [Array.length_toList]; exact hacc.1) fun j v e => hacc.2 j v (by rw [← Array.getElem?_toList]; exact e)
          have e9 : (vs.map fun p => kV p.1) = kvs.map fun p => kV p.1 := by
            have := congrArg (List.map kV) hk1
            rw [List.map_map, List.map_map] at this
            exact this
          rw [e9] at this
          exact this
        have I1 : Inv X pins σ H { s with heap := h', toks := tk } := I.kept hk
        have hal : acc.toList.length = kvs.length := by rw [Array.length_toList, hacc.1, hl]
        refine wpAny_bind (wpAny_newList ?_ (by rw [hal, ← hl]; exact h16))
        have hoL : (h'.push (seqObj "list" acc.toList.toArray 0)).get? h'.objs.size = some (seqObj "list" acc.toList.toArray 0) := Heap.get?_push_size _ rfl
        obtain ⟨bs, e1, e2, e3, e4, e5, e6, e7⟩ := sort_pack hr ho
        rw [← e1] at hv
        have I2 : Inv X pins σ H { s with heap := h'.push (seqObj "list" acc.toList.toArray 0), toks := tk } := I1.kept (t' := tk) fun b o q => Heap.get?_push_of_some _ q
        have hrd : PySem.W.EachIs (fun (u : Value) (b : V × D) => ∃ as, Reads (h'.push (seqObj "list" acc.toList.toArray 0)) u b.2.toP as ∧ h'.objs.size ∉ as) acc.toList bs := by
          have hrd0 := vals_reads I1 hv e2
          refine hrd0.mono fun u b ⟨as, q⟩ => ⟨as, Reads.keeps (fun _ _ e => Heap.get?_push_of_some _ e) q, fun hm => ?_⟩
          rw [noAs _ q] at hm
          cases hm
        show wpAny _ _ _ _ _ { s with heap := h'.push (seqObj "list" acc.toList.toArray 0), toks := tk }
        refine wpAny_bind (wpAny_holding (PySem.W.list_sort_data (R := fun u b => RelV b.1 u) (s := { s with heap := h'.push (seqObj "list" acc.toList.toArray 0), toks := tk }) hoL (vals_each hv) hrd e4 e5 (by rw [e3]; simp only [List.length_map]; rw [← hl]; exact h16) (fun b hb => by have := e6 b hb; show X.A.units + 1 + 1 + _ < _; omega) fun out hol eo => ?_))
        obtain ⟨e', he'⟩ := PyProof.Rows.sortedHeap_at (vs := acc.toList) (out := List.toArray out) hoL
        have hf := I1.hok.fresh (Nat.le_refl h'.objs.size)
        refine wpAny_pure ⟨_, rfl, .ref h'.objs.size, _, I1.laid (t' := tk) (fun b u e => ?_) (Nat.le_refl _) (o := .lst ((bs.mergeSort (PySem.W.dataLe false fun b => b.2.toP)).map (·.1))) ⟨?_, out, e', each_vals eo, he'⟩, rfl, OkR.new h S hf rfl ⟨_, upd_same, e7.step (Step.alloc hf)⟩⟩
        · have hb : b < h'.objs.size := Heap.lt_size e
          rw [PyProof.Rows.sortedHeap_old (Nat.ne_of_lt hb) (by rw [size_push']; exact Nat.lt_succ_of_lt hb)]
          exact Heap.get?_push_of_some _ e
        · rw [List.length_map, List.length_mergeSort, e3]; simp only [List.length_map]; rw [← hl]; exact h16
      · exact h.elim
    · exact h.elim
  · exact h.elim
end
end Sk
end
section
set_option Elab.async false
set_option linter.all false
set_option autoImplicit false
set_option maxRecDepth 100000
/-! SkC: an expression leaves what is older than it within itself. -/
namespace Sk
open PySem (Str)

structure Kept (M M' : Store) : Prop where
  len : M.length ≤ M'.length
  bel : ∀ (b : Nat), b ≤ M.length → Below b M → Below b M'
theorem Kept.refl {M : Store} : Kept M M := ⟨Nat.le_refl _, fun _ _ h => h⟩
theorem Kept.trans {A B C : Store} (x : Kept A B) (y : Kept B C) : Kept A C := ⟨Nat.le_trans x.len y.len, fun b hb h => y.bel b (Nat.le_trans hb x.len) (x.bel b hb h)⟩
theorem Kept.app {M : Store} {t : Store} : Kept M (M ++ t) := ⟨by simp, fun b hb h i o hi e => by
  rw [List.getElem?_append_left (by omega)] at e
  exact h i o hi e⟩
theorem Kept.take {M M' : Store} {n : Nat} (h : Kept M M') (hn : M.length ≤ n) : Kept M (M'.take n) := ⟨by have := h.len; simp; omega, fun b hb q i o hi e => by
  rw [List.getElem?_take_of_lt (by omega)] at e
  exact h.bel b hb q i o hi e⟩
theorem Kept.takeApp {M M' : Store} {n : Nat} {t : Store} (h : Kept M M') (hn : M.length ≤ n) : Kept M (M'.take n ++ t) := (h.take hn).trans Kept.app
theorem Kept.set {M : Store} {i : Nat} {o o' : O} (e : M[i]? = some o) (h : ∀ b, b ≤ M.length → o.under b → o'.under b) : Kept M (M.set i o') := ⟨by simp, fun b hb q k r hk e' => by
  by_cases z : i = k
  · subst z
    rw [List.getElem?_set_self (List.getElem?_eq_some_iff.mp e).1] at e'
    cases e'
    exact h b hb (q i o hk e)
  · rw [List.getElem?_set_ne z] at e'
    exact q k r hk e'⟩
def Kp {α : Type} (M : Store) : Res α → Prop
  | .ok _ M' => Kept M M'
  | .exc _ M' => Kept M M'
  | .bad => True
theorem Kp.of {α : Type} {M : Store} {a : α} : Kp M (.ok a M) := Kept.refl
theorem Kp.bad {α : Type} {M : Store} : Kp M (.bad : Res α) := trivial
theorem Kp.app {α : Type} {M t : Store} {a : α} : Kp M (.ok a (M ++ t)) := Kept.app
theorem Kp.mono {α : Type} {A B : Store} {r : Res α} (h : Kp B r) (k : Kept A B) : Kp A r := by
  cases r with
  | ok a M => exact k.trans h
  | exc x M => exact k.trans h
  | bad => trivial
theorem Kp.bind {α β : Type} {M : Store} {r : Res α} {f : α → Store → Res β} (h : Kp M r) (hf : ∀ a M1, r = .ok a M1 → Kp M1 (f a M1)) : Kp M (r.bind f) := by
  cases r with
  | ok a M1 => exact (hf a M1 rfl).mono h
  | exc x M1 => exact h
  | bad => trivial
theorem Kp.noExc {α : Type} {M : Store} {r : Res α} (h : Kp M r) : Kp M (noExc r) := by
  cases r <;> first | exact h | trivial
theorem kp_gc {M M1 : Store} {n : Nat} {d : D} (h : Kept M M1) (hn : M.length ≤ n) : Kp M (gc n d M1) := by
  unfold gc
  split
  · exact h.take hn
  · split
    · split
      · exact h.take hn
      · split
        · split
          · exact h.takeApp hn
          · exact h
        · trivial
    · exact h
theorem Kp.gc {M : Store} {n : Nat} {r : Res D} (h : Kp M r) (hn : M.length ≤ n) : Kp M (r.gc n) := by
  cases r with
  | ok a M1 => exact kp_gc h hn
  | exc x M1 => exact Kept.take h hn
  | bad => trivial
theorem kp_optB {M : Store} {o : Option Bool} : Kp M (optB M o) := by cases o <;> first | exact Kp.of | trivial
theorem kp_bin {o : BOp} {a b : D} {M : Store} : Kp M (binD o a b M) := by
  cases o <;> simp only [binD, addD, mulD, alloc]
  all_goals
    repeat' split
  all_goals first | exact Kp.of | exact Kp.app | trivial
theorem kp_cmp {o : COp} {a b : D} {M : Store} : Kp M (cmpD o a b M) := by
  cases o <;> simp only [cmpD]
  all_goals
    repeat' split
  all_goals first | exact kp_optB | exact Kp.of | trivial
theorem kp_ix {a b : D} {M : Store} : Kp M (ixD a b M) := by
  unfold ixD ixL
  repeat' split
  all_goals first | exact Kp.of | trivial
theorem kp_slc {a : D} {lo hi : Option Int} {M : Store} : Kp M (slcD a lo hi M) := by
  unfold slcD alloc
  repeat' split
  all_goals first | exact Kp.of | exact Kp.app | trivial
theorem kp_truth {a : D} {M : Store} : Kp M (truthR a M) := by
  unfold truthR
  split <;> first | exact Kp.of | trivial
theorem kp_blt {f : Blt} {ds : List D} {M : Store} : Kp M (bltD f ds M) := by
  cases f <;> simp only [bltD, alloc]
  all_goals
    repeat' split
  all_goals first | exact Kp.of | exact Kp.app | trivial
theorem kp_mth {m : Mth} {o : D} {ds : List D} {M : Store} : Kp M (mthD m o ds M) := by
  cases m <;> simp only [mthD]
  all_goals
    repeat' split
  all_goals first
    | exact Kp.of
    | trivial
    | skip
  · exact Kept.set (o := .lst _) (by assumption) fun b _ h => D.unders_mem.mpr fun x hx => D.unders_mem.mp (show D.unders b _ from h) x (List.dropLast_subset _ hx)
  · exact Kept.set (o := .lst _) (by assumption) fun b _ h => D.unders_mem.mpr fun x hx => D.unders_mem.mp (show D.unders b _ from h) x (List.mem_of_mem_eraseIdx hx)
theorem kp_walk {n : Nat} {k : Ik} {ds : List D} {M0 M : Store} (h : Kept M0 M) (hn : M0.length ≤ n) : Kp M0 (walkG n k ds M) := by
  unfold walkG
  repeat' split
  all_goals first | exact h.take hn | exact h | trivial
/-- calls keep what is older -/
def CK (c : Cx) : Prop := ∀ f ds M, Kp M (c.call f ds M)
theorem kp_lcW {w : Option (Nat × List D)} {blk : D → Store → Res (Option D)} (hb : ∀ x M, Kp M (blk x M)) : ∀ (xs : List D) (M : Store), Kp M (lcW w blk xs M)
  | [], M => by
    unfold lcW
    split <;> first | exact Kp.of | trivial
  | x :: xs, M => by
    unfold lcW
    split
    · refine Kp.bind (hb x M) fun o M1 _ => Kp.bind (kp_lcW hb xs M1) fun ys M2 _ => ?_
      split <;> exact Kp.of
    · trivial
mutual
theorem kp_ev {c : Cx} (hc : CK c) : ∀ (e : E) (ρ : Env) (M : Store), Kp M (ev c e ρ M)
  | .var i, ρ, M => by unfold ev; split <;> first | exact Kp.of | trivial
  | .cst d, ρ, M => by unfold ev; exact Kp.of
  | .glb x, ρ, M => by unfold ev; split <;> first | exact Kp.of | trivial
  | .bin o a b, ρ, M => by unfold ev; exact Kp.bind (kp_ev hc a ρ M) fun x M1 _ => Kp.bind (kp_ev hc b ρ M1) fun y M2 _ => kp_bin
  | .neg a, ρ, M => by unfold ev; exact Kp.bind (kp_ev hc a ρ M) fun x M1 _ => by split <;> first | exact Kp.of | trivial
  | .cmp o a b, ρ, M => by unfold ev; exact Kp.bind (kp_ev hc a ρ M) fun x M1 _ => Kp.bind (kp_ev hc b ρ M1) fun y M2 _ => kp_cmp
  | .chain o p a b d, ρ, M => by
    unfold ev
    refine Kp.bind (kp_ev hc a ρ M) fun x M1 _ => Kp.bind (kp_ev hc b ρ M1) fun y M2 _ => Kp.bind kp_cmp fun r M3 _ => ?_
    split
    · exact Kp.bind (kp_ev hc d ρ M3) fun z M4 _ => kp_cmp
    · exact Kp.of
    · trivial
  | .and a b, ρ, M => by
    unfold ev
    refine Kp.bind (kp_ev hc a ρ M) fun x M1 _ => Kp.bind kp_truth fun t M2 _ => ?_
    split
    · exact kp_ev hc b ρ M2
    · exact Kp.of
  | .or a b, ρ, M => by
    unfold ev
    refine Kp.bind (kp_ev hc a ρ M) fun x M1 _ => Kp.bind kp_truth fun t M2 _ => ?_
    split
    · exact Kp.of
    · exact kp_ev hc b ρ M2
  | .not a, ρ, M => by unfold ev; exact Kp.bind (kp_ev hc a ρ M) fun x M1 _ => Kp.bind kp_truth fun t M2 _ => Kp.of
  | .ite t a b, ρ, M => by
    unfold ev
    refine Kp.bind (kp_ev hc t ρ M) fun x M1 _ => Kp.bind kp_truth fun t M2 _ => ?_
    split
    · exact kp_ev hc a ρ M2
    · exact kp_ev hc b ρ M2
  | .tup es, ρ, M => by unfold ev; exact Kp.bind (kp_evs hc es ρ M) fun x M1 _ => Kp.of
  | .lst es, ρ, M => by unfold ev; exact Kp.bind (kp_evs hc es ρ M) fun x M1 _ => Kp.app
  | .dct t, ρ, M => by unfold ev; exact Kp.app
  | .ix a b, ρ, M => by unfold ev; exact Kp.bind (kp_ev hc a ρ M) fun x M1 _ => Kp.bind (kp_ev hc b ρ M1) fun y M2 _ => kp_ix
  | .slc a, ρ, M => by unfold ev; exact Kp.bind (kp_ev hc a ρ M) fun x M1 _ => kp_slc
  | .slcL a lo, ρ, M => by
    unfold ev
    refine Kp.bind (kp_ev hc a ρ M) fun x M1 _ => Kp.bind (kp_ev hc lo ρ M1) fun y M2 _ => ?_
    split <;> first | exact kp_slc | trivial
  | .slcU a hi, ρ, M => by
    unfold ev
    refine Kp.bind (kp_ev hc a ρ M) fun x M1 _ => Kp.bind (kp_ev hc hi ρ M1) fun y M2 _ => ?_
    split <;> first | exact kp_slc | trivial
  | .slcLU a lo hi, ρ, M => by
    unfold ev
    refine Kp.bind (kp_ev hc a ρ M) fun x M1 _ => Kp.bind (kp_ev hc lo ρ M1) fun y M2 _ => ?_
    split
    · refine Kp.bind (kp_ev hc hi ρ M2) fun y M2 _ => ?_
      split <;> first | exact kp_slc | trivial
    · trivial
  | .call f es, ρ, M => by unfold ev; exact Kp.bind (kp_evs hc es ρ M) fun x M1 _ => hc f x M1
  | .blt f es, ρ, M => by unfold ev; exact Kp.bind (kp_evs hc es ρ M) fun x M1 _ => kp_blt
  | .mth m o es, ρ, M => by
    unfold ev
    refine Kp.bind (kp_ev hc o ρ M) fun x M1 _ => ?_
    split
    · exact Kp.bind (kp_evs hc es ρ M1) fun xs M2 _ => kp_mth
    · trivial
  | .isi a ts, ρ, M => by
    unfold ev
    refine Kp.bind (kp_ev hc a ρ M) fun x M1 _ => ?_
    split <;> first | exact kp_optB | trivial
  | .fld a f, ρ, M => by
    unfold ev
    refine Kp.bind (kp_ev hc a ρ M) fun x M1 _ => ?_
    split
    · split <;> first | exact Kp.of | trivial
    · trivial
  | .lc elt tg k its ifs own, ρ, M => by
    unfold ev
    have h := kp_evs hc its ρ M
    cases q : evs c its ρ M with
    | ok ds M1 =>
      rw [q] at h
      simp only [Res.bind]
      refine Kp.bind (kp_walk h (Nat.le_refl _)) fun p M2 _ => ?_
      obtain ⟨xs, w⟩ := p
      simp only
      split
      · refine Kp.bind (kp_lcW (fun x M3 => ?_) xs M2) fun ys M3 _ => Kp.app
        cases assignT M3 tg x (wipe ρ own) with
        | none => trivial
        | some ρ1 =>
          refine Kp.noExc (Kp.bind (kp_evt hc ifs ρ1 M3) fun t M4 _ => ?_)
          split
          · exact Kp.bind (Kp.gc (kp_ev hc elt ρ1 M4) (Nat.le_refl _)) fun y M5 _ => Kp.of
          · exact Kp.of
      · trivial
    | exc x M1 => rw [q] at h; exact h
    | bad => trivial
theorem kp_evs {c : Cx} (hc : CK c) : ∀ (es : List E) (ρ : Env) (M : Store), Kp M (evs c es ρ M)
  | [], ρ, M => by unfold evs; exact Kp.of
  | e :: es, ρ, M => by unfold evs; exact Kp.bind (kp_ev hc e ρ M) fun x M1 _ => Kp.bind (kp_evs hc es ρ M1) fun xs M2 _ => Kp.of
theorem kp_evt {c : Cx} (hc : CK c) : ∀ (es : List E) (ρ : Env) (M : Store), Kp M (evt c es ρ M)
  | [], ρ, M => by unfold evt; exact Kp.of
  | e :: es, ρ, M => by
    unfold evt
    have h : Kp M ((ev c e ρ M).bind truthR) := Kp.bind (kp_ev hc e ρ M) fun x M1 _ => kp_truth
    cases q : (ev c e ρ M).bind truthR with
    | ok t M1 =>
      rw [q] at h
      have h1 : Kept M (M1.take M.length) := Kept.take h (Nat.le_refl _)
      simp only [Res.bind]
      split
      · exact (kp_evt hc es ρ _).mono h1
      · exact h1
    | exc x M1 => rw [q] at h; exact h
    | bad => trivial
end
theorem kp_evg {c : Cx} (hc : CK c) (e : E) (ρ : Env) (M : Store) : Kp M (evg c e ρ M) := Kp.gc (kp_ev hc e ρ M) (Nat.le_refl _)
theorem kp_evb {c : Cx} (hc : CK c) (e : E) (ρ : Env) (M : Store) : Kp M (evb c e ρ M) := by
  have h : Kp M ((ev c e ρ M).bind truthR) := Kp.bind (kp_ev hc e ρ M) fun x M1 _ => kp_truth
  unfold evb
  cases q : (ev c e ρ M).bind truthR with
  | ok t M1 => rw [q] at h; exact Kept.take h (Nat.le_refl _)
  | exc x M1 => rw [q] at h; exact Kept.take h (Nat.le_refl _)
  | bad => trivial

/-! ### statements -/
structure KeptB (n : Nat) (M M' : Store) : Prop where
  len : M.length ≤ M'.length
  bel : ∀ (b : Nat), b ≤ n → b ≤ M.length → Below b M → Below b M'
def KpO (n : Nat) (M : Store) : Out → Prop
  | .nx _ M' => KeptB n M M'
  | .rt _ M' => KeptB n M M'
  | .bk _ M' => KeptB n M M'
  | .ct _ M' => KeptB n M M'
  | .exc _ _ M' => KeptB n M M'
  | .bad => True
theorem Kept.b {n : Nat} {M M' : Store} (h : Kept M M') : KeptB n M M' := ⟨h.len, fun b _ hb q => h.bel b hb q⟩
theorem KeptB.trans {n : Nat} {A B C : Store} (x : KeptB n A B) (y : KeptB n B C) : KeptB n A C := ⟨Nat.le_trans x.len y.len, fun b hn hb h => y.bel b hn (Nat.le_trans hb x.len) (x.bel b hn hb h)⟩
theorem KeptB.take {n k : Nat} {M M' : Store} (h : KeptB n M M') (hn : M.length ≤ k) : KeptB n M (M'.take k) := ⟨by have := h.len; simp; omega, fun b hb hb' q i o hi e => by
  rw [List.getElem?_take_of_lt (by omega)] at e
  exact h.bel b hb hb' q i o hi e⟩
theorem KpO.mono {n : Nat} {A B : Store} {r : Out} (h : KpO n B r) (k : KeptB n A B) : KpO n A r := by
  cases r <;> first | exact k.trans h | trivial
theorem kpo_out {n : Nat} {M : Store} {ρ : Env} {r : Res D} {f : D → Store → Out} (h : Kp M r) (hf : ∀ d M1, r = .ok d M1 → KpO n M1 (f d M1)) : KpO n M (r.out ρ f) := by
  cases r with
  | ok a M1 => exact (hf a M1 rfl).mono (Kept.b h)
  | exc x M1 => exact Kept.b h
  | bad => trivial
theorem kpo_outB {n : Nat} {M : Store} {ρ : Env} {r : Res Bool} {f : Bool → Store → Out} (h : Kp M r) (hf : ∀ d M1, r = .ok d M1 → KpO n M1 (f d M1)) : KpO n M (r.outB ρ f) := by
  cases r with
  | ok a M1 => exact (hf a M1 rfl).mono (Kept.b h)
  | exc x M1 => exact Kept.b h
  | bad => trivial
theorem kpo_then {n : Nat} {M : Store} {o : Out} {f : Env → Store → Out} (h : KpO n M o) (hf : ∀ ρ M1, KpO n M1 (f ρ M1)) : KpO n M (o.andThen f) := by
  cases o with
  | nx ρ M1 => exact (hf ρ M1).mono h
  | _ => exact h
theorem kpo_kill {n : Nat} {M : Store} {o : Out} {ks : List Nat} (h : KpO n M o) : KpO n M (o.kill ks) := by cases o <;> exact h
theorem kpo_noX {n : Nat} {M : Store} {o : Out} (h : KpO n M o) : KpO n M o.noX := by cases o <;> first | exact h | trivial
theorem kpo_forL {n : Nat} {w : Option (Nat × List D)} {body : D → Env → Store → Out} (hb : ∀ x ρ M, KpO n M (body x ρ M)) : ∀ (xs : List D) (ρ : Env) (M : Store), KpO n M (forL w body xs ρ M)
  | [], ρ, M => by unfold forL; split <;> first | exact Kept.refl.b | trivial
  | x :: xs, ρ, M => by
    unfold forL
    split
    · have h := hb x ρ M
      cases q : body x ρ M with
      | nx ρ' M' => rw [q] at h; exact (kpo_forL hb xs ρ' M').mono h
      | ct ρ' M' => rw [q] at h; exact (kpo_forL hb xs ρ' M').mono h
      | bk ρ' M' => rw [q] at h; exact h
      | rt ρ' M' => rw [q] at h; exact h
      | exc x ρ' M' => rw [q] at h; exact h
      | bad => trivial
    · trivial
theorem kpo_whileN {n : Nat} {c : Env → Store → Res Bool} {body : Env → Store → Out} (hc : ∀ ρ M, Kp M (c ρ M)) (hb : ∀ ρ M, KpO n M (body ρ M)) : ∀ (k : Nat) (ρ : Env) (M : Store) (o : Out), whileN c body k ρ M = some o → KpO n M o
  | 0, ρ, M, o, h => by simp [whileN] at h
  | k + 1, ρ, M, o, h => by
    unfold whileN at h
    have h1 := hc ρ M
    cases q : c ρ M with
    | ok b M1 =>
      rw [q] at h h1
      replace h1 := Kept.b (n := n) h1
      simp only at h
      split at h
      · have h2 := hb ρ M1
        cases q2 : body ρ M1 with
        | nx ρ' M' => rw [q2] at h h2; exact ((kpo_whileN hc hb k ρ' M' o h).mono h2).mono h1
        | ct ρ' M' => rw [q2] at h h2; exact ((kpo_whileN hc hb k ρ' M' o h).mono h2).mono h1
        | bk ρ' M' => rw [q2] at h h2; cases h; exact h1.trans h2
        | rt ρ' M' => rw [q2] at h h2; cases h; exact h1.trans h2
        | exc x ρ' M' => rw [q2] at h h2; cases h; exact h1.trans h2
        | bad => rw [q2] at h; cases h; trivial
      · cases h; exact h1
    | exc x M1 => rw [q] at h h1; cases h; exact Kept.b h1
    | bad => rw [q] at h; cases h; trivial
theorem kpo_whileD {n : Nat} {c : Env → Store → Res Bool} {body : Env → Store → Out} (hc : ∀ ρ M, Kp M (c ρ M)) (hb : ∀ ρ M, KpO n M (body ρ M)) (ρ : Env) (M : Store) : KpO n M (whileD c body ρ M) := by
  unfold whileD
  split
  · rename_i h
    exact kpo_whileN hc hb _ ρ M _ (Classical.choose_spec (Classical.choose_spec h))
  · trivial
theorem putK_mem {κ : Type} [DecidableEq κ] {k : κ} {v : D} {kvs : List (κ × D)} {p : κ × D} (h : p ∈ putK kvs k v) : p.2 = v ∨ p ∈ kvs := by
  unfold putK at h
  split at h
  · obtain ⟨q, hq, rfl⟩ := List.mem_map.mp h
    split
    · exact .inl rfl
    · exact .inr hq
  · rcases List.mem_append.mp h with h | h
    · exact .inr h
    · cases List.mem_singleton.mp h; exact .inl rfl
theorem KeptB.set {n : Nat} {M : Store} {i : Nat} {o o' : O} (e : M[i]? = some o) (h : ∀ b, b ≤ n → b ≤ M.length → i < b → o.under b → o'.under b) : KeptB n M (M.set i o') := ⟨by simp, fun b hn hb q k r hk e' => by
  by_cases z : i = k
  · subst z
    rw [List.getElem?_set_self (List.getElem?_eq_some_iff.mp e).1] at e'
    cases e'
    exact h b hn hb hk (q i o hk e)
  · rw [List.getElem?_set_ne z] at e'
    exact q k r hk e'⟩
theorem okIn_under {c : Cx} {i : Nat} {d : D} (h : okIn c i d = true) {b : Nat} (hb : b ≤ c.base) (hi : i < b) : d.under b := by
  unfold okIn at h
  simp only [Bool.or_eq_true, decide_eq_true_eq] at h
  rcases h with h | h
  · omega
  · exact D.pure_under h
theorem putD_kept {n m : Nat} {k x : D} {M M' : Store} (h : putD n k x M = some M') (hx : ∀ b, b ≤ m → n < b → x.under b) : KeptB m M M' := by
  unfold putD at h
  split at h
  · rename_i e
    split at h
    · split at h
      · cases h
        refine KeptB.set e fun b hb _ hi h => D.unders_mem.mpr fun y hy => ?_
        rcases List.mem_or_eq_of_mem_set hy with hy | rfl
        · exact D.unders_mem.mp (show D.unders b _ from h) y hy
        · exact hx b hb hi
      · cases h
    · cases h
  · rename_i e
    split at h
    · split at h
      · cases h
        refine KeptB.set e fun b hb _ hi h => ?_
        intro p hp
        rcases putK_mem hp with hy | hy
        · rw [hy]; exact hx b hb hi
        · exact h p hy
      · cases h
    · cases h
  · cases h
mutual
theorem kp_ex {c : Cx} (hc : CK c) : ∀ (s : S) (ρ : Env) (M : Store), KpO c.base M (ex c s ρ M)
  | .set i e, ρ, M => by unfold ex; exact kpo_out (kp_evg hc e ρ M) fun d M1 _ => Kept.refl.b
  | .unp is e, ρ, M => by unfold ex; exact kpo_out (kp_evg hc e ρ M) fun d M1 _ => by split <;> first | exact Kept.refl.b | trivial
  | .par i j a b, ρ, M => by unfold ex; exact kpo_out (kp_evg hc a ρ M) fun d M1 _ => kpo_out (kp_evg hc b ρ M1) fun d M1 _ => Kept.refl.b
  | .put v o i, ρ, M => by
    unfold ex
    refine kpo_out (kp_evg hc v ρ M) fun x M1 _ => ?_
    cases q1 : ev c o ρ M1 with
    | ok a M2 =>
      have k1 := kp_ev hc o ρ M1
      rw [q1] at k1
      simp only [Res.out]
      cases q2 : ev c i ρ M2 with
      | ok k M3 =>
        have k2 := kp_ev hc i ρ M2
        rw [q2] at k2
        have k3 : Kept M1 M3 := k1.trans k2
        simp only [Res.out]
        split
        · split
          · rename_i hin
            split
            · rename_i M4 e
              exact KeptB.take (KeptB.trans k3.b (putD_kept e fun b hb hi => okIn_under hin hb hi)) (Nat.le_refl _)
            · trivial
          · trivial
        · trivial
      | exc x' M3 =>
        have k2 := kp_ev hc i ρ M2
        rw [q2] at k2
        exact (k1.trans k2).b
      | bad => trivial
    | exc x' M2 =>
      have k1 := kp_ev hc o ρ M1
      rw [q1] at k1
      exact k1.b
    | bad => trivial
  | .app o e, ρ, M => by
    unfold ex
    refine kpo_out (kp_ev hc o ρ M) fun a M1 _ => ?_
    split
    · refine kpo_out (kp_evg hc e ρ M1) fun x M2 _ => ?_
      split
      · split
        · rename_i q
          split
          · rename_i g
            refine KeptB.set q fun b hb _ hi h => ?_
            refine D.unders_mem.mpr fun y hy => ?_
            rcases List.mem_append.mp hy with hy | hy
            · exact D.unders_mem.mp (show D.unders b _ from h) y hy
            · cases List.mem_singleton.mp hy
              exact okIn_under g.2 hb hi
          · trivial
        · trivial
      · trivial
    · trivial
  | .ext o e, ρ, M => by
    unfold ex
    cases q1 : ev c o ρ M with
    | ok a M1 =>
      have k1 := kp_ev hc o ρ M
      rw [q1] at k1
      simp only [Res.out]
      split
      · cases q2 : ev c e ρ M1 with
        | ok k M2 =>
          have k2 := kp_ev hc e ρ M1
          rw [q2] at k2
          have k3 : Kept M M2 := k1.trans k2
          simp only
          split
          · split
            · rename_i q _
              split
              · rename_i g
                refine KeptB.take (KeptB.trans k3.b (KeptB.set q fun b hb _ hi h => ?_)) (Nat.le_refl _)
                refine D.unders_mem.mpr fun y hy => ?_
                rcases List.mem_append.mp hy with hy | hy
                · exact D.unders_mem.mp (show D.unders b _ from h) y hy
                · exact D.pure_under (D.pures_mem.mp g.2.1 y hy)
              · trivial
            · trivial
          · trivial
        | exc x' M3 =>
          have k2 := kp_ev hc e ρ M1
          rw [q2] at k2
          exact (k1.trans k2).b
        | bad => trivial
      · trivial
    | exc x' M2 =>
      have k1 := kp_ev hc o ρ M
      rw [q1] at k1
      exact k1.b
    | bad => trivial
  | .rev o, ρ, M => by
    unfold ex
    refine kpo_out (kp_ev hc o ρ M) fun a M1 _ => ?_
    split
    · split
      · rename_i q
        exact KeptB.set q fun b hb _ hi h => D.unders_mem.mpr fun y hy => D.unders_mem.mp (show D.unders b _ from h) y (List.mem_reverse.mp hy)
      · trivial
    · trivial
  | .exp e, ρ, M => by unfold ex; exact kpo_out (kp_evg hc e ρ M) fun d M1 _ => Kept.refl.b
  | .ret e, ρ, M => by unfold ex; exact kpo_out (kp_evg hc e ρ M) fun d M1 _ => Kept.refl.b
  | .retN, ρ, M => by unfold ex; exact Kept.refl.b
  | .iff t a b, ρ, M => by
    unfold ex
    refine kpo_outB (kp_evb hc t ρ M) fun k M1 _ => ?_
    split
    · exact kp_exs hc a ρ M1
    · exact kp_exs hc b ρ M1
  | .for tg k its body kill, ρ, M => by
    unfold ex
    have h := kp_evs hc its ρ M
    cases q : evs c its ρ M with
    | ok ds M1 =>
      rw [q] at h
      have h2 := kp_walk (k := k) (ds := ds) h (Nat.le_refl _)
      simp only [Res.bind]
      cases q2 : walkG M.length k ds M1 with
      | ok p M2 =>
        obtain ⟨xs, w⟩ := p
        rw [q2] at h2
        refine (kpo_forL (fun x ρ1 M2 => ?_) xs _ M2).mono (Kept.b h2)
        split
        · exact kpo_kill (kp_exs hc body _ M2)
        · trivial
      | exc x M2 => rw [q2] at h2; exact (Kept.take h2 (Nat.le_refl _)).b
      | bad => trivial
    | exc x M1 => rw [q] at h; exact (Kept.take h (Nat.le_refl _)).b
    | bad => trivial
  | .while t body kill, ρ, M => by
    unfold ex
    exact kpo_whileD (fun ρ M => kp_evb hc t ρ M) (fun ρ M => kpo_kill (kp_exs hc body ρ M)) _ M
  | .brk, ρ, M => by unfold ex; exact Kept.refl.b
  | .cnt, ρ, M => by unfold ex; exact Kept.refl.b
  | .pass, ρ, M => by unfold ex; exact Kept.refl.b
  | .rai _ _, ρ, M => by unfold ex; trivial
  | .rse _ _ e, ρ, M => by
    unfold ex
    refine kpo_out (kp_evg hc e ρ M) fun d M1 _ => ?_
    split
    · exact Kept.refl.b
    · trivial
  | .tri body cs bs, ρ, M => by
    unfold ex
    have h := kp_exs hc body ρ M
    cases q : exs c body ρ M with
    | exc x ρ1 M1 => rw [q] at h; exact (kp_exh hc bs cs x ρ1 M1).mono h
    | nx ρ1 M1 => rw [q] at h; exact h
    | ct ρ1 M1 => rw [q] at h; exact h
    | bk ρ1 M1 => rw [q] at h; exact h
    | rt ρ1 M1 => rw [q] at h; exact h
    | bad => trivial
theorem kp_exs {c : Cx} (hc : CK c) : ∀ (ss : List S) (ρ : Env) (M : Store), KpO c.base M (exs c ss ρ M)
  | [], ρ, M => by unfold exs; exact Kept.refl.b
  | s :: ss, ρ, M => by unfold exs; exact kpo_then (kp_ex hc s ρ M) fun ρ M1 => kp_exs hc ss ρ M1
theorem kp_exh {c : Cx} (hc : CK c) : ∀ (bs : List (List S)) (cs : List (String × Option Nat)) (x : Exc) (ρ : Env) (M : Store), KpO c.base M (exh c cs bs x ρ M)
  | [], cs, x, ρ, M => by unfold exh; exact Kept.refl.b
  | b :: bs, cs, x, ρ, M => by
    unfold exh
    split
    · trivial
    · split
      · exact kpo_kill (kpo_noX (kp_exs hc b _ M))
      · exact kp_exh hc bs _ x ρ M
end
theorem KeptB.kept {M M' : Store} (h : KeptB M.length M M') : Kept M M' := ⟨h.len, fun b hb q => h.bel b hb hb q⟩
theorem kp_leave {M : Store} {o : Out} (h : KpO M.length M o) : Kp M (leave M.length o) := by
  cases o with
  | rt d M1 => exact kp_gc (KeptB.kept h) (Nat.le_refl _)
  | nx ρ M1 => exact (KeptB.kept h).take (Nat.le_refl _)
  | exc x ρ M1 => exact (KeptB.kept h).take (Nat.le_refl _)
  | _ => trivial
theorem kp_run {T : String → Option Def} {G : String → Option D} : ∀ (k : Nat) (f : String) (vs : List D) (M : Store), Kp M (run T G k f vs M)
  | 0, f, vs, M => by unfold run; trivial
  | k + 1, f, vs, M => by
    unfold run
    split
    · split
      · exact kp_leave (kp_exs (c := ⟨run T G k, G, M.length⟩) (fun f ds M => kp_run k f ds M) _ _ M)
      · trivial
    · trivial
end Sk
end
section
set_option Elab.async false
set_option linter.all false
set_option autoImplicit false
set_option maxRecDepth 100000
/-! SkD: what an expression of mine says of the hand layer's states; the rules. -/
namespace Sk
open PySem PySem.Spec PyProof.Rows L2

abbrev WX := Value → Option Addr → L2.St → Hp → Prop
section
variable (K : PySem.W.Frag) (RX : Exc → Value → Option Addr → Hp → Prop)
/-- what is wanted of a result -/
def Wp {α : Type} (Ex : Value → Option Addr → Hp → Prop) (ι : List Addr) (H : Hp) (P : α → Store → List Addr → Hp → Prop) : Res α → Prop
  | .ok a M' => ∀ ι' H', Step ι H ι' H' → SR K ι' H' M' → P a M' ι' H'
  | .exc x M' => ∀ ι' H' cls d, Step ι H ι' H' → SR K ι' H' M' → RX x cls d H' → Ex cls d H'
  | .bad => False
def PD (Q : VK) : D → Store → List Addr → Hp → Prop := fun d _ ι H => ∀ v, RelD K ι H d v → Q v H
def PDs (Q : List V → Hp → Prop) : List D → Store → List Addr → Hp → Prop := fun ds _ ι H => ∀ vs, RelDs K ι H ds vs → Q vs H
def PB (Q : Bool → Hp → Prop) : Bool → Store → List Addr → Hp → Prop := fun b _ _ H => Q b H
variable (W : WX) (c : Cx)
def tE (e : E) : TE := fun σ H Q => ∃ ρ M ι, REnv K ι H ρ σ ∧ SR K ι H M ∧ Wp K RX (fun cls d H' => W cls d σ H') ι H (PD K Q) (ev c e ρ M)
def tT (e : E) : TT := fun σ H Q => ∃ ρ M ι, REnv K ι H ρ σ ∧ SR K ι H M ∧ Wp K RX (fun cls d H' => W cls d σ H') ι H (PB Q) ((ev c e ρ M).bind truthR)
def tEs (es : List E) : TA := fun σ H Q => ∃ ρ M ι, REnv K ι H ρ σ ∧ SR K ι H M ∧ Wp K RX (fun cls d H' => W cls d σ H') ι H (PDs K Q) (evs c es ρ M)
end
section
variable {K : PySem.W.Frag} {RX : Exc → Value → Option Addr → Hp → Prop} {Ex : Value → Option Addr → Hp → Prop} {ι ι' : List Addr} {H H' : Hp} {α β : Type} {r : Res α}
theorem Wp.step {P : α → Store → List Addr → Hp → Prop} (h : Wp K RX Ex ι H P r) (st : Step ι H ι' H') : Wp K RX Ex ι' H' P r := by
  cases r with
  | ok a M => exact fun ι2 H2 s2 sr => h ι2 H2 (st.trans s2) sr
  | exc x M => exact fun ι2 H2 cls d s2 sr rx => h ι2 H2 cls d (st.trans s2) sr rx
  | bad => exact h
theorem Wp.bind {P : β → Store → List Addr → Hp → Prop} {f : α → Store → Res β} (h : Wp K RX Ex ι H P (r.bind f)) : Wp K RX Ex ι H (fun a M1 ι1 H1 => Wp K RX Ex ι1 H1 P (f a M1)) r := by
  cases r with
  | ok a M => exact fun ι2 H2 s2 sr => Wp.step h s2
  | exc x M => exact h
  | bad => exact h
theorem Wp.mono {P P' : α → Store → List Addr → Hp → Prop} (h : Wp K RX Ex ι H P r) (f : ∀ a M' ι' H', r = .ok a M' → Step ι H ι' H' → SR K ι' H' M' → P a M' ι' H' → P' a M' ι' H') : Wp K RX Ex ι H P' r := by
  cases r with
  | ok a M => exact fun ι2 H2 s2 sr => f a M ι2 H2 rfl s2 sr (h ι2 H2 s2 sr)
  | exc x M => exact h
  | bad => exact h
theorem Wp.now {P : α → Store → List Addr → Hp → Prop} {a : α} {M : Store} (h : Wp K RX Ex ι H P (.ok a M)) (sr : SR K ι H M) : P a M ι H := h ι H .refl sr
/-- no exception -/
def NoX : Res α → Prop
  | .exc _ _ => False
  | _ => True
theorem Wp.okR {Q : VK} {r : Res D} (h : Wp K RX Ex ι H (PD K Q) r) (n : NoX r) : OkR K ι H Q r := by
  cases r with
  | ok a M => exact fun ι2 H2 v s2 sr rv => h ι2 H2 s2 sr v rv
  | exc x M => exact n
  | bad => exact h
end
theorem nx_optB {M : Store} {o : Option Bool} : NoX (optB M o) := by cases o <;> trivial
theorem nx_bin {o : BOp} {a b : D} {M : Store} : NoX (binD o a b M) := by
  cases o <;> simp only [binD, addD, mulD, alloc]
  all_goals
    repeat' split
  all_goals trivial
theorem nx_cmp {o : COp} {a b : D} {M : Store} : NoX (cmpD o a b M) := by
  cases o <;> simp only [cmpD]
  all_goals
    repeat' split
  all_goals first | exact nx_optB | trivial
theorem nx_ix {a b : D} {M : Store} : NoX (ixD a b M) := by
  unfold ixD ixL
  repeat' split
  all_goals trivial
theorem nx_slc {a : D} {lo hi : Option Int} {M : Store} : NoX (slcD a lo hi M) := by
  unfold slcD alloc
  repeat' split
  all_goals trivial
theorem nx_blt {f : Blt} {ds : List D} {M : Store} : NoX (bltD f ds M) := by
  cases f <;> simp only [bltD, alloc]
  all_goals
    repeat' split
  all_goals trivial
theorem nx_mth {m : Mth} {o : D} {ds : List D} {M : Store} : NoX (mthD m o ds M) := by
  cases m <;> simp only [mthD]
  all_goals
    repeat' split
  all_goals trivial
theorem truthR_ok {d : D} {M M' : Store} {k : Bool} (h : truthR d M = .ok k M') : M' = M ∧ truth M d = some k := by
  unfold truthR at h
  split at h
  · cases h; exact ⟨rfl, by assumption⟩
  · cases h
theorem cmp_bl {o : COp} {a b d : D} {M M' : Store} (h : cmpD o a b M = .ok d M') : M' = M ∧ ∃ k, d = .bl k := by
  have ob : ∀ {q : Option Bool}, optB M q = .ok d M' → M' = M ∧ ∃ k, d = .bl k := fun {q} e => by
    cases q with
    | none => cases e
    | some k => cases e; exact ⟨rfl, k, rfl⟩
  cases o <;> simp only [cmpD] at h
  all_goals
    repeat' split at h
  all_goals first
    | exact ob h
    | (cases h; exact ⟨rfl, _, rfl⟩)
    | cases h
theorem L2PE.weak {X : L2.Cx} {e : Expr} {t t' : TE} (h : PE X e t) (f : ∀ σ H Q, t' σ H Q → t σ H Q) : PE X e t' := ⟨fun pins s σ H Q I q => h.run pins s σ H Q I (f _ _ _ q)⟩
theorem L2PT.weak {X : L2.Cx} {e : Expr} {t t' : TT} (h : PT X e t) (f : ∀ σ H Q, t' σ H Q → t σ H Q) : PT X e t' := ⟨fun pins s σ H Q I q => h.run pins s σ H Q I (f _ _ _ q)⟩
theorem L2PA.weak {X : L2.Cx} {e : List Expr} {t t' : TA} (h : PA X e t) (f : ∀ σ H Q, t' σ H Q → t σ H Q) : PA X e t' := ⟨fun pos pins s σ H Q I q => h.run pos pins s σ H Q I (f _ _ _ q)⟩
theorem L2PS.weak {X : L2.Cx} {e : Stmt} {t t' : TS} (h : PS X e t) (f : ∀ D σ H, t' D σ H → t D σ H) : PS X e t' := ⟨fun pins s σ H D I q => h.run pins s σ H D I (f _ _ _ q)⟩
theorem L2PSs.weak {X : L2.Cx} {e : List Stmt} {t t' : TS} (h : PSs X e t) (f : ∀ D σ H, t' D σ H → t D σ H) : PSs X e t' := ⟨fun pins s σ H D I q => h.run pins s σ H D I (f _ _ _ q)⟩

section
variable {X : L2.Cx} {RX : Exc → Value → Option Addr → Hp → Prop} {W : WX} {c : Cx} {a b d : Expr} {ea eb ed : E} {pos : Pos}
theorem sd_var {i : Nat} {x : Str} (hN : X.N[i]? = some x) (hv : Vis X.env.scope x) (hd : (x == ("__debug__" : Str)) = false) (hc : (x == ("__classdict__" : Str)) = false) : PE X (.Name x pos) (tE X.K RX W c (.var i)) :=
  L2PE.weak (pe_var hN hv hd hc) fun σ H Q ⟨ρ, M, ι, re, sr, h⟩ => by
    unfold ev at h
    split at h
    · rename_i d e
      obtain ⟨v, e1, rv⟩ := re.2 _ _ e
      exact ⟨v, e1, h.now sr v rv⟩
    · exact h.elim
/-- a written constant -/
def constV : D → Option V
  | .non => some .non
  | .bl b => some (.bl b)
  | .int i => some (.int i)
  | .str s => if s.length ≤ lim ∧ s.cps.all (· < 1114112) = true then some (.str s) else none
  | _ => none
theorem constV_rel {K : PySem.W.Frag} {ι : List Addr} {H : Hp} {d : D} {v : V} (h : constV d = some v) : RelD K ι H d v := by
  cases d with
  | str s =>
    simp only [constV] at h
    split at h
    · rename_i g
      cases h
      exact .strs (by rw [← lim_eq]; exact g.1) g.2
    · cases h
  | _ => simp only [constV, Option.some.injEq, reduceCtorEq] at h <;> (subst h; simp only [RelD])
theorem sd_cst {e : Expr} {d : D} {v : V} (h : PE X e (tC v)) (hv : constV d = some v) : PE X e (tE X.K RX W c (.cst d)) :=
  L2PE.weak h fun σ H Q ⟨ρ, M, ι, re, sr, h⟩ => by
    unfold ev at h
    exact h.now sr v (constV_rel hv)
theorem sd_glb {x : String} {y : Str} {d : D} {v : V} {u : Value} (hg : Gl X y) (hm : X.mg y = some u) (r : RelV v u) (hd : (y == ("__debug__" : Str)) = false) (hx : c.glob x = some d) (hr : ∀ ι H, RelD X.K ι H d v) : PE X (.Name y pos) (tE X.K RX W c (.glb x)) :=
  L2PE.weak (pe_glob hg hm r hd) fun σ H Q ⟨ρ, M, ι, re, sr, h⟩ => by
    unfold ev at h
    rw [hx] at h
    exact h.now sr v (hr ι H)
theorem sd_bin {o : BOp} (ha : PE X a (tE X.K RX W c ea)) (hb : PE X b (tE X.K RX W c eb)) : PE X (.BinOp a o.py b pos) (tE X.K RX W c (.bin o ea eb)) :=
  L2PE.weak (pe_op (ob_all o) ha hb) fun σ H Q ⟨ρ, M, ι, re, sr, h⟩ => by
    unfold ev at h
    exact ⟨ρ, M, ι, re, sr, h.bind.mono fun x M1 ι1 H1 _ st s1 h1 v rv => ⟨ρ, M1, ι1, re.step st, s1, h1.bind.mono fun y M2 ι2 H2 _ st2 s2 h2 u ru => ⟨ι2, M2, x, y, s2, rv.step st2, ru, h2.okR nx_bin⟩⟩⟩
theorem sd_cmp {o : COp} (hu : Rm X) (ha : PE X a (tE X.K RX W c ea)) (hb : PE X b (tE X.K RX W c eb)) (hm : behindInMarks o.py b = false) : PE X (.Compare a [o.py] [b] pos) (tE X.K RX W c (.cmp o ea eb)) :=
  L2PE.weak (pe_cmpR (oc_all hu o) ha hb hm) fun σ H Q ⟨ρ, M, ι, re, sr, h⟩ => by
    unfold ev at h
    exact ⟨ρ, M, ι, re, sr, h.bind.mono fun x M1 ι1 H1 _ st s1 h1 v rv => ⟨ρ, M1, ι1, re.step st, s1, h1.bind.mono fun y M2 ι2 H2 _ st2 s2 h2 u ru => ⟨ι2, M2, x, y, s2, rv.step st2, ru, h2.okR nx_cmp⟩⟩⟩
theorem Res.bind_assoc {α β γ : Type} (r : Res α) (f : α → Store → Res β) (g : β → Store → Res γ) : (r.bind f).bind g = r.bind fun a M => (f a M).bind g := by cases r <;> rfl
theorem cmp_test {o : COp} {x y : D} {M : Store} {K : PySem.W.Frag} {ι : List Addr} {H : Hp} {Ex : Value → Option Addr → Hp → Prop} {Q : Bool → Hp → Prop} (h : Wp K RX Ex ι H (PB Q) ((cmpD o x y M).bind truthR)) : OkR K ι H (fun x H' => ∃ k, x = .bl k ∧ Q k H') (cmpD o x y M) := by
  cases e : cmpD o x y M with
  | ok d M' =>
    obtain ⟨rfl, k, rfl⟩ := cmp_bl e
    rw [e] at h
    exact fun ι' H' v st sr rv => ⟨k, relD_bl rv, h ι' H' st sr⟩
  | exc x' M' =>
    have := nx_cmp (o := o) (a := x) (b := y) (M := M)
    rw [e] at this
    exact this
  | bad => rw [e] at h; exact h
theorem st_cmp {o : COp} (hu : Rm X) (ha : PE X a (tE X.K RX W c ea)) (hb : PE X b (tE X.K RX W c eb)) (hm : behindInMarks o.py b = false) : PT X (.Compare a [o.py] [b] pos) (tT X.K RX W c (.cmp o ea eb)) :=
  L2PT.weak (pt_cmpR (oc_all hu o) ha hb hm) fun σ H Q ⟨ρ, M, ι, re, sr, h⟩ => by
    unfold ev at h
    rw [Res.bind_assoc] at h
    refine ⟨ρ, M, ι, re, sr, h.bind.mono fun x M1 ι1 H1 _ st s1 h1 v rv => ⟨ρ, M1, ι1, re.step st, s1, ?_⟩⟩
    rw [Res.bind_assoc] at h1
    exact h1.bind.mono fun y M2 ι2 H2 _ st2 s2 h2 u ru => ⟨ι2, M2, x, y, s2, rv.step st2, ru, cmp_test h2⟩
theorem sd_chain {o p : COp} (hu : Rm X) (ha : PE X a (tE X.K RX W c ea)) (hb : PE X b (tE X.K RX W c eb)) (hd : PE X d (tE X.K RX W c ed)) (hm : lastMarks [o.py, p.py] [b, d] = false) : PE X (.Compare a [o.py, p.py] [b, d] pos) (tE X.K RX W c (.chain o p ea eb ed)) :=
  L2PE.weak (pe_chain (oc_all hu o) (oc_all hu p) ha hb hd hm) fun σ H Q ⟨ρ, M, ι, re, sr, h⟩ => by
    unfold ev at h
    refine ⟨ρ, M, ι, re, sr, h.bind.mono fun x M1 ι1 H1 _ st s1 h1 v rv => ⟨ρ, M1, ι1, re.step st, s1, h1.bind.mono fun y M2 ι2 H2 _ st2 s2 h2 u ru => ⟨ι2, M2, x, y, s2, rv.step st2, ru, ?_⟩⟩⟩
    refine Wp.okR (Ex := fun cls d H' => W cls d σ H') (h2.bind.mono fun z M3 ι3 H3 e3 st3 s3 h3 w rw' => ?_) nx_cmp
    obtain ⟨rfl, k, rfl⟩ := cmp_bl e3
    refine ⟨k, relD_bl rw', ?_⟩
    cases k with
    | true => exact ⟨ρ, M3, ι3, (re.step st).step (st2.trans st3), s3, h3.bind.mono fun z M4 ι4 H4 _ st4 s4 h4 w' rz => ⟨ι4, M4, y, z, s4, ru.step (st3.trans st4), rz, h4.okR nx_cmp⟩⟩
    | false => exact h3.now s3 _ .bls
theorem st_chain {o p : COp} (hu : Rm X) (ha : PE X a (tE X.K RX W c ea)) (hb : PE X b (tE X.K RX W c eb)) (hd : PE X d (tE X.K RX W c ed)) (hm : lastMarks [o.py, p.py] [b, d] = false) : PT X (.Compare a [o.py, p.py] [b, d] pos) (tT X.K RX W c (.chain o p ea eb ed)) :=
  L2PT.weak (pt_chain (oc_all hu o) (oc_all hu p) ha hb hd hm) fun σ H Q ⟨ρ, M, ι, re, sr, h⟩ => by
    unfold ev at h
    simp only [Res.bind_assoc] at h
    refine ⟨ρ, M, ι, re, sr, h.bind.mono fun x M1 ι1 H1 _ st s1 h1 v rv => ⟨ρ, M1, ι1, re.step st, s1, h1.bind.mono fun y M2 ι2 H2 _ st2 s2 h2 u ru => ⟨ι2, M2, x, y, s2, rv.step st2, ru, ?_⟩⟩⟩
    refine Wp.okR (Ex := fun cls d H' => W cls d σ H') (h2.bind.mono fun z M3 ι3 H3 e3 st3 s3 h3 w rw' => ?_) nx_cmp
    obtain ⟨rfl, k, rfl⟩ := cmp_bl e3
    refine ⟨k, relD_bl rw', ?_⟩
    cases k with
    | true =>
      simp only [Res.bind_assoc] at h3
      exact ⟨ρ, M3, ι3, (re.step st).step (st2.trans st3), s3, h3.bind.mono fun z M4 ι4 H4 _ st4 s4 h4 w' rz => ⟨ι4, M4, y, z, s4, ru.step (st3.trans st4), rz, cmp_test h4⟩⟩
    | false => exact ⟨false, rfl, h3.now s3⟩
theorem sd_neg (ha : PE X a (tE X.K RX W c ea)) : PE X (.UnaryOp .USub a pos) (tE X.K RX W c (.neg ea)) :=
  L2PE.weak (pe_un un_neg ha) fun σ H Q ⟨ρ, M, ι, re, sr, h⟩ => by
    unfold ev at h
    refine ⟨ρ, M, ι, re, sr, h.bind.mono fun x M1 ι1 H1 _ st s1 h1 v rv => ?_⟩
    split at h1
    · exact ⟨_, relD_int rv, h1.now s1 _ .ints⟩
    · exact h1.elim
/-- a value's truth as a test -/
theorem st_val {e : Expr} {ee : E} (h : PE X e (tE X.K RX W c ee)) (he : ∀ whole, isTrue e X.env whole = (do let v ← whole; standAt e.pos; holding [v] (truthy v))) : PT X e (tT X.K RX W c ee) :=
  L2PT.weak (pt_truth h he) fun σ H Q ⟨ρ, M, ι, re, sr, h⟩ => ⟨ρ, M, ι, re, sr, h.bind.mono fun x M1 ι1 H1 _ st s1 h1 v rv => by
    cases e1 : truthR x M1 with
    | ok k M2 =>
      obtain ⟨rfl, e2⟩ := truthR_ok e1
      rw [e1] at h1
      exact ⟨k, truth_ok s1 rv e2, h1.now s1⟩
    | exc x' M2 =>
      unfold truthR at e1
      split at e1 <;> cases e1
    | bad => rw [e1] at h1; exact h1.elim⟩
theorem truth_wp {K : PySem.W.Frag} {ι : List Addr} {H : Hp} {Ex : Value → Option Addr → Hp → Prop} {β : Type} {x : D} {M1 : Store} {f : Bool → Store → Res β} {P : β → Store → List Addr → Hp → Prop} (s1 : SR K ι H M1) {v : V} (rv : RelD K ι H x v)
    (h : Wp K RX Ex ι H P ((truthR x M1).bind f)) : ∃ k, truthR x M1 = .ok k M1 ∧ TruV K v H k ∧ Wp K RX Ex ι H P (f k M1) := by
  cases e1 : truthR x M1 with
  | ok k M2 =>
    obtain ⟨rfl, e2⟩ := truthR_ok e1
    rw [e1] at h
    exact ⟨k, rfl, truth_ok s1 rv e2, h⟩
  | exc x' M2 =>
    unfold truthR at e1
    split at e1 <;> cases e1
  | bad => rw [e1] at h; exact h.elim
variable {rest : List Expr}
theorem sd_and (ha : PE X a (tE X.K RX W c ea)) (hb : PE X (.BoolOp .And (b :: rest) pos) (tE X.K RX W c eb)) : PE X (.BoolOp .And (a :: b :: rest) pos) (tE X.K RX W c (.and ea eb)) :=
  L2PE.weak (pe_andT ha hb) fun σ H Q ⟨ρ, M, ι, re, sr, h⟩ => by
    unfold ev at h
    refine ⟨ρ, M, ι, re, sr, h.bind.mono fun x M1 ι1 H1 _ st s1 h1 v rv => ?_⟩
    obtain ⟨k, _, tv, h2⟩ := truth_wp s1 rv h1
    refine ⟨k, tv, ?_⟩
    cases k with
    | true => exact ⟨ρ, M1, ι1, re.step st, s1, h2⟩
    | false => exact h2.now s1 _ rv
theorem sd_or (ha : PE X a (tE X.K RX W c ea)) (hb : PE X (.BoolOp .Or (b :: rest) pos) (tE X.K RX W c eb)) : PE X (.BoolOp .Or (a :: b :: rest) pos) (tE X.K RX W c (.or ea eb)) :=
  L2PE.weak (pe_orT ha hb) fun σ H Q ⟨ρ, M, ι, re, sr, h⟩ => by
    unfold ev at h
    refine ⟨ρ, M, ι, re, sr, h.bind.mono fun x M1 ι1 H1 _ st s1 h1 v rv => ?_⟩
    obtain ⟨k, _, tv, h2⟩ := truth_wp s1 rv h1
    refine ⟨k, tv, ?_⟩
    cases k with
    | true => exact h2.now s1 _ rv
    | false => exact ⟨ρ, M1, ι1, re.step st, s1, h2⟩
theorem sd_not (ha : PE X a (tE X.K RX W c ea)) : PE X (.UnaryOp .Not a pos) (tE X.K RX W c (.not ea)) :=
  L2PE.weak (pe_notT ha) fun σ H Q ⟨ρ, M, ι, re, sr, h⟩ => by
    unfold ev at h
    refine ⟨ρ, M, ι, re, sr, h.bind.mono fun x M1 ι1 H1 _ st s1 h1 v rv => ?_⟩
    obtain ⟨k, _, tv, h2⟩ := truth_wp s1 rv h1
    exact ⟨k, tv, h2.now s1 _ .bls⟩
theorem st_and (ha : PT X a (tT X.K RX W c ea)) (hb : PW X (.BoolOp .And (b :: rest) pos) (tT X.K RX W c eb)) : PT X (.BoolOp .And (a :: b :: rest) pos) (tT X.K RX W c (.and ea eb)) :=
  L2PT.weak (pw_and ha hb).pt fun σ H Q ⟨ρ, M, ι, re, sr, h⟩ => by
    unfold ev at h
    simp only [Res.bind_assoc] at h
    refine ⟨ρ, M, ι, re, sr, ?_⟩
    refine Wp.mono (P := fun k M1 ι1 H1 => Wp X.K RX (fun cls d H' => W cls d σ H') ι1 H1 (PB Q) (if k = true then (ev c eb ρ M1).bind truthR else .ok false M1)) ?_ fun k M1 ι1 H1 e st s1 h1 => ?_
    · cases e : ev c ea ρ M with
      | ok x M1 =>
        rw [e] at h
        show Wp _ _ _ _ _ _ (truthR x M1)
        cases e1 : truthR x M1 with
        | ok k M2 =>
          obtain ⟨rfl, e2⟩ := truthR_ok e1
          intro ι2 H2 st s2
          have h2 := Wp.step h st
          simp only [Res.bind, e1] at h2
          cases k with
          | true => exact h2
          | false =>
            simp only [Bool.false_eq_true, if_false, Res.bind, e1] at h2 ⊢
            exact h2
        | exc x' M2 =>
          unfold truthR at e1
          split at e1 <;> cases e1
        | bad => simp only [Res.bind, e1] at h; exact h
      | exc x M1 => rw [e] at h; exact h
      | bad => rw [e] at h; exact h
    · cases k with
      | true => exact ⟨ρ, M1, ι1, re.step st, s1, h1⟩
      | false => exact h1.now s1
theorem st_or (ha : PT X a (tT X.K RX W c ea)) (hb : PW X (.BoolOp .Or (b :: rest) pos) (tT X.K RX W c eb)) : PT X (.BoolOp .Or (a :: b :: rest) pos) (tT X.K RX W c (.or ea eb)) :=
  L2PT.weak (pw_or ha hb).pt fun σ H Q ⟨ρ, M, ι, re, sr, h⟩ => by
    unfold ev at h
    simp only [Res.bind_assoc] at h
    refine ⟨ρ, M, ι, re, sr, ?_⟩
    refine Wp.mono (P := fun k M1 ι1 H1 => Wp X.K RX (fun cls d H' => W cls d σ H') ι1 H1 (PB Q) (if k = true then .ok true M1 else (ev c eb ρ M1).bind truthR)) ?_ fun k M1 ι1 H1 e st s1 h1 => ?_
    · cases e : ev c ea ρ M with
      | ok x M1 =>
        rw [e] at h
        show Wp _ _ _ _ _ _ (truthR x M1)
        cases e1 : truthR x M1 with
        | ok k M2 =>
          obtain ⟨rfl, e2⟩ := truthR_ok e1
          intro ι2 H2 st s2
          have h2 := Wp.step h st
          simp only [Res.bind, e1] at h2
          cases k with
          | false => exact h2
          | true =>
            simp only [if_true, Res.bind, e1] at h2 ⊢
            exact h2
        | exc x' M2 =>
          unfold truthR at e1
          split at e1 <;> cases e1
        | bad => simp only [Res.bind, e1] at h; exact h
      | exc x M1 => rw [e] at h; exact h
      | bad => rw [e] at h; exact h
    · cases k with
      | false => exact ⟨ρ, M1, ι1, re.step st, s1, h1⟩
      | true => exact h1.now s1
theorem st_not (ha : PT X a (tT X.K RX W c ea)) : PT X (.UnaryOp .Not a pos) (tT X.K RX W c (.not ea)) :=
  L2PT.weak (pt_not ha) fun σ H Q ⟨ρ, M, ι, re, sr, h⟩ => by
    unfold ev at h
    simp only [Res.bind_assoc] at h
    refine ⟨ρ, M, ι, re, sr, ?_⟩
    cases e : ev c ea ρ M with
    | ok x M1 =>
      rw [e] at h
      show Wp _ _ _ _ _ _ (truthR x M1)
      cases e1 : truthR x M1 with
      | ok k M2 => simp only [Res.bind, e1] at h; exact h
      | exc x' M2 => simp only [Res.bind, e1] at h; exact h
      | bad => simp only [Res.bind, e1] at h; exact h
    | exc x M1 => rw [e] at h; exact h
    | bad => rw [e] at h; exact h
theorem bool_pw {op : PySem.BoolOp} {t : TT} (h : PT X (.BoolOp op rest pos) t) : PW X (.BoolOp op rest pos) t := ⟨fun _ pins s σ H Q I q => h.run pins s σ H Q I q⟩
theorem sd_ite {t : Expr} {et : E} (ht : PT X t (tT X.K RX W c et)) (ha : PE X a (tE X.K RX W c ea)) (hb : PE X b (tE X.K RX W c eb)) : PE X (.IfExp t a b pos) (tE X.K RX W c (.ite et ea eb)) :=
  L2PE.weak (pe_ifExp ht ha hb) fun σ H Q ⟨ρ, M, ι, re, sr, h⟩ => by
    unfold ev at h
    rw [← Res.bind_assoc] at h
    refine ⟨ρ, M, ι, re, sr, h.bind.mono fun k M1 ι1 H1 e st s1 h1 => ?_⟩
    cases k with
    | true => exact ⟨ρ, M1, ι1, re.step st, s1, h1⟩
    | false => exact ⟨ρ, M1, ι1, re.step st, s1, h1⟩

/-! ### lists of expressions, displays -/
variable {es : List Expr} {ees : List E}
theorem sa_nil : PA X [] (tEs X.K RX W c []) := L2PA.weak pa_nil fun σ H Q ⟨ρ, M, ι, re, sr, h⟩ => by
  unfold evs at h
  exact h.now sr _ RelDs.nil
theorem sa_cons (ha : PE X a (tE X.K RX W c ea)) (hr : PA X es (tEs X.K RX W c ees)) (hs : starEach (a :: es) X.env = (false, eval a X.env) :: starEach es X.env) : PA X (a :: es) (tEs X.K RX W c (ea :: ees)) :=
  L2PA.weak (pa_cons ha hr hs) fun σ H Q ⟨ρ, M, ι, re, sr, h⟩ => by
    unfold evs at h
    refine ⟨ρ, M, ι, re, sr, h.bind.mono fun x M1 ι1 H1 _ st s1 h1 v rv => ⟨ρ, M1, ι1, re.step st, s1, h1.bind.mono fun ys M2 ι2 H2 _ st2 s2 h2 us ru => ?_⟩⟩
    refine h2.now s2 _ ?_
    simp only [RelDs]
    exact ⟨_, _, rfl, rv.step st2, ru⟩
theorem evs_len {ρ : Env} : ∀ {es : List E} {M M' : Store} {ds : List D}, evs c es ρ M = .ok ds M' → ds.length = es.length
  | [], M, M', ds, h => by unfold evs at h; cases h; rfl
  | e :: es, M, M', ds, h => by
    unfold evs at h
    cases e1 : ev c e ρ M with
    | ok x M1 =>
      rw [e1] at h
      simp only [Res.bind] at h
      cases e2 : evs c es ρ M1 with
      | ok xs M2 =>
        rw [e2] at h
        cases h
        simp [evs_len e2]
      | exc x M2 => rw [e2] at h; cases h
      | bad => rw [e2] at h; cases h
    | exc x M2 => rw [e1] at h; cases h
    | bad => rw [e1] at h; cases h
theorem sd_tup {k : Nat} (h : PA X es (tEs X.K RX W c ees)) (hl : ees.length ≤ 100000) : PE X (.Tuple es k pos) (tE X.K RX W c (.tup ees)) :=
  L2PE.weak (pe_tup h) fun σ H Q ⟨ρ, M, ι, re, sr, h⟩ => by
    unfold ev at h
    refine ⟨ρ, M, ι, re, sr, h.bind.mono fun xs M1 ι1 H1 e st s1 h1 vs rv => ⟨by rw [← rv.length, evs_len e, sizeLine_eq]; omega, fun p hp => ?_⟩⟩
    refine h1 ι1 _ (Step.fresh hp) (s1.fresh hp) _ ?_
    simp only [RelD]
    exact ⟨p, vs, rfl, .inl (.inl upd_same), rv.step (Step.fresh hp)⟩
theorem sd_lst (h : PA X es (tEs X.K RX W c ees)) (hl : ees.length ≤ 100000) : PE X (.List es pos) (tE X.K RX W c (.lst ees)) :=
  L2PE.weak (pe_lst h) fun σ H Q ⟨ρ, M, ι, re, sr, h⟩ => by
    unfold ev at h
    refine ⟨ρ, M, ι, re, sr, h.bind.mono fun xs M1 ι1 H1 e st s1 h1 vs rv => ⟨by rw [← rv.length, evs_len e, sizeLine_eq]; omega, fun p hp => ?_⟩⟩
    exact OkR.new (h1.okR trivial) s1 hp rfl ⟨_, upd_same, rv.step (Step.alloc hp)⟩
theorem sd_dct : PE X (.Dict [] [] pos) (tE X.K RX W c (.dct false)) :=
  L2PE.weak pe_dnewK fun σ H Q ⟨ρ, M, ι, re, sr, h⟩ => by
    unfold ev at h
    intro p hp
    exact OkR.new (h.okR trivial) sr hp rfl ⟨_, upd_same, .nil⟩
theorem sd_ix (hu : Rm X) (ha : PE X a (tE X.K RX W c ea)) (hb : PE X b (tE X.K RX W c eb)) (hs : PlainIx b) : PE X (.Subscript a b pos) (tE X.K RX W c (.ix ea eb)) :=
  L2PE.weak (pe_ix (ix_all hu) ha hb hs) fun σ H Q ⟨ρ, M, ι, re, sr, h⟩ => by
    unfold ev at h
    exact ⟨ρ, M, ι, re, sr, h.bind.mono fun x M1 ι1 H1 _ st s1 h1 v rv => ⟨ρ, M1, ι1, re.step st, s1, h1.bind.mono fun y M2 ι2 H2 _ st2 s2 h2 u ru => ⟨ι2, M2, x, y, s2, rv.step st2, ru, h2.okR nx_ix⟩⟩⟩
variable {p2 : Pos}
theorem sd_slc (ha : PE X a (tE X.K RX W c ea)) : PE X (.Subscript a (.Slice none none none p2) pos) (tE X.K RX W c (.slc ea)) :=
  L2PE.weak (pe_slice sl_all ha po_none po_none) fun σ H Q ⟨ρ, M, ι, re, sr, h⟩ => by
    unfold ev at h
    exact ⟨ρ, M, ι, re, sr, h.bind.mono fun x M1 ι1 H1 _ st s1 h1 v rv => ⟨ι1, M1, x, s1, rv, h1.okR nx_slc⟩⟩
theorem sd_slcL (ha : PE X a (tE X.K RX W c ea)) (hb : PE X b (tE X.K RX W c eb)) : PE X (.Subscript a (.Slice (some b) none none p2) pos) (tE X.K RX W c (.slcL ea eb)) :=
  L2PE.weak (pe_slice sl_all ha (po_some hb) po_none) fun σ H Q ⟨ρ, M, ι, re, sr, h⟩ => by
    unfold ev at h
    refine ⟨ρ, M, ι, re, sr, h.bind.mono fun x M1 ι1 H1 _ st s1 h1 v rv => ⟨ρ, M1, ι1, re.step st, s1, h1.bind.mono fun y M2 ι2 H2 _ st2 s2 h2 u ru => ?_⟩⟩
    split at h2
    · exact ⟨_, relD_int ru, ι2, M2, x, s2, rv.step st2, h2.okR nx_slc⟩
    · exact h2.elim
theorem sd_slcU (ha : PE X a (tE X.K RX W c ea)) (hb : PE X b (tE X.K RX W c eb)) : PE X (.Subscript a (.Slice none (some b) none p2) pos) (tE X.K RX W c (.slcU ea eb)) :=
  L2PE.weak (pe_slice sl_all ha po_none (po_some hb)) fun σ H Q ⟨ρ, M, ι, re, sr, h⟩ => by
    unfold ev at h
    refine ⟨ρ, M, ι, re, sr, h.bind.mono fun x M1 ι1 H1 _ st s1 h1 v rv => ⟨ρ, M1, ι1, re.step st, s1, h1.bind.mono fun y M2 ι2 H2 _ st2 s2 h2 u ru => ?_⟩⟩
    split at h2
    · exact ⟨_, relD_int ru, ι2, M2, x, s2, rv.step st2, h2.okR nx_slc⟩
    · exact h2.elim
theorem sd_slcLU (ha : PE X a (tE X.K RX W c ea)) (hb : PE X b (tE X.K RX W c eb)) (hd : PE X d (tE X.K RX W c ed)) : PE X (.Subscript a (.Slice (some b) (some d) none p2) pos) (tE X.K RX W c (.slcLU ea eb ed)) :=
  L2PE.weak (pe_slice sl_all ha (po_some hb) (po_some hd)) fun σ H Q ⟨ρ, M, ι, re, sr, h⟩ => by
    unfold ev at h
    refine ⟨ρ, M, ι, re, sr, h.bind.mono fun x M1 ι1 H1 _ st s1 h1 v rv => ⟨ρ, M1, ι1, re.step st, s1, h1.bind.mono fun y M2 ι2 H2 _ st2 s2 h2 u ru => ?_⟩⟩
    split at h2
    · refine ⟨_, relD_int ru, ρ, M2, ι2, (re.step st).step st2, s2, h2.bind.mono fun z M3 ι3 H3 _ st3 s3 h3 w rw' => ?_⟩
      split at h3
      · exact ⟨_, relD_int rw', ι3, M3, x, s3, (rv.step st2).step st3, h3.okR nx_slc⟩
      · exact h3.elim
    · exact h2.elim

/-! ### calls -/
variable {x : Str} {p : Pos}
theorem sd_bltB {f : Blt} {id : String} (hc : CB X (.builtin id) (bltD f)) (hg : Gl X x) (hm : X.mg x = none) (hv : bootBuiltins x = some (.builtin id)) (ha : PA X (a :: es) (tEs X.K RX W c ees)) (hn : x ≠ "__name__") (hdb : (x == ("__debug__" : Str)) = false)
    (he : starEach (a :: es) X.env = (false, eval a X.env) :: starEach es X.env) (hpl : (backTo pos (starEach es X.env)).any (·.1) = false) : PE X (.Call (.Name x p) (a :: es) [] pos) (tE X.K RX W c (.blt f ees)) :=
  L2PE.weak (pe_callB hc hg hm hv ha hn hdb he hpl) fun σ H Q ⟨ρ, M, ι, re, sr, h⟩ => by
    unfold ev at h
    exact ⟨ρ, M, ι, re, sr, h.bind.mono fun xs M1 ι1 H1 _ st s1 h1 v rv => ⟨ι1, M1, xs, s1, rv, h1.okR nx_blt⟩⟩
theorem sd_bltT {f : Blt} {id : String} (hc : CB X (.type id) (bltD f)) (hg : Gl X x) (hm : X.mg x = none) (hv : bootBuiltins x = some (.type id)) (ha : PA X (a :: es) (tEs X.K RX W c ees)) (hn : x ≠ "__name__") (hdb : (x == ("__debug__" : Str)) = false)
    (he : starEach (a :: es) X.env = (false, eval a X.env) :: starEach es X.env) (hpl : (backTo pos (starEach es X.env)).any (·.1) = false) : PE X (.Call (.Name x p) (a :: es) [] pos) (tE X.K RX W c (.blt f ees)) :=
  L2PE.weak (pe_callTy hc hg hm hv ha hn hdb he hpl) fun σ H Q ⟨ρ, M, ι, re, sr, h⟩ => by
    unfold ev at h
    exact ⟨ρ, M, ι, re, sr, h.bind.mono fun xs M1 ι1 H1 _ st s1 h1 v rv => ⟨ι1, M1, xs, s1, rv, h1.okR nx_blt⟩⟩
/-- the promise of a def of the table -/
def spC (K : PySem.W.Frag) (RX : Exc → Value → Option Addr → Hp → Prop) (g : List D → Store → Res D) (n : Nat) : Sp := fun vs H Q Ex =>
  vs.length = n ∧ ∃ ι M ds, SR K ι H M ∧ RelDs K ι H ds vs ∧ Wp K RX Ex ι H (PD K Q) (g ds M)
theorem sd_call {f : String} {k n : Nat} {q : Addr} {fd : FuncData} {ps : List Str} (tk : L2N.Takes X W) (F : FnOk X.prog X.w X.K X.mg X.base (L2N.CX X.prog X.w) k q fd ps (spC X.K RX (c.call f) n)) (hr : Room k X.A) (hg : Gl X x) (hm : X.mg x = some (.ref q)) (hk : PySem.W.keepIn X.K (.ref q) = true)
    (hb : Binds X.K fd ps []) (ha : PA X (a :: es) (tEs X.K RX W c ees)) (hn : ees.length = n) (hdb : (x == ("__debug__" : Str)) = false) (he : starEach (a :: es) X.env = (false, eval a X.env) :: starEach es X.env) (hpl : (backTo pos (starEach es X.env)).any (·.1) = false) :
    PE X (.Call (.Name x p) (a :: es) [] pos) (tE X.K RX W c (.call f ees)) :=
  L2PE.weak (pe_callS F hr hg hm hk hb (L2N.passAt tk) ha hdb he hpl) fun σ H Q ⟨ρ, M, ι, re, sr, h⟩ => by
    unfold ev at h
    exact ⟨ρ, M, ι, re, sr, h.bind.mono fun xs M1 ι1 H1 e st s1 h1 v rv => ⟨by rw [← rv.length, evs_len e, hn], ι1, M1, xs, s1, rv, h1⟩⟩
theorem sd_call0 {f : String} {k : Nat} {q : Addr} {fd : FuncData} {ps : List Str} (tk : L2N.Takes X W) (F : FnOk X.prog X.w X.K X.mg X.base (L2N.CX X.prog X.w) k q fd ps (spC X.K RX (c.call f) 0)) (hr : Room k X.A) (hg : Gl X x) (hm : X.mg x = some (.ref q)) (hk : PySem.W.keepIn X.K (.ref q) = true)
    (hb : Binds X.K fd ps []) (hdb : (x == ("__debug__" : Str)) = false) : PE X (.Call (.Name x p) [] [] pos) (tE X.K RX W c (.call f [])) := by
  refine ⟨fun pins s σ H Q I h => ?_⟩
  obtain ⟨ρ, M, ι, re, sr, h⟩ := h
  refine wpAny_Call_Name_kw (ld_glob I hg hm ?_ hdb)
  unfold ev evs at h
  exact PySem.W.callWith_K0 I.kIn hk (run_fnS (E := L2.WE W) (us := []) (vs := []) F hr hb (L2N.passAt tk σ) I .nil ⟨rfl, ι, M, [], sr, RelDs.nil, h⟩)
end
end Sk
end
section
set_option Elab.async false
set_option linter.all false
set_option autoImplicit false
set_option maxRecDepth 100000
/-! SkD2: methods, isinstance, what is walked, list comprehensions. -/
namespace Sk
open PySem PySem.Spec PyProof.Rows L2

/-- not a starred expression -/
def nst : Expr → Bool
  | .Starred _ _ => false
  | _ => true
theorem star1 {e : Expr} {es : List Expr} {env : PySem.Env} (h : nst e = true) : starEach (e :: es) env = (false, eval e env) :: starEach es env := by
  cases e <;> first | rfl | cases h
theorem back_plain {pos : Pos} {env : PySem.Env} : ∀ {es : List Expr}, es.all nst = true → (backTo pos (starEach es env)).any (·.1) = false
  | [], _ => rfl
  | e :: es, h => by
    rw [List.all_cons, Bool.and_eq_true] at h
    rw [star1 h.1]
    show (false || (backTo pos (starEach es env)).any (·.1)) = false
    rw [back_plain h.2]; rfl
theorem back_all {pos : Pos} {env : PySem.Env} : ∀ {es : List Expr}, es.all nst = true → (backTo pos (starEach es env)).all (fun x => !x.1) = true
  | [], _ => rfl
  | e :: es, h => by
    rw [List.all_cons, Bool.and_eq_true] at h
    rw [star1 h.1]
    show (true && (backTo pos (starEach es env)).all (fun x => !x.1)) = true
    rw [back_all h.2]; rfl
/-- what a method's receiver may be -/
def plainO : Expr → Bool
  | .Call _ [] _ _ => false
  | _ => true
theorem base_plain {o : Expr} {n : Str} {env : PySem.Env} {t : Sem Value} (h : plainO o = true) : attributeBase o n env t = t := by
  cases o with
  | Call f as ks p =>
    cases as with
    | nil => cases h
    | cons a as => cases f <;> rfl
  | _ => rfl

section
variable {X : L2.Cx}
theorem mt_get (hu : Rm X) : MtR X "dict.get" (rMt X.K (mthD .get)) := by
  intro pins s σ H x xs v us Q I rx rv h
  obtain ⟨ι, M, a, ds, S, ra, rd, h⟩ := h
  simp only [mthD] at h
  unfold Rm at hu
  split at h
  · rename_i i k x0
    obtain ⟨y, z, rfl, ry, rz⟩ := relDs_two rd
    obtain ⟨u1, u2, rfl, r1, r2⟩ := rv.two
    split at h
    · rename_i d e
      obtain ⟨p, ov, rfl, g, g1, g2⟩ := S.dget e ra ry
      cases (show v = Value.ref p from rx)
      obtain ⟨w, rfl, rw'⟩ := g2 d rfl
      exact d_get2 (by omega) I g r1 r2 fun w' s' I' r' => ⟨_, H, I', r', h.same S rw'⟩
    · rename_i e
      obtain ⟨p, ov, rfl, g, g1, g2⟩ := S.dget e ra ry
      cases (show v = Value.ref p from rx)
      cases ov with
      | some o => cases g1
      | none => exact d_get2 (by omega) I g r1 r2 fun w' s' I' r' => ⟨_, H, I', r', h.same S rz⟩
    · exact h.elim
  · exact h.elim
/-- the list of the store at i is written -/
theorem SR.wr {K : PySem.W.Frag} {ι : List Addr} {H : Hp} {M : Store} {i : Nat} {xs ys : List D} {p : Addr} {vs : List V} (S : SR K ι H M) (e : M[i]? = some (.lst xs)) (hi : ι[i]? = some p) (r : RelDs K ι H ys vs) :
    Step ι H ι (upd H p (.lst vs)) ∧ SR K ι (upd H p (.lst vs)) (M.set i (.lst ys)) := by
  have st : Step ι H ι (upd H p (.lst vs)) := Step.write S e rfl hi
  exact ⟨st, SR.write S e rfl hi ⟨_, upd_same, r.step st⟩ rfl⟩
theorem mt_popS : MtR X "list.pop" (rMt X.K (mthD .pop)) := by
  intro pins s σ H x xs v us Q I rx rv h
  obtain ⟨ι, M, a, ds, S, ra, rd, h⟩ := h
  simp only [mthD] at h
  split at h
  · rename_i i
    simp only [RelDs] at rd
    subst rd
    split at h
    · rename_i zs e
      obtain ⟨p, rfl, hp, vs, hH, hr⟩ := S.ref e ra
      split at h
      · rename_i d e2
        obtain ⟨w, hw, rw'⟩ := hr.get e2
        obtain ⟨st, s2⟩ := S.wr e hp hr.dropLast
        exact mt_pop pins s σ H _ _ v us Q I rx rv ⟨p, vs, w, rfl, rfl, hH, by rw [← hr.length]; exact hw, h ι _ w st s2 (rw'.step st)⟩
      · exact h.elim
    · exact h.elim
  · rename_i i j
    obtain ⟨y, rfl, ry⟩ := relDs_one rd
    cases relD_int ry
    split at h
    · rename_i zs e
      obtain ⟨p, rfl, hp, vs, hH, hr⟩ := S.ref e ra
      split at h
      · rename_i k e1
        split at h
        · rename_i d e2
          obtain ⟨w, hw, rw'⟩ := hr.get e2
          obtain ⟨st, s2⟩ := S.wr e hp (hr.eraseIdx k)
          rw [ixN_eq, hr.length] at e1
          obtain ⟨q1, q2, q3, q4⟩ := ixN_seq e1
          have hz := (I.lstM hH).1
          have hn := line63
          exact mt_popAt pins s σ H _ _ v us Q I rx rv ⟨p, vs, j, k, w, rfl, rfl, hH, by omega, by omega, q1, hw, h ι _ w st s2 (rw'.step st)⟩
        · exact h.elim
      · exact h.elim
    · exact h.elim
  · exact h.elim
def Mth.ty : Mth → String
  | .get => "dict"
  | .pop => "list"
  | .index => "list"
  | .count => "list"
  | _ => "str"
theorem tyM_lst {K : PySem.W.Frag} {ι : List Addr} {H : Hp} {M : Store} {o : D} {v : V} (S : SR K ι H M) (r : RelD K ι H o v) (h : isLst M o = true) : tyV K "list" v H := by
  unfold isLst at h
  split at h
  · split at h
    · rename_i e
      obtain ⟨p, rfl, _, vs, hH, _⟩ := S.ref e r
      exact .inl ⟨rfl, vs, .inl (.inl hH)⟩
    · cases h
  · cases h
theorem tyM_ok {K : PySem.W.Frag} {ι : List Addr} {H : Hp} {M : Store} {m : Mth} {o : D} {v : V} (S : SR K ι H M) (r : RelD K ι H o v) (h : tyM m M o = true) : tyV K m.ty v H := by
  cases m with
  | get =>
    simp only [tyM] at h
    split at h
    · split at h
      · rename_i e
        obtain ⟨p, rfl, _, vs, hH, _⟩ := S.ref e r
        exact .inr (.inr (.inl ⟨rfl, .inl ⟨vs, hH⟩⟩))
      · cases h
    · cases h
  | pop => exact tyM_lst S r h
  | _ => cases h
/-- the methods that the library's rules serve -/
inductive MOk (X : L2.Cx) : Mth → Str → Prop where
  | mk {m : Mth} {name : Str} {id : String} (pa : PlainAttrs m.ty) (slot : Slot m.ty name id) (hty : typeOf (.builtin id) = pure (.type "method_descriptor")) (hm : MtR X id (rMt X.K (mthD m))) : MOk X m name
theorem mok_get (hu : Rm X) : MOk X .get "get" := .mk PySem.F.plainAttrs_dict PySem.F.slot_dict_get PySem.F.type_dict_get (mt_get hu)
theorem mok_pop : MOk X .pop "pop" := .mk PySem.F.plainAttrs_list PySem.F.slot_list_pop PySem.F.type_list_pop mt_popS
variable {RX : Exc → Value → Option Addr → Hp → Prop} {W : WX} {c : Cx} {a b d o : Expr} {ea eb ed eo : E} {pos apos cpos : Pos} {es : List Expr} {ees : List E} {name : Str}
theorem sd_mth {m : Mth} (k : MOk X m name) (ho : PE X o (tE X.K RX W c eo)) (ha : PA X (a :: es) (tEs X.K RX W c ees)) (hn : (a :: es).all nst = true) (hl : (a :: es).length < 10) (hp : plainO o = true) (hline : (apos.endLine == cpos.line) = true) :
    PE X (.Call (.Attribute o name apos) (a :: es) [] cpos) (tE X.K RX W c (.mth m eo ees)) := by
  obtain ⟨pa, slot, hty, hm⟩ := k
  have hn' := hn
  rw [List.all_cons, Bool.and_eq_true] at hn'
  refine L2PE.weak (pe_bm pa slot hty hm ho ha (base_plain hp) ?_ hline (star1 hn'.1) (back_plain hn'.2)) fun σ H Q ⟨ρ, M, ι, re, sr, h⟩ => ?_
  · rw [back_all hn]
    simp only [backToKw, keywordEach, List.map_nil, List.all_nil, Bool.true_and, List.length_nil, List.isEmpty_nil, if_true, decide_eq_true_eq]
    omega
  · unfold ev at h
    refine ⟨ρ, M, ι, re, sr, h.bind.mono fun x M1 ι1 H1 _ st s1 h1 v rv => ?_⟩
    split at h1
    · rename_i ht
      exact ⟨tyM_ok s1 rv ht, ρ, M1, ι1, re.step st, s1, h1.bind.mono fun ys M2 ι2 H2 _ st2 s2 h2 us ru => ⟨ι2, M2, x, ys, s2, rv.step st2, ru, h2.okR nx_mth⟩⟩
    · exact h1.elim
theorem sd_mth0 {m : Mth} (k : MOk X m name) (ho : PE X o (tE X.K RX W c eo)) (hp : plainO o = true) (hline : (apos.endLine == cpos.line) = true) :
    PE X (.Call (.Attribute o name apos) [] [] cpos) (tE X.K RX W c (.mth m eo [])) := by
  obtain ⟨pa, slot, hty, hm⟩ := k
  refine L2PE.weak (pe_bm0 pa slot hty hm ho (base_plain hp) hline) fun σ H Q ⟨ρ, M, ι, re, sr, h⟩ => ?_
  unfold ev at h
  refine ⟨ρ, M, ι, re, sr, h.bind.mono fun x M1 ι1 H1 _ st s1 h1 v rv => ?_⟩
  split at h1
  · rename_i ht
    unfold evs at h1
    exact ⟨tyM_ok s1 rv ht, ι1, M1, x, [], s1, rv, RelDs.nil, Wp.okR h1 nx_mth⟩
  · exact h1.elim

/-! ### isinstance -/
theorem isi_ty {K : PySem.W.Frag} {ι : List Addr} {H : Hp} {M : Store} {x : D} {v : V} {T : String} {k : Bool} (S : SR K ι H M) (r : RelD K ι H x v) (h : isiD M x T = some k)
    (hT : T ∈ ["int", "bool", "str", "tuple", "list"]) : ∃ t, TyX K H v t ∧ PySem.W.kitOne K t (.type T) = some k := by
  have hT' : T = "int" ∨ T = "bool" ∨ T = "str" ∨ T = "tuple" ∨ T = "list" := by simpa using hT
  cases x with
  | xo f k => cases h
  | non =>
    rw [relD_non r]
    simp only [isiD, Option.some.injEq] at h
    subst h
    refine ⟨_, .base .non, kit_ty ?_⟩
    rcases hT' with rfl | rfl | rfl | rfl | rfl <;> decide +kernel
  | bl b =>
    rw [relD_bl r]
    simp only [isiD, Option.some.injEq] at h
    subst h
    refine ⟨_, .base (.bl b), kit_ty ?_⟩
    rcases hT' with rfl | rfl | rfl | rfl | rfl <;> decide +kernel
  | int b =>
    rw [relD_int r]
    simp only [isiD, Option.some.injEq] at h
    subst h
    refine ⟨_, .base (.int b), kit_ty ?_⟩
    rcases hT' with rfl | rfl | rfl | rfl | rfl <;> decide +kernel
  | str b =>
    rw [(relD_str (t := b) r).1]
    simp only [isiD, Option.some.injEq] at h
    subst h
    refine ⟨_, .base (.str b), kit_ty ?_⟩
    rcases hT' with rfl | rfl | rfl | rfl | rfl <;> decide +kernel
  | tup xs =>
    simp only [RelD] at r
    obtain ⟨p, vs, rfl, hs, _⟩ := r
    simp only [isiD, Option.some.injEq] at h
    subst h
    have ty : TyX K H (.ref p) (.type "tuple") := by
      rcases hs with (e | ⟨o, e⟩) | ⟨o, its, n, e, ec, _⟩
      · exact .base (.tup e)
      · exact .fTuple e
      · exact .kTuple e ec
    refine ⟨_, ty, kit_ty ?_⟩
    rcases hT' with rfl | rfl | rfl | rfl | rfl <;> decide +kernel
  | ref i =>
    simp only [isiD] at h
    have main : ∀ p, v = .ref p → TyX K H (.ref p) (.type "list") → k = (T == "list") → ∃ t, TyX K H v t ∧ PySem.W.kitOne K t (.type T) = some k := fun p hv ty e => by
      subst hv e
      refine ⟨_, ty, kit_ty ?_⟩
      rcases hT' with rfl | rfl | rfl | rfl | rfl <;> decide +kernel
    split at h
    · rename_i e
      obtain ⟨p, rfl, _, vs, hH, _⟩ := S.ref e r
      exact main p rfl (.base (.lst hH)) (Option.some.inj h).symm
    · rename_i e
      obtain ⟨p, rfl, _, vs, hH, _⟩ := S.ref e r
      refine main p rfl ?_ (Option.some.inj h).symm
      rcases hH with ⟨o, e⟩ | ⟨o, its, n, e, ec, _⟩
      · exact .base (.frz e)
      · exact .kList e ec
    · cases h
theorem sd_ty {x : Str} {T : String} {p : Pos} (hg : Gl X x) (hm : X.mg x = none) (hv : bootBuiltins x = some (.type T)) (hn : x ≠ "__name__") (hdb : (x == ("__debug__" : Str)) = false) : PE X (.Name x p) (tC (.ty T)) := pe_bltn hg hm hv rfl hn hdb
theorem sd_isi {x y : Str} {T : String} {p q : Pos} (hg : Gl X x) (hm : X.mg x = none) (hx : x = "isinstance") (hT : T ∈ ["int", "bool", "str", "tuple", "list"]) (ty : PE X (.Name y q) (tC (.ty T))) (ha : PE X a (tE X.K RX W c ea)) (na : nst a = true) :
    PE X (.Call (.Name x p) [a, .Name y q] [] pos) (tE X.K RX W c (.isi ea [T])) := by
  subst hx
  refine L2PE.weak (pe_callB call_isi hg hm (by decide +kernel) (pa_cons ha (pa_cons ty pa_nil (star1 rfl)) (star1 na)) (by decide) (by decide) (star1 na) (back_plain rfl)) fun σ H Q ⟨ρ, M, ι, re, sr, h⟩ => ?_
  unfold ev at h
  refine ⟨ρ, M, ι, re, sr, h.bind.mono fun x M1 ι1 H1 _ st s1 h1 v rv => ?_⟩
  show rIsi X.K [v, .ty T] H1 Q
  simp only at h1
  cases e : isiD M1 x T with
  | none => rw [e] at h1; exact h1.elim
  | some k =>
    rw [e] at h1
    obtain ⟨t, ty, kk⟩ := isi_ty s1 rv e hT
    exact ⟨v, .ty T, t, .type T, k, rfl, .ty T, ty, kk, h1.now s1 _ .bls⟩
section
variable {x : Str} {p p2 : Pos}
/-- min(xs, default=x) -/
theorem sd_minD {kp : Pos} (hc : X.calm = true) (hu : Rm X) (hg : Gl X x) (hx : x = Str.ofString "min") (hm : X.mg x = none) (ha : PE X a (tE X.K RX W c ea)) (hb : PE X b (tE X.K RX W c eb)) (hn : x ≠ "__name__") (hdb : (x == ("__debug__" : Str)) = false) (na : nst a = true) :
    PE X (.Call (.Name x p) [a] [⟨some "default", b, kp⟩] pos) (tE X.K RX W c (.blt .minD [ea, eb])) := by
  subst hx
  refine L2PE.weak (pe_callBK (ks := [Str.ofString "default"]) (ck_min hc hu) hg hm PyProof.Rows.boot_min (pa_cons ha pa_nil (star1 na)) (pk_cons hb pk_nil) hn hdb (by rw [star1 na]; rfl) (back_plain (es := [a]) (by simpa using na)) rfl rfl rfl) fun σ H Q ⟨ρ, M, ι, re, sr, h⟩ => ?_
  unfold ev evs evs evs at h
  rw [Res.bind_assoc] at h
  refine ⟨ρ, M, ι, re, sr, h.bind.mono fun x M1 ι1 H1 _ st s1 h1 v rv => ?_⟩
  rw [Res.bind_assoc, Res.bind_assoc] at h1
  refine ⟨ρ, M1, ι1, re.step st, s1, h1.bind.mono fun y M2 ι2 H2 _ st2 s2 h2 w rw' => ?_⟩
  exact ⟨ι2, M2, x, y, v, w, rfl, rfl, s2, rv.step st2, rw', Wp.okR (r := bltD .minD [x, y] M2) h2 nx_blt⟩
theorem rgV_rel {K : PySem.W.Frag} {ι : List Addr} {H : Hp} (lo : Int) (n : Nat) : RelDs K ι H (rngD lo n) ((List.range n).map fun i => V.int (lo + (i : Nat))) := by
  unfold rngD
  generalize List.range n = l
  induction l with
  | nil => simp [RelDs]
  | cons i l ih =>
    simp only [List.map_cons, RelDs]
    exact ⟨_, _, rfl, rfl, ih⟩
theorem okR_facts {i : Int} (h : okR i = true) : -(2 ^ 62) ≤ i ∧ i < 2 ^ 62 := by
  unfold okR at h
  simpa using h
theorem lim24 : lim = 2 ^ 24 := rfl
section
variable {y : Str} {q : Pos}
/-- tuple(range(..)), list(range(..)) -/
theorem sd_rng1 {t : Bool} (hc : X.calm = true) (hg : Gl X x) (hm : X.mg x = none) (hgy : Gl X y) (hy : y = "range") (hmy : X.mg y = none) (hx : x = if t then ("tuple" : Str) else ("list" : Str)) (ha : PE X a (tE X.K RX W c ea)) (na : nst a = true) :
    PE X (.Call (.Name x p) [.Call (.Name y q) [a] [] p2] [] pos) (tE X.K RX W c (.blt (if t then .rngT else .rngL) [ea])) := by
  subst hy
  have pr := prg_1 (p := q) (pos := p2) hgy hmy ha (star1 na)
  cases t with
  | true =>
    subst hx
    refine L2PE.weak (pe_tupRg hc hg hm pr) fun σ H Q ⟨ρ, M, ι, re, sr, h⟩ => ?_
    simp only [if_true] at h
    unfold ev evs evs at h
    rw [Res.bind_assoc] at h
    refine ⟨ρ, M, ι, re, sr, h.bind.mono fun x M1 ι1 H1 _ st s1 h1 v rv => ?_⟩
    replace h1 := Wp.okR (r := bltD .rngT [x] M1) h1 nx_blt
    simp only [bltD, rngs] at h1
    cases x with
    | int j =>
      simp only at h1
      split at h1
      · rename_i xs e
        split at e
        · rename_i hj
          cases e
          obtain ⟨g1, g2⟩ := okR_facts hj.1
          have g3 := hj.2
          rw [lim24] at g3
          refine ⟨j, relD_int rv, ⟨by omega, by omega, g1, g2, by omega⟩, fun p hp => OkR.newT h1 s1 hp ?_⟩
          unfold rgV
          rw [Int.sub_zero]
          exact rgV_rel 0 _
        · cases e
      · exact h1.elim
    | _ => exact h1.elim
  | false =>
    subst hx
    refine L2PE.weak (pe_listRg hc hg hm pr) fun σ H Q ⟨ρ, M, ι, re, sr, h⟩ => ?_
    simp only [Bool.false_eq_true, if_false] at h
    unfold ev evs evs at h
    rw [Res.bind_assoc] at h
    refine ⟨ρ, M, ι, re, sr, h.bind.mono fun x M1 ι1 H1 _ st s1 h1 v rv => ?_⟩
    replace h1 := Wp.okR (r := bltD .rngL [x] M1) h1 nx_blt
    simp only [bltD, rngs] at h1
    cases x with
    | int j =>
      simp only at h1
      split at h1
      · rename_i xs e
        split at e
        · rename_i hj
          cases e
          obtain ⟨g1, g2⟩ := okR_facts hj.1
          have g3 := hj.2
          rw [lim24] at g3
          refine ⟨j, relD_int rv, ⟨by omega, by omega, g1, g2, by omega⟩, fun p hp => OkR.new h1 s1 hp rfl ⟨_, upd_same, ?_⟩⟩
          unfold rgV
          rw [Int.sub_zero]
          exact rgV_rel 0 _
        · cases e
      · exact h1.elim
    | _ => exact h1.elim
theorem sd_rng2 {t : Bool} (hc : X.calm = true) (hg : Gl X x) (hm : X.mg x = none) (hgy : Gl X y) (hy : y = "range") (hmy : X.mg y = none) (hx : x = if t then ("tuple" : Str) else ("list" : Str)) (ha : PE X a (tE X.K RX W c ea)) (hb : PE X b (tE X.K RX W c eb)) (na : nst a = true) (nb : nst b = true) :
    PE X (.Call (.Name x p) [.Call (.Name y q) [a, b] [] p2] [] pos) (tE X.K RX W c (.blt (if t then .rngT else .rngL) [ea, eb])) := by
  subst hy
  have pr := prg_2 (p := q) (pos := p2) hgy hmy ha hb (star1 na) (star1 nb) (back_plain (es := [b]) (by simpa using nb))
  cases t with
  | true =>
    subst hx
    refine L2PE.weak (pe_tupRg hc hg hm pr) fun σ H Q ⟨ρ, M, ι, re, sr, h⟩ => ?_
    simp only [if_true] at h
    unfold ev evs evs evs at h
    rw [Res.bind_assoc] at h
    refine ⟨ρ, M, ι, re, sr, h.bind.mono fun x M1 ι1 H1 _ st s1 h1 v rv => ?_⟩
    rw [Res.bind_assoc, Res.bind_assoc] at h1
    refine ⟨ρ, M1, ι1, re.step st, s1, h1.bind.mono fun y M2 ι2 H2 _ st2 s2 h2 w rw' => ?_⟩
    replace h2 := Wp.okR (r := bltD .rngT [x, y] M2) h2 nx_blt
    simp only [bltD, rngs] at h2
    cases x with
    | int i =>
      cases y with
      | int j =>
        simp only at h2
        split at h2
        · rename_i xs e
          split at e
          · rename_i hj
            cases e
            obtain ⟨g1, g2⟩ := okR_facts hj.1
            obtain ⟨g3, g4⟩ := okR_facts hj.2.1
            have g5 := hj.2.2
            rw [lim24] at g5
            exact ⟨i, j, relD_int rv, relD_int rw', ⟨g1, g2, g3, g4, g5⟩, fun p hp => OkR.newT h2 s2 hp (rgV_rel i _)⟩
          · cases e
        · exact h2.elim
      | _ => exact h2.elim
    | _ => exact h2.elim
  | false =>
    subst hx
    refine L2PE.weak (pe_listRg hc hg hm pr) fun σ H Q ⟨ρ, M, ι, re, sr, h⟩ => ?_
    simp only [Bool.false_eq_true, if_false] at h
    unfold ev evs evs evs at h
    rw [Res.bind_assoc] at h
    refine ⟨ρ, M, ι, re, sr, h.bind.mono fun x M1 ι1 H1 _ st s1 h1 v rv => ?_⟩
    rw [Res.bind_assoc, Res.bind_assoc] at h1
    refine ⟨ρ, M1, ι1, re.step st, s1, h1.bind.mono fun y M2 ι2 H2 _ st2 s2 h2 w rw' => ?_⟩
    replace h2 := Wp.okR (r := bltD .rngL [x, y] M2) h2 nx_blt
    simp only [bltD, rngs] at h2
    cases x with
    | int i =>
      cases y with
      | int j =>
        simp only at h2
        split at h2
        · rename_i xs e
          split at e
          · rename_i hj
            cases e
            obtain ⟨g1, g2⟩ := okR_facts hj.1
            obtain ⟨g3, g4⟩ := okR_facts hj.2.1
            have g5 := hj.2.2
            rw [lim24] at g5
            exact ⟨i, j, relD_int rv, relD_int rw', ⟨g1, g2, g3, g4, g5⟩, fun p hp => OkR.new h2 s2 hp rfl ⟨_, upd_same, (rgV_rel i _)⟩⟩
          · cases e
        · exact h2.elim
      | _ => exact h2.elim
    | _ => exact h2.elim
end
end
section
variable {x : Str} {p p2 : Pos}
/-- the type is one for all questions -/
theorem isi_tyA {K : PySem.W.Frag} {ι : List Addr} {H : Hp} {M : Store} {x : D} {v : V} {T0 : String} {k0 : Bool} (S : SR K ι H M) (r : RelD K ι H x v) (h0 : isiD M x T0 = some k0) :
    ∃ t, TyX K H v t ∧ ∀ T ∈ ["int", "bool", "str", "tuple", "list"], ∀ k, isiD M x T = some k → PySem.W.kitOne K t (.type T) = some k := by
  have five : ∀ {P : String → Prop}, P "int" → P "bool" → P "str" → P "tuple" → P "list" → ∀ T ∈ ["int", "bool", "str", "tuple", "list"], P T := fun a b c d e T hT => by
    have hT' : T = "int" ∨ T = "bool" ∨ T = "str" ∨ T = "tuple" ∨ T = "list" := by simpa using hT
    rcases hT' with rfl | rfl | rfl | rfl | rfl <;> assumption
  cases x with
  | xo f k => cases h0
  | non =>
    rw [relD_non r]
    refine ⟨_, .base .non, five ?_ ?_ ?_ ?_ ?_⟩ <;> (intro k h; simp only [isiD, Option.some.injEq] at h; subst h; exact kit_ty (by decide +kernel))
  | bl b =>
    rw [relD_bl r]
    refine ⟨_, .base (.bl b), five ?_ ?_ ?_ ?_ ?_⟩ <;> (intro k h; simp only [isiD, Option.some.injEq] at h; subst h; exact kit_ty (by decide +kernel))
  | int b =>
    rw [relD_int r]
    refine ⟨_, .base (.int b), five ?_ ?_ ?_ ?_ ?_⟩ <;> (intro k h; simp only [isiD, Option.some.injEq] at h; subst h; exact kit_ty (by decide +kernel))
  | str b =>
    rw [(relD_str (t := b) r).1]
    refine ⟨_, .base (.str b), five ?_ ?_ ?_ ?_ ?_⟩ <;> (intro k h; simp only [isiD, Option.some.injEq] at h; subst h; exact kit_ty (by decide +kernel))
  | tup xs =>
    simp only [RelD] at r
    obtain ⟨p, vs, rfl, hs, _⟩ := r
    have ty : TyX K H (.ref p) (.type "tuple") := by
      rcases hs with (e | ⟨o, e⟩) | ⟨o, its, n, e, ec, _⟩
      · exact .base (.tup e)
      · exact .fTuple e
      · exact .kTuple e ec
    refine ⟨_, ty, five ?_ ?_ ?_ ?_ ?_⟩ <;> (intro k h; simp only [isiD, Option.some.injEq] at h; subst h; exact kit_ty (by decide +kernel))
  | ref i =>
    simp only [isiD] at h0
    have main : ∀ p, v = .ref p → TyX K H (.ref p) (.type "list") → (∀ T, isiD M (.ref i) T = some (T == "list")) → ∃ t, TyX K H v t ∧ ∀ T ∈ ["int", "bool", "str", "tuple", "list"], ∀ k, isiD M (.ref i) T = some k → PySem.W.kitOne K t (.type T) = some k := fun p hv ty e => by
      subst hv
      refine ⟨_, ty, fun T hT k h => ?_⟩
      rw [e T] at h
      simp only [Option.some.injEq] at h
      subst h
      revert T
      refine five ?_ ?_ ?_ ?_ ?_ <;> exact kit_ty (by decide +kernel)
    split at h0
    · rename_i e
      obtain ⟨p, rfl, _, vs, hH, _⟩ := S.ref e r
      exact main p rfl (.base (.lst hH)) fun T => by simp only [isiD, e]
    · rename_i e
      obtain ⟨p, rfl, _, vs, hH, _⟩ := S.ref e r
      refine main p rfl ?_ fun T => by simp only [isiD, e]
      rcases hH with ⟨o, e⟩ | ⟨o, its, n, e, ec, _⟩
      · exact .base (.frz e)
      · exact .kList e ec
    · cases h0
theorem sd_isi2 {y z : Str} {T U : String} {q q2 p3 : Pos} {k : Nat} (hg : Gl X x) (hm : X.mg x = none) (hx : x = "isinstance") (hT : T ∈ ["int", "bool", "str", "tuple", "list"]) (hU : U ∈ ["int", "bool", "str", "tuple", "list"]) (ty : PE X (.Name y q) (tC (.ty T))) (ty2 : PE X (.Name z q2) (tC (.ty U))) (ha : PE X a (tE X.K RX W c ea)) (na : nst a = true) :
    PE X (.Call (.Name x p) [a, .Tuple [.Name y q, .Name z q2] k p3] [] pos) (tE X.K RX W c (.isi ea [T, U])) := by
  subst hx
  have htup : PE X (.Tuple [.Name y q, .Name z q2] k p3) _ := pe_tup (pa_cons ty (pa_cons ty2 pa_nil (star1 rfl)) (star1 rfl))
  refine L2PE.weak (pe_callB call_isiT hg hm (by decide +kernel) (pa_cons ha (pa_cons htup pa_nil (star1 rfl)) (star1 na)) (by decide) (by decide) (star1 na) (back_plain rfl)) fun σ H Q ⟨ρ, M, ι, re, sr, h⟩ => ?_
  unfold ev at h
  refine ⟨ρ, M, ι, re, sr, h.bind.mono fun x M1 ι1 H1 _ st s1 h1 v rv => ?_⟩
  simp only at h1
  cases e1 : isiD M1 x T with
  | none => rw [e1] at h1; exact h1.elim
  | some k1 =>
    cases e2 : isiD M1 x U with
    | none => rw [e1, e2] at h1; exact h1.elim
    | some k2 =>
      rw [e1, e2] at h1
      refine ⟨by show (2 : Nat) ≤ _; rw [sizeLine_eq]; omega, fun p hp => ?_⟩
      have st2 : Step ι1 H1 ι1 (upd H1 p (.tup [.ty T, .ty U])) := Step.fresh hp
      obtain ⟨t, ty, kk⟩ := isi_tyA (s1.fresh hp) (rv.step st2) e1
      refine ⟨v, p, [.ty T, .ty U], t, [.type T, .type U], k1 || k2, rfl, upd_same, .cons (.ty T) (.cons (.ty U) .nil), ty, ?_, h1 ι1 _ st2 (s1.fresh hp) _ .bls⟩
      refine kitAny_cons (kk T hT k1 e1) (fun hf => ?_) fun ht => by rw [ht]; rfl
      refine kitAny_cons (kk U hU k2 e2) (fun hf2 => ?_) fun ht => by rw [ht, hf]; rfl
      rw [kitAny_nil, hf, hf2]
      rfl
end
end
end Sk
end
section
set_option Elab.async false
set_option linter.all false
set_option autoImplicit false
set_option maxRecDepth 100000
/-! SkD3: targets, what is walked, list comprehensions. -/
namespace Sk
open PySem PySem.Spec PyProof.Rows L2

/-! ### slots -/
theorem wipeS_get : ∀ (vs : List Nat) (σ : L2.St) (j : Nat), (L2.wipe σ vs)[j]? = if j ∈ vs then (if j < σ.length then some none else none) else σ[j]?
  | [], σ, j => by simp [L2.wipe]
  | v :: vs, σ, j => by
    unfold L2.wipe
    have ih := wipeS_get vs σ j
    have hl := L2.wipe_length σ vs
    by_cases e : v = j
    · subst e
      rw [if_pos List.mem_cons_self]
      by_cases h : v < σ.length
      · rw [List.getElem?_set_self (by rw [hl]; exact h), if_pos h]
      · rw [if_neg h, List.getElem?_eq_none (by simp [hl]; omega)]
    · rw [List.getElem?_set_ne e, ih]
      simp [show ¬ j = v from fun z => e z.symm]
theorem wipeS_set {σ : L2.St} {i : Nat} {v : Option V} {vs : List Nat} (h : i ∈ vs) : L2.wipe (σ.set i v) vs = L2.wipe σ vs := by
  refine List.ext_getElem? fun j => ?_
  rw [wipeS_get, wipeS_get, List.length_set]
  by_cases e : j ∈ vs
  · rw [if_pos e, if_pos e]
  · rw [if_neg e, if_neg e, List.getElem?_set_ne (by rintro rfl; exact e h)]
theorem wipeR_some {ρ : Env} {i : Nat} {d : D} : ∀ {vs : List Nat}, (wipe ρ vs)[i]? = some (some d) → ρ[i]? = some (some d) ∧ i ∉ vs
  | [], h => ⟨h, by simp⟩
  | v :: vs, h => by
    unfold wipe at h
    by_cases hi : v = i
    · subst hi
      by_cases hv : v < (wipe ρ vs).length
      · rw [List.getElem?_set_self hv] at h; cases h
      · rw [List.getElem?_eq_none (by simpa using hv)] at h; cases h
    · rw [List.getElem?_set_ne hi] at h
      obtain ⟨h1, h2⟩ := wipeR_some h
      exact ⟨h1, by simp only [List.mem_cons, not_or]; exact ⟨fun e => hi e.symm, h2⟩⟩
theorem wipeR_len (ρ : Env) : ∀ vs : List Nat, (wipe ρ vs).length = ρ.length
  | [] => rfl
  | v :: vs => by unfold wipe; rw [List.length_set, wipeR_len ρ vs]
section
variable {K : PySem.W.Frag} {ι : List Addr} {H : Hp}
theorem REnv.wipe {ρ : Env} {σ : L2.St} (h : REnv K ι H ρ σ) (ks : List Nat) : REnv K ι H (wipe ρ ks) σ := ⟨by rw [wipeR_len]; exact h.1, fun i d e => h.2 i d (wipeR_some e).1⟩
theorem REnv.wipes {ρ : Env} {σ : L2.St} (h : REnv K ι H ρ σ) (ks : List Nat) : REnv K ι H (Sk.wipe ρ ks) (L2.wipe σ ks) := ⟨by rw [wipeR_len, L2.wipe_length]; exact h.1, fun i d e => by
  obtain ⟨e1, e2⟩ := wipeR_some e
  obtain ⟨v, e3, r⟩ := h.2 i d e1
  exact ⟨v, by rw [wipeS_get, if_neg e2]; exact e3, r⟩⟩
theorem REnv.set {ρ : Env} {σ : L2.St} {i : Nat} {d : D} {v : V} (h : REnv K ι H ρ σ) (r : RelD K ι H d v) : REnv K ι H (ρ.set i (some d)) (σ.set i (some v)) := ⟨by simp [h.1], fun j d' e => by
  by_cases z : i = j
  · subst z
    by_cases hi : i < ρ.length
    · rw [List.getElem?_set_self hi] at e
      cases e
      exact ⟨v, by rw [List.getElem?_set_self (by rw [← h.1]; exact hi)], r⟩
    · rw [List.getElem?_eq_none (by simp; omega)] at e; cases e
  · rw [List.getElem?_set_ne z] at e
    rw [List.getElem?_set_ne z]
    exact h.2 j d' e⟩
end

/-! ### targets -/
def Tg.slots : Tg → List Nat
  | .one i => [i]
  | .many is => is
section
variable (K : PySem.W.Frag)
def tG (tg : Tg) : TG := fun v σ H Q => ∃ ρ ι d ρ', REnv K ι H ρ σ ∧ RelD K ι H d v ∧ (∃ M, assignT M tg d ρ = some ρ') ∧ ∀ σ', REnv K ι H ρ' σ' → (∀ vs : List Nat, (∀ i ∈ tg.slots, i ∈ vs) → L2.wipe σ' vs = L2.wipe σ vs) → Q σ' H
def tGs (is : List Nat) : TGs := fun vs σ H Q => ∃ ρ ι ds ρ', REnv K ι H ρ σ ∧ RelDs K ι H ds vs ∧ setMany ρ is ds = some ρ' ∧ ∀ σ', REnv K ι H ρ' σ' → (∀ vs : List Nat, (∀ i ∈ is, i ∈ vs) → L2.wipe σ' vs = L2.wipe σ vs) → Q σ' H
end
theorem setMany_len : ∀ {is : List Nat} {ds : List D} {ρ ρ' : Env}, setMany ρ is ds = some ρ' → ds.length = is.length
  | [], [], _, _, _ => rfl
  | [], _ :: _, _, _, e => nomatch e
  | _ :: _, [], _, _, e => nomatch e
  | i :: is, d :: ds, ρ, ρ', e => by
    simp only [setMany] at e
    simp [setMany_len e]
/-- a name that may be stored -/
structure NameAt (X : L2.Cx) (i : Nat) (x : Str) : Prop where
  ix : X.N[i]? = some x
  loc : Loc X.env.scope x
  fn : X.fn x = true ∨ X.env.scope.names.lookup x = some .local
theorem L2PG.weak {X : L2.Cx} {e : Expr} {t t' : TG} (h : PG X e t) (f : ∀ v σ H Q, t' v σ H Q → t v σ H Q) : PG X e t' := ⟨fun pins s σ H v u Q I r q => h.run pins s σ H v u Q I r (f _ _ _ _ q)⟩
theorem L2PGs.weak {X : L2.Cx} {e : List Expr} {t t' : TGs} (h : PGs X e t) (f : ∀ v σ H Q, t' v σ H Q → t v σ H Q) : PGs X e t' := ⟨fun pins s σ H v u Q I r q => h.run pins s σ H v u Q I r (f _ _ _ _ q)⟩
section
variable {X : L2.Cx}
theorem sg_one {i : Nat} {x : Str} {p : Pos} (hN : X.N.Nodup) (n : NameAt X i x) : PG X (.Name x p) (tG X.K (.one i)) :=
  L2PG.weak (pg_name hN n.ix n.loc n.fn) fun v σ H Q ⟨ρ, ι, d, ρ', re, rd, ⟨M, e⟩, h⟩ => by
    simp only [assignT, Option.some.injEq] at e
    subst e
    exact h _ (re.set rd) fun vs hv => wipeS_set (hv i (by simp [Tg.slots]))
theorem sgs_nil : PGs X [] (tGs X.K []) := L2PGs.weak pgs_nil fun vs σ H Q ⟨ρ, ι, ds, ρ', re, rd, e, h⟩ => by
  cases ds with
  | nil =>
    simp only [RelDs] at rd
    simp only [setMany, Option.some.injEq] at e
    subst e
    exact ⟨rd, h σ re fun _ _ => rfl⟩
  | cons a b => cases e
theorem sgs_cons {i : Nat} {is : List Nat} {x : Str} {p : Pos} {es : List Expr} (hN : X.N.Nodup) (n : NameAt X i x) (hr : PGs X es (tGs X.K is)) : PGs X (.Name x p :: es) (tGs X.K (i :: is)) :=
  L2PGs.weak (pgs_cons (pg_name hN n.ix n.loc n.fn) hr rfl) fun vs σ H Q ⟨ρ, ι, ds, ρ', re, rd, e, h⟩ => by
    cases ds with
    | nil => cases e
    | cons d ds =>
      simp only [RelDs] at rd
      obtain ⟨v, r, rfl, rv, rr⟩ := rd
      simp only [setMany] at e
      refine ⟨v, r, rfl, _, ι, ds, ρ', re.set rv, rr, e, fun σ' re' hw => h σ' re' fun vs hv => ?_⟩
      rw [hw vs fun j hj => hv j (List.mem_cons_of_mem _ hj)]
      exact wipeS_set (hv i List.mem_cons_self)
theorem sg_many {is : List Nat} {es : List Expr} {k : Nat} {p : Pos} (hc : X.calm = true) (h : PGs X es (tGs X.K is)) (hn : (assignEach es X.env).length = is.length) (hst : (assignEach es X.env).findIdx? (·.1) = none) : PG X (.Tuple es k p) (tG X.K (.many is)) :=
  L2PG.weak (pg_tup hc h hn hst) fun v σ H Q ⟨ρ, ι, d, ρ', re, rd, ⟨M, e⟩, h⟩ => by
    simp only [assignT] at e
    split at e
    · rename_i xs
      simp only [RelD] at rd
      obtain ⟨a, vs, rfl, hs, rr⟩ := rd
      refine ⟨a, vs, rfl, hs, ?_, ρ, ι, xs, ρ', re, rr, e, h⟩
      rw [← rr.length]
      exact setMany_len e
    · cases e
end

/-! ### what is walked -/
section
variable (K : PySem.W.Frag) (RX : Exc → Value → Option Addr → Hp → Prop)
/-- a walk over xs, while w stands -/
def Goes (R : L2.It → Hp → Prop) : List D × Option Nat → Store → List Addr → Hp → Prop := fun p M' ι' H' =>
  ∀ (J : L2.It) (G : Hp → Prop) (Y : Nat → Hp → V → Hp → Prop), Walk J p.1.length G Y →
    (∀ i H2 x H3 ι2 M2, i < p.1.length → G H2 → Step ι' H' ι2 H2 → SR K ι2 H2 M2 → stands (p.2.map fun i => (i, p.1)) M2 → Y i H2 x H3 → Step ι2 H2 ι2 H3 ∧ SR K ι2 H3 M2 ∧ ∀ d, p.1[i]? = some d → RelD K ι2 H3 d x) →
    (∀ ι2 H2 M2, Step ι' H' ι2 H2 → SR K ι2 H2 M2 → stands (p.2.map fun i => (i, p.1)) M2 → G H2) → R J H'
variable (W : WX) (c : Cx)
def tI (k : Ik) (its : List E) : TI := fun σ H R => ∃ ρ M ι, REnv K ι H ρ σ ∧ SR K ι H M ∧ Wp K RX (fun cls d H' => W cls d σ H') ι H (Goes K R) ((evs c its ρ M).bind (walkG M.length k))
end
section
variable {K : PySem.W.Frag} {RX : Exc → Value → Option Addr → Hp → Prop} {ι ι1 : List Addr} {H H1 : Hp} {M M1 : Store} {Ex : Value → Option Addr → Hp → Prop}
theorem Step.same {n : Nat} (st : Step ι H ι1 H1) (hn : ι.length = n) : ι1.take n = ι ∧ Step ι H ι H1 := by
  obtain ⟨t, rfl, ht⟩ := st.ext
  subst hn
  exact ⟨by simp, ⟨⟨[], by simp, by simp⟩, st.imm, st.out, st.dom⟩⟩
/-- the end of what is walked: the state as it is said to be -/
theorem walk_end {n : Nat} {k : Ik} {ds : List D} {xs : List D} {w : Option Nat} {P : List D × Option Nat → Store → List Addr → Hp → Prop} (st : Step ι H ι1 H1) (hn : ι.length = n) (h0 : 0 < n) (s1 : SR K ι1 H1 M1) (bel : Below n M1)
    (e : walkD k ds M1 = some (xs, w)) (h : Wp K RX Ex ι H P (walkG n k ds M1)) : ∃ ι2 M2 w2, Step ι H ι2 H1 ∧ SR K ι2 H1 M2 ∧ P (xs, w2) M2 ι2 H1 ∧ (∀ vs, RelDs K ι1 H1 xs vs → RelDs K ι2 H1 xs vs) ∧
      ((ι2 = ι1 ∧ w2 = w) ∨ (ι2 = ι ∧ ((w2 = none ∧ ∀ i, w = some i → n ≤ i) ∨ (w2 = w ∧ ∀ i, w = some i → i < n)))) := by
  obtain ⟨q1, q2⟩ := st.same hn
  have sc := s1.cut bel h0
  rw [q1] at sc
  have cut : ∀ vs, D.pures xs = true → RelDs K ι1 H1 xs vs → RelDs K ι H1 xs vs := fun vs hp r => r.anyI hp
  unfold walkG at h
  rw [e] at h
  cases w with
  | none =>
    simp only at h
    split at h
    · rename_i hp
      exact ⟨ι, _, none, q2, sc, h ι H1 q2 sc, fun vs => cut vs hp, .inr ⟨rfl, .inl ⟨rfl, fun i z => nomatch z⟩⟩⟩
    · exact ⟨ι1, _, none, st, s1, h ι1 H1 st s1, fun vs r => r, .inl ⟨rfl, rfl⟩⟩
  | some i =>
    simp only at h
    split at h
    · rename_i hi
      split at h
      · rename_i hp
        exact ⟨ι, _, none, q2, sc, h ι H1 q2 sc, fun vs => cut vs hp, .inr ⟨rfl, .inl ⟨rfl, fun j z => by cases z; exact hi⟩⟩⟩
      · exact ⟨ι1, _, some i, st, s1, h ι1 H1 st s1, fun vs r => r, .inl ⟨rfl, rfl⟩⟩
    · rename_i hi
      refine ⟨ι, _, some i, q2, sc, h ι H1 q2 sc, fun vs r => ?_, .inr ⟨rfl, .inr ⟨rfl, fun j z => by cases z; omega⟩⟩⟩
      -- the items of an object below n
      have hk : ∃ o : O, M1[i]? = some o ∧ (o = .lst xs ∨ o = .ro xs) := by
        unfold walkD at e
        cases k <;> simp only at e
        · split at e
          · cases e
          · cases e
          · split at e
            · rename_i q
              cases e
              exact ⟨_, q, .inl rfl⟩
            · cases e
            · cases e
          · cases e
        · split at e
          · split at e <;> cases e
          · split at e <;> cases e
          · cases e
        · split at e <;> cases e
        all_goals cases e
      obtain ⟨o, ho, hox⟩ := hk
      have hb := bel i o (by omega) ho
      have : D.unders n xs := by rcases hox with rfl | rfl <;> exact hb
      rw [← q1]
      exact r.cut this
theorem Wp.bind0 {α β : Type} {r : Res α} {P : β → Store → List Addr → Hp → Prop} {f : α → Store → Res β} (h : Wp K RX Ex ι H P (r.bind f)) : Wp K RX Ex ι H (fun a M1 _ _ => Wp K RX Ex ι H P (f a M1)) r := by
  cases r with
  | ok a M => exact fun ι2 H2 s2 sr => h
  | exc x M => exact h
  | bad => exact h
end
theorem L2PIE.mono {X : L2.Cx} {pins : List (Addr × Obj)} {σ : L2.St} {tg : Expr} {R R' : L2.It → Hp → Prop} {v : Value} {s : Shared} (h : PIE X pins σ tg R v s) (f : ∀ J H', Inv X pins σ H' s → R J H' → R' J H') : PIE X pins σ tg R' v s := by
  obtain ⟨it, fp, tn, J, H', e, I, T, t0, hf, r⟩ := h
  exact ⟨it, fp, tn, J, H', e, I, T, t0, hf, f J H' I r⟩
theorem pi_mono {X : L2.Cx} {pins : List (Addr × Obj)} {σ : L2.St} {tg a : Expr} {R R' : L2.It → Hp → Prop} {s : Shared} (h : wpAny (model X.prog X.w) X.A (eval a X.env) (fun v s1 => wpAny (model X.prog X.w) X.A (pyIter v) (PIE X pins σ tg R) X.xe s1) X.xe s)
    (f : ∀ J H' s2, Inv X pins σ H' s2 → R J H' → R' J H') : wpAny (model X.prog X.w) X.A (eval a X.env) (fun v s1 => wpAny (model X.prog X.w) X.A (pyIter v) (PIE X pins σ tg R') X.xe s1) X.xe s :=
  thn h fun v s1 h1 => thn h1 fun u s2 h2 => L2PIE.mono h2 fun J H' I r => f J H' s2 I r
theorem chars_rel {K : PySem.W.Frag} {ι : List Addr} {H : Hp} {z : Str} {i : Nat} {d : D} (hk : PyData.strOk z = true) (h : (chars z)[i]? = some d) : ∃ c, z.cps[i]? = some c ∧ RelD K ι H d (.str ⟨#[c]⟩) := by
  unfold chars at h
  rw [List.getElem?_map] at h
  cases e : z.cps.toList[i]? with
  | none => rw [e] at h; cases h
  | some c =>
    rw [e] at h
    cases h
    refine ⟨c, by rw [← Array.getElem?_toList]; exact e, .strs (by show (1 : Nat) ≤ _; rw [sizeLine_eq]; omega) ?_⟩
    rw [strOk_list]
    intro b hb
    have : b = c := by simpa using hb
    subst this
    exact strOk_list.mp hk b (List.mem_of_getElem? e)
section
variable {X : L2.Cx} {RX : Exc → Value → Option Addr → Hp → Prop} {W : WX} {c : Cx} {tg a b : Expr} {ea eb : E}
theorem si_val (kc : CK c) (ha : PE X a (tE X.K RX W c ea)) : PI X tg a (tI X.K RX W c .val [ea]) := by
  refine ⟨fun pins s σ H R I ⟨ρ, M, ι, re, sr, h⟩ => ?_⟩
  simp only [evs, Res.bind_assoc, Res.bind] at h
  have kp := kp_ev kc ea ρ M
  cases q : ev c ea ρ M with
  | bad => rw [q] at h; exact h.elim
  | exc x M1 =>
    rw [q] at h
    exact (pi_tup ha).run pins s σ H R I ⟨ρ, M, ι, re, sr, by rw [q]; exact h⟩
  | ok d M1 =>
    rw [q] at h kp
    simp only [Res.bind] at h
    have bel : Below M.length M1 := kp.bel _ (Nat.le_refl _) sr.belowAll
    have hn : ι.length = M.length := sr.len
    cases ew : walkD .val [d] M1 with
    | none =>
      unfold walkG at h
      rw [ew] at h
      exact h.elim
    | some p =>
      obtain ⟨xs, w⟩ := p
      have ew0 := ew
      cases d with
      | tup ys =>
        simp only [walkD] at ew
        cases ew
        refine pi_mono ((pi_tup ha).run pins s σ H (fun J H1 => ∃ ι1 p vs, J = Itt X.K p ∧ Step ι H ι1 H1 ∧ SR X.K ι1 H1 M1 ∧ SqT X.K H1 p vs ∧ RelDs X.K ι1 H1 xs vs) I ⟨ρ, M, ι, re, sr, ?_⟩) fun J H1 s2 I2 z => ?_
        · rw [q]
          intro ι1 H1 st s1 v rv
          simp only [RelD] at rv
          obtain ⟨p, vs, rfl, hs, rr⟩ := rv
          exact ⟨p, rfl, ⟨vs, hs⟩, ι1, p, vs, rfl, st, s1, hs, rr⟩
        · obtain ⟨ι1, p, vs, rfl, st, s1, hs, rr⟩ := z
          obtain ⟨ι2, M2, w2, st2, s2', g, hr, hw⟩ := walk_end st hn sr.pos s1 bel ew0 h
          have rr2 := hr vs rr
          refine g (Itt X.K p) (fun H => SqT X.K H p vs) (YAt vs) (by rw [rr.length]; exact walk_tup) (fun i H2 x H3 ι3 M3 hi hg st3 s3 _ y => ?_) fun ι3 H2 M3 st3 _ _ => st3.sqT hs
          obtain ⟨rfl, hx⟩ := y
          exact ⟨.refl, s3, fun d e => by
            obtain ⟨v, e2, rv⟩ := (rr2.step st3).get e
            rw [hx] at e2; cases e2; exact rv⟩
      | str z =>
        simp only [walkD] at ew
        cases ew
        refine pi_mono ((pi_str ha).run pins s σ H (fun J H1 => J = Its z ∧ PyData.strOk z = true ∧ ∃ ι1, Step ι H ι1 H1 ∧ SR X.K ι1 H1 M1) I ⟨ρ, M, ι, re, sr, ?_⟩) fun J H1 s2 I2 g => ?_
        · rw [q]
          intro ι1 H1 st s1 v rv
          obtain ⟨rfl, _, hk⟩ := relD_str (t := z) rv
          exact ⟨z, rfl, rfl, hk, ι1, st, s1⟩
        · obtain ⟨rfl, hk, ι1, st, s1⟩ := g
          obtain ⟨ι2, M2, w2, st2, s2', g, hr, hw⟩ := walk_end st hn sr.pos s1 bel ew0 h
          refine g (Its z) (fun _ => True) _ (by simp only [chars, List.length_map, Array.length_toList]; exact walk_str) (fun i H2 x H3 ι3 M3 hi hg st3 s3 _ y => ?_) fun ι3 H2 M3 st3 _ _ => trivial
          obtain ⟨rfl, c', hc, rfl⟩ := y
          exact ⟨.refl, s3, fun d e => by
            obtain ⟨c2, e2, rv⟩ := chars_rel hk e
            rw [hc] at e2; cases e2; exact rv⟩
      | ref i =>
        simp only [walkD] at ew
        have key : ∀ (o : O), M1[i]? = some o → (o = .lst xs ∧ w = some i ∨ o = .ro xs ∧ w = none) → wpAny (model X.prog X.w) X.A (eval a X.env) (fun v s1 => wpAny (model X.prog X.w) X.A (pyIter v) (PIE X pins σ tg R) X.xe s1) X.xe s := fun o ho hox => by
          refine pi_mono ((pi_list ha).run pins s σ H (fun J H1 => ∃ ι1 p vs, J = Itl X.K p ∧ Step ι H ι1 H1 ∧ SR X.K ι1 H1 M1 ∧ ι1[i]? = some p ∧ RelDs X.K ι1 H1 xs vs ∧ SqL X.K H1 p vs ∧ (w = some i ∧ H1 p = some (.lst vs) ∨ w = none ∧ RoL X.K H1 p vs)) I ⟨ρ, M, ι, re, sr, ?_⟩) fun J H1 s2 I2 z => ?_
          · rw [q]
            intro ι1 H1 st s1 v rv
            obtain ⟨p, rfl, hp, or⟩ := s1.ref ho rv
            rcases hox with ⟨rfl, hw⟩ | ⟨rfl, hw⟩
            · obtain ⟨vs, hH, rr⟩ := or
              exact ⟨p, rfl, ⟨vs, .inl (.inl hH)⟩, ι1, p, vs, rfl, st, s1, hp, rr, .inl (.inl hH), .inl ⟨hw, hH⟩⟩
            · obtain ⟨vs, hH, rr⟩ := or
              exact ⟨p, rfl, ⟨vs, hH.sqL⟩, ι1, p, vs, rfl, st, s1, hp, rr, hH.sqL, .inr ⟨hw, hH⟩⟩
          · obtain ⟨ι1, p, vs, rfl, st, s1, hp, rr, hq, hwk⟩ := z
            obtain ⟨ι2, M2, w2, st2, s2', g, hr, hw⟩ := walk_end st hn sr.pos s1 bel ew0 h
            have rr2 := hr vs rr
            -- the list as it stands then
            have now : ∀ ι3 H2 M3, Step ι2 H1 ι3 H2 → SR X.K ι3 H2 M3 → stands (w2.map fun i => (i, xs)) M3 → ∃ vs', SqL X.K H2 p vs' ∧ RelDs X.K ι3 H2 xs vs' := fun ι3 H2 M3 st3 s3 hst => by
              rcases hwk with ⟨e, hH⟩ | ⟨e, hH⟩
              · have atI : w2 = some i → ι2[i]? = some p → ∃ vs', SqL X.K H2 p vs' ∧ RelDs X.K ι3 H2 xs vs' := fun e2 hi2 => by
                  subst e2
                  have hst : M3[i]? = some (.lst xs) := hst
                  obtain ⟨p', hp', vs', h1, h2⟩ := s3.at hst
                  rw [st3.get hi2] at hp'
                  cases hp'
                  exact ⟨vs', .inl (.inl h1), h2⟩
                rcases hw with ⟨e1, e2⟩ | ⟨e1, ⟨e2, e3⟩ | ⟨e2, e3⟩⟩
                · exact atI (by rw [e2, e]) (by rw [e1]; exact hp)
                · -- forgotten
                  have hni : p ∉ ι.drop 1 := fun hm => by
                    obtain ⟨j, hj⟩ := List.getElem?_of_mem hm
                    rw [List.getElem?_drop] at hj
                    have hjl : 1 + j < M.length := by rw [← hn]; exact (List.getElem?_eq_some_iff.mp hj).1
                    obtain ⟨p'', hp'', hor⟩ := sr.at (List.getElem?_eq_getElem hjl)
                    rw [hj] at hp''; cases hp''
                    obtain ⟨t, ht1, ht2⟩ := st.ext
                    have hHn : H p = none := by
                      refine ht2 p ?_
                      rw [ht1, List.getElem?_append_right (by have := e3 i e; omega)] at hp
                      exact List.mem_of_getElem? hp
                    obtain ⟨u, z, _⟩ := hor.here ((sr.kind _ _ (List.getElem?_eq_getElem hjl)).mpr (by omega))
                    rw [hHn] at z; cases z
                  rw [e1] at st3 rr2
                  exact ⟨vs, .inl (.inl (st3.out p _ hH hni)), rr2.step st3⟩
                · refine atI (by rw [e2, e]) ?_
                  rw [e1]
                  have := (st.same hn).1
                  rw [← this, List.getElem?_take_of_lt (e3 i e)]
                  exact hp
              · exact ⟨vs, (st3.roL hH).sqL, rr2.step st3⟩
            refine g (Itl X.K p) (fun H => ∃ vs', SqL X.K H p vs' ∧ vs'.length = xs.length) (Itl X.K p).yld ⟨fun j H2 hj ⟨vs', h1, h2⟩ => (by have hj' : j < xs.length := hj; exact ⟨vs', vs'[j]'(by omega), h1, by simp [h2, hj']⟩), fun H2 ⟨vs', h1, h2⟩ => ⟨vs', h1, (by show vs'.length ≤ xs.length; omega)⟩, fun j H2 x H3 _ _ y => y⟩ (fun j H2 x H3 ι3 M3 hj hg st3 s3 hst y => ?_) fun ι3 H2 M3 st3 s3 hst => ?_
            · obtain ⟨rfl, hx⟩ := y
              obtain ⟨vs', h1, h2⟩ := now ι3 H3 M3 st3 s3 hst
              refine ⟨.refl, s3, fun d e => ?_⟩
              obtain ⟨v, e2, rv⟩ := h2.get e
              rw [hx vs' h1] at e2; cases e2; exact rv
            · obtain ⟨vs', h1, h2⟩ := now ι3 H2 M3 st3 s3 hst
              exact ⟨vs', h1, h2.length.symm⟩
        split at ew
        · rename_i e
          cases ew
          exact key _ e (.inl ⟨rfl, rfl⟩)
        · rename_i e
          cases ew
          exact key _ e (.inr ⟨rfl, rfl⟩)
        · cases ew
      | _ => cases ew
theorem rngD_len (lo : Int) (n : Nat) : (rngD lo n).length = n := by simp [rngD]
theorem rngD_get {lo : Int} {n i : Nat} {d : D} (h : (rngD lo n)[i]? = some d) : d = .int (lo + i) := by
  unfold rngD at h
  rw [List.getElem?_map] at h
  cases e : (List.range n)[i]? with
  | none => rw [e] at h; cases h
  | some j =>
    rw [e] at h
    have := List.getElem?_range (show i < n by have := (List.getElem?_eq_some_iff.mp e).1; simpa using this)
    rw [this] at e; cases e; cases h; rfl
theorem pures_rng (lo : Int) (n : Nat) : D.pures (rngD lo n) = true := D.pures_mem.mpr fun x hx => by
  obtain ⟨i, hi⟩ := List.getElem?_of_mem hx
  rw [rngD_get hi]; rfl
theorem rng_goes {K : PySem.W.Frag} {ι ι1 : List Addr} {H H1 : Hp} {M M1 : Store} {Ex : Value → Option Addr → Hp → Prop} {R : L2.It → Hp → Prop} {lo : Int} {n : Nat} {ds : List D} (st : Step ι H ι1 H1) (hn : ι.length = M.length) (h0 : 0 < M.length) (s1 : SR K ι1 H1 M1) (bel : Below M.length M1)
    (e : walkD .rng ds M1 = some (rngD lo n, none)) (h : Wp K RX Ex ι H (Goes K R) (walkG M.length .rng ds M1)) : R (Itr lo n) H1 := by
  obtain ⟨ι2, M2, w2, st2, s2', g, hr, hw⟩ := walk_end st hn h0 s1 bel e h
  refine g (Itr lo n) (fun _ => True) _ (by simp only [rngD_len]; exact walk_range) (fun i H2 x H3 ι3 M3 hi hg st3 s3 _ y => ?_) fun ι3 H2 M3 st3 _ _ => trivial
  obtain ⟨rfl, rfl⟩ := y
  exact ⟨.refl, s3, fun d e => by rw [rngD_get e]; exact .ints⟩
theorem si_rng1 {p pos : Pos} {x : Str} (kc : CK c) (hx : x = "range") (hg : Gl X x) (hm : X.mg x = none) (ha : PA X [a] (tEs X.K RX W c [ea])) (na : nst a = true) : PI X tg (.Call (.Name x p) [a] [] pos) (tI X.K RX W c .rng [ea]) := by
  subst hx
  refine ⟨fun pins s σ H R I ⟨ρ, M, ι, re, sr, h⟩ => ?_⟩
  refine (pi_range1 hg hm ha (star1 na)).run pins s σ H R I ⟨ρ, M, ι, re, sr, h.bind0.mono fun ds M1 ι1 H1 e st s1 h1 vs rv => ?_⟩
  have kp := kp_evs kc [ea] ρ M
  rw [e] at kp
  have bel : Below M.length M1 := kp.bel _ (Nat.le_refl _) sr.belowAll
  have hl := evs_len e
  cases ds with
  | nil => cases hl
  | cons d ds =>
    cases ds with
    | cons _ _ => cases hl
    | nil =>
      obtain ⟨v, rfl, r1⟩ := relDs_one rv
      cases d with
      | int j =>
        cases relD_int r1
        by_cases hj : okR j = true
        · have hj' := hj
          unfold okR at hj'
          rw [decide_eq_true_eq] at hj'
          exact ⟨j, rfl, hj'.1, hj'.2, rng_goes st sr.len sr.pos s1 bel (by simp only [walkD, hj, if_true]) h1⟩
        · unfold walkG at h1
          simp only [walkD, hj] at h1
          exact h1.elim
      | _ => unfold walkG at h1; simp only [walkD] at h1; exact h1.elim
theorem si_rng2 {p pos : Pos} {x : Str} (kc : CK c) (hx : x = "range") (hg : Gl X x) (hm : X.mg x = none) (ha : PA X [a, b] (tEs X.K RX W c [ea, eb])) (na : nst a = true) (nb : nst b = true) : PI X tg (.Call (.Name x p) [a, b] [] pos) (tI X.K RX W c .rng [ea, eb]) := by
  subst hx
  refine ⟨fun pins s σ H R I ⟨ρ, M, ι, re, sr, h⟩ => ?_⟩
  refine (pi_range2 hg hm ha (by rw [star1 na, star1 nb]; rfl) (star1 nb)).run pins s σ H R I ⟨ρ, M, ι, re, sr, h.bind0.mono fun ds M1 ι1 H1 e st s1 h1 vs rv => ?_⟩
  have kp := kp_evs kc [ea, eb] ρ M
  rw [e] at kp
  have bel : Below M.length M1 := kp.bel _ (Nat.le_refl _) sr.belowAll
  have hl := evs_len e
  cases ds with
  | nil => cases hl
  | cons d ds =>
    cases ds with
    | nil => cases hl
    | cons d2 ds =>
      cases ds with
      | cons _ _ => cases hl
      | nil =>
        obtain ⟨v, w, rfl, r1, r2⟩ := relDs_two rv
        cases d with
        | int j =>
          cases d2 with
          | int k =>
            cases relD_int r1
            cases relD_int r2
            by_cases hj : okR j = true ∧ okR k = true
            · have hj' := hj
              unfold okR at hj'
              rw [decide_eq_true_eq, decide_eq_true_eq] at hj'
              exact ⟨j, k, rfl, ⟨hj'.1.1, hj'.1.2, hj'.2.1, hj'.2.2⟩, rng_goes st sr.len sr.pos s1 bel (by simp only [walkD]; rw [if_pos hj]) h1⟩
            · unfold walkG at h1
              simp only [walkD] at h1
              rw [if_neg hj] at h1
              exact h1.elim
          | _ => unfold walkG at h1; simp only [walkD] at h1; exact h1.elim
        | _ => unfold walkG at h1; simp only [walkD] at h1; exact h1.elim
/-! ### zip of two tuples -/
theorem walk_zipT {K : PySem.W.Frag} {p q : Addr} {xs ys : List V} : Walk (RZ.ItzT K p q) (min xs.length ys.length) (fun H => SqT K H p xs ∧ SqT K H q ys) (YPair (fun i => xs[i]?) fun i => ys[i]?) :=
  ⟨fun i H hi ⟨h1, h2⟩ => ⟨xs, ys, xs[i]'(by omega), ys[i]'(by omega), h1, h2, List.getElem?_eq_getElem (by omega), List.getElem?_eq_getElem (by omega)⟩,
    fun H ⟨h1, h2⟩ => ⟨xs, ys, h1, h2, by omega⟩, fun i H v H' hi ⟨h1, h2⟩ ⟨T, x, y, e1, e2, e3, f1, f2⟩ => ⟨T, x, y, e1, e2, e3, f1 xs h1, f2 ys h2⟩⟩
theorem zipT_rel {K : PySem.W.Frag} {ι : List Addr} {H : Hp} {xs ys : List D} {i : Nat} {x y : V} {T : Addr} {d : D} (hr : ∀ dx dy, xs[i]? = some dx → ys[i]? = some dy → RelD K ι H dx x ∧ RelD K ι H dy y) (hT : H T = none)
    (e : (List.zipWith (fun x y => D.tup [x, y]) xs ys)[i]? = some d) : RelD K ι (upd H T (.tup [x, y])) d (.ref T) := by
  rw [List.getElem?_zipWith] at e
  cases e1 : xs[i]? with
  | none => rw [e1] at e; cases e
  | some dx =>
    cases e2 : ys[i]? with
    | none => rw [e1, e2] at e; cases e
    | some dy =>
      rw [e1, e2] at e
      cases e
      obtain ⟨rx, ry⟩ := hr dx dy e1 e2
      have st : Step ι H ι (upd H T (.tup [x, y])) := Step.fresh hT
      simp only [RelD]
      refine ⟨T, [x, y], rfl, .inl (.inl upd_same), ?_⟩
      simp only [RelDs]
      exact ⟨_, _, rfl, rx.step st, _, _, rfl, ry.step st, rfl⟩
theorem at_rel {K : PySem.W.Frag} {ι : List Addr} {H : Hp} {xs : List D} {vs : List V} {i : Nat} {x : V} {d : D} (r : RelDs K ι H xs vs) (hx : vs[i]? = some x) (e : xs[i]? = some d) : RelD K ι H d x := by
  obtain ⟨v, e1, rv⟩ := r.get e
  rw [hx] at e1
  cases e1
  exact rv
theorem si_zip {p pos tpos : Pos} {x : Str} {elts : List Expr} {kk : Nat} (kc : CK c) (hx : x = "zip") (hg : Gl X x) (hm : X.mg x = none) (ha : PA X [a, b] (tEs X.K RX W c [ea, eb])) (na : nst a = true) (nb : nst b = true) : PI X (.Tuple elts kk tpos) (.Call (.Name x p) [a, b] [] pos) (tI X.K RX W c .zip [ea, eb]) := by
  subst hx
  refine ⟨fun pins s σ H R I ⟨ρ, M, ι, re, sr, h⟩ => ?_⟩
  have kp := kp_evs kc [ea, eb] ρ M
  cases q : evs c [ea, eb] ρ M with
  | bad => rw [q] at h; exact h.elim
  | exc x M1 =>
    rw [q] at h
    exact (RZ.pi_zipA hg hm ha (star1 na) (back_plain (es := [b]) (by simpa using nb))).run pins s σ H R I ⟨ρ, M, ι, re, sr, by rw [q]; exact h⟩
  | ok ds M1 =>
    rw [q] at h kp
    simp only [Res.bind] at h
    have bel : Below M.length M1 := kp.bel _ (Nat.le_refl _) sr.belowAll
    have hn : ι.length = M.length := sr.len
    cases ew : walkD .zip ds M1 with
    | none =>
      unfold walkG at h
      rw [ew] at h
      exact h.elim
    | some pr =>
      obtain ⟨zs, w⟩ := pr
      have ew0 := ew
      simp only [walkD] at ew
      split at ew
      rotate_left
      · cases ew
      rename_i xs ys
      cases ew
      refine pi_mono ((RZ.pi_zipA hg hm ha (star1 na) (back_plain (es := [b]) (by simpa using nb))).run pins s σ H (fun J H1 => ∃ ι1 p1 p2 vs ws, J = RZ.ItzT X.K p1 p2 ∧ Step ι H ι1 H1 ∧ SR X.K ι1 H1 M1 ∧ SqT X.K H1 p1 vs ∧ SqT X.K H1 p2 ws ∧ RelDs X.K ι1 H1 xs vs ∧ RelDs X.K ι1 H1 ys ws) I ⟨ρ, M, ι, re, sr, ?_⟩) fun J H1 s2 I2 z => ?_
      · rw [q]
        intro ι1 H1 st s1 us rus
        simp only [RelDs, RelD] at rus
        obtain ⟨v1, r1, rfl, ⟨p1, vs, rfl, hs1, rr1⟩, v2, r2, rfl, ⟨p2, ws, rfl, hs2, rr2⟩, rfl⟩ := rus
        exact ⟨p1, p2, vs, ws, rfl, .inr ⟨hs1, hs2, ι1, p1, p2, vs, ws, rfl, st, s1, hs1, hs2, rr1, rr2⟩⟩
      · obtain ⟨ι1, p1, p2, vs, ws, rfl, st, s1, hs1, hs2, rr1, rr2⟩ := z
        -- the parts, as what is kept of the state shows them
        unfold walkG at h
        rw [ew0] at h
        simp only at h
        have len : (List.zipWith (fun x y => D.tup [x, y]) xs ys).length = min vs.length ws.length := by rw [List.length_zipWith, rr1.length, rr2.length]
        obtain ⟨q1, q2⟩ := st.same hn
        have sc := s1.cut bel sr.pos
        rw [q1] at sc
        split at h
        · rename_i hp
          have g := h ι H1 q2 sc
          refine g (RZ.ItzT X.K p1 p2) (fun H => SqT X.K H p1 vs ∧ SqT X.K H p2 ws) (YPair (fun i => vs[i]?) fun i => ws[i]?) (by rw [len]; exact walk_zipT) (fun i H2 x H3 ι3 M3 hi hg st3 s3 _ y => ?_) fun ι3 H2 M3 st3 _ _ => ⟨st3.sqT hs1, st3.sqT hs2⟩
          obtain ⟨T, x1, y1, rfl, hT, rfl, hx1, hy1⟩ := y
          refine ⟨.fresh hT, s3.fresh hT, fun d e => ?_⟩
          refine zipT_rel (fun dx dy e1 e2 => ?_) hT e
          have hd : (D.tup [dx, dy]).pure = true := D.pures_mem.mp hp _ (List.mem_of_getElem? (i := i) (by rw [List.getElem?_zipWith, e1, e2]))
          simp only [D.pure, D.pures, Bool.and_true, Bool.and_eq_true] at hd
          exact ⟨((at_rel rr1 hx1 e1).anyI hd.1).step st3, ((at_rel rr2 hy1 e2).anyI hd.2).step st3⟩
        · have g := h ι1 H1 st s1
          refine g (RZ.ItzT X.K p1 p2) (fun H => SqT X.K H p1 vs ∧ SqT X.K H p2 ws) (YPair (fun i => vs[i]?) fun i => ws[i]?) (by rw [len]; exact walk_zipT) (fun i H2 x H3 ι3 M3 hi hg st3 s3 _ y => ?_) fun ι3 H2 M3 st3 _ _ => ⟨st3.sqT hs1, st3.sqT hs2⟩
          obtain ⟨T, x1, y1, rfl, hT, rfl, hx1, hy1⟩ := y
          exact ⟨.fresh hT, s3.fresh hT, fun d e => zipT_rel (fun dx dy e1 e2 => ⟨at_rel (rr1.step st3) hx1 e1, at_rel (rr2.step st3) hy1 e2⟩) hT e⟩
end
end Sk
end
section
set_option Elab.async false
set_option linter.all false
set_option autoImplicit false
set_option maxRecDepth 100000
/-! SkD4: forgetting; list comprehensions. -/
namespace Sk
open PySem PySem.Spec PyProof.Rows L2

section
variable {K : PySem.W.Frag} {RX : Exc → Value → Option Addr → Hp → Prop} {ι ι1 : List Addr} {H H1 : Hp} {M M1 : Store} {Ex : Value → Option Addr → Hp → Prop}
theorem gc_pack {n : Nat} {d : D} {v : V} (st : Step ι H ι1 H1) (hn : ι.length = n) (h0 : 0 < n) (s1 : SR K ι1 H1 M1) (bel : Below n M1) (rv : RelD K ι1 H1 d v) :
    gc n d M1 = .bad ∨ ∃ ι2 d2 M2, gc n d M1 = .ok d2 M2 ∧ Step ι H ι2 H1 ∧ SR K ι2 H1 M2 ∧ RelD K ι2 H1 d2 v := by
  obtain ⟨q1, q2⟩ := st.same hn
  have sc := s1.cut bel h0
  rw [q1] at sc
  unfold gc
  split
  · rename_i hp
    exact .inr ⟨ι, d, _, rfl, q2, sc, rv.anyI hp⟩
  · split
    · rename_i j
      split
      · rename_i hj
        refine .inr ⟨ι, _, _, rfl, q2, sc, ?_⟩
        rw [← q1]
        exact rv.cut (by simp only [D.under]; exact hj)
      · rename_i hj
        split
        · rename_i o e
          split
          · rename_i hp
            simp only [RelD] at rv
            obtain ⟨a, rfl, ha⟩ := rv
            have s2 := s1.cutOne bel h0 (by omega) e ha hp
            rw [q1] at s2
            obtain ⟨t, ht1, ht2⟩ := st.ext
            have hat : a ∈ t := by
              rw [ht1, List.getElem?_append_right (by omega)] at ha
              exact List.mem_of_getElem? ha
            refine .inr ⟨ι ++ [a], _, _, rfl, ⟨⟨[a], rfl, fun p hp => by cases List.mem_singleton.mp hp; exact ht2 a hat⟩, st.imm, st.out, st.dom⟩, s2, ?_⟩
            simp only [RelD]
            exact ⟨a, rfl, by rw [List.getElem?_append_right (by omega), hn]; simp⟩
          · exact .inr ⟨ι1, _, _, rfl, st, s1, rv⟩
        · exact .inl rfl
    · exact .inr ⟨ι1, _, _, rfl, st, s1, rv⟩
theorem exc_cut {x : Exc} (sr : SR K ι H M) (k : Kept M M1) (h : ∀ ι' H' cls d, Step ι H ι' H' → SR K ι' H' (M1.take M.length) → RX x cls d H' → Ex cls d H') :
    ∀ ι' H' cls d, Step ι H ι' H' → SR K ι' H' M1 → RX x cls d H' → Ex cls d H' := fun ι' H' cls d st s1 rx => by
  obtain ⟨q1, q2⟩ := st.same sr.len
  have sc := s1.cut (k.bel _ (Nat.le_refl _) sr.belowAll) sr.pos
  rw [q1] at sc
  exact h ι H' cls d q2 sc rx
theorem Wp.gc {r : Res D} {P : D → Store → List Addr → Hp → Prop} (h : Wp K RX Ex ι H P (r.gc M.length)) (sr : SR K ι H M) (kp : Kp M r) :
    Wp K RX Ex ι H (fun d M1 ι1 H1 => ∀ v, RelD K ι1 H1 d v → ∃ ι2 d2 M2, Step ι H ι2 H1 ∧ SR K ι2 H1 M2 ∧ RelD K ι2 H1 d2 v ∧ P d2 M2 ι2 H1) r := by
  cases r with
  | bad => exact h
  | exc x M1 => exact exc_cut sr kp h
  | ok d M1 =>
    intro ι1 H1 st s1 v rv
    have h : Wp K RX Ex ι H P (Sk.gc M.length d M1) := h
    rcases gc_pack st sr.len sr.pos s1 (kp.bel _ (Nat.le_refl _) sr.belowAll) rv with e | ⟨ι2, d2, M2, e, st2, s2, r2⟩
    · rw [e] at h; exact h.elim
    · rw [e] at h
      exact ⟨ι2, d2, M2, st2, s2, r2, h ι2 H1 st2 s2⟩
/-- behind a test -/
theorem cut_here (sr : SR K ι H M) (st : Step ι H ι1 H1) (s1 : SR K ι1 H1 M1) (k : Kept M M1) : Step ι H ι H1 ∧ SR K ι H1 (M1.take M.length) := by
  obtain ⟨q1, q2⟩ := st.same sr.len
  have sc := s1.cut (k.bel _ (Nat.le_refl _) sr.belowAll) sr.pos
  rw [q1] at sc
  exact ⟨q2, sc⟩
theorem Wp.evb {c : Cx} {e : E} {ρ : Env} {P : Bool → Store → List Addr → Hp → Prop} (kc : CK c) (h : Wp K RX Ex ι H P (evb c e ρ M)) (sr : SR K ι H M) :
    Wp K RX Ex ι H (fun b M1 ι1 H1 => Step ι H ι H1 ∧ SR K ι H1 (M1.take M.length) ∧ P b (M1.take M.length) ι H1) ((ev c e ρ M).bind truthR) := by
  have kp : Kp M ((ev c e ρ M).bind truthR) := Kp.bind (kp_ev kc e ρ M) fun x M1 _ => kp_truth
  unfold Sk.evb at h
  cases q : (ev c e ρ M).bind truthR with
  | bad => rw [q] at h; exact h
  | exc x M1 => rw [q] at h kp; exact exc_cut sr kp h
  | ok b M1 =>
    rw [q] at h kp
    intro ι1 H1 st s1
    obtain ⟨a1, a2⟩ := cut_here sr st s1 kp
    exact ⟨a1, a2, h ι H1 a1 a2⟩
/-! ### the list under way -/
theorem sqT_lst {D : Addr} {us ws : List V} (hD : H D = some (.lst us)) {x : Addr} {vs : List V} (h : SqT K H x vs) : SqT K (upd H D (.lst ws)) x vs := by
  rcases h with (h | ⟨o, h⟩) | h
  · exact .inl (.inl (by rw [upd_ne (by rintro rfl; rw [hD] at h; cases h)]; exact h))
  · exact .inl (.inr ⟨o, by rw [upd_ne (by rintro rfl; rw [hD] at h; cases h)]; exact h⟩)
  · exact .inr h
theorem roL_lst {D : Addr} {us ws : List V} (hD : H D = some (.lst us)) {x : Addr} {vs : List V} (h : RoL K H x vs) : RoL K (upd H D (.lst ws)) x vs := by
  rcases h with ⟨o, h⟩ | h
  · exact .inl ⟨o, by rw [upd_ne (by rintro rfl; rw [hD] at h; cases h)]; exact h⟩
  · exact .inr h
theorem SR.drop1 {i : Nat} {o : O} {a : Addr} (s : SR K ι H M) (e : M[i]? = some o) (ha : ι[i]? = some a) (hm : o.mut = true) : a ∈ ι.drop 1 := by
  have h0 := (s.kind i o e).mp hm
  refine List.mem_of_getElem? (i := i - 1) ?_
  rw [List.getElem?_drop, show 1 + (i - 1) = i by omega]
  exact ha
theorem SR.aside {D : Addr} {us ws : List V} (s : SR K ι H M) (hD : H D = some (.lst us)) (hn : D ∉ ι.drop 1) : SR K ι (upd H D (.lst ws)) M :=
  ⟨s.len, fun i o a e ha => (s.obj i o a e ha).mono (fun _ _ z => z) (fun _ _ => sqT_lst hD) (fun _ _ => roL_lst hD) (fun x o u h => by rw [upd_ne (by rintro rfl; rw [hD] at h; cases h)]; exact h) fun hm u hu => by
    rw [upd_ne (by rintro rfl; exact hn (s.drop1 e ha hm))]; exact hu, s.inj, s.pos, s.kind⟩
theorem RelDs.aside {D : Addr} {us ws : List V} {xs : List Sk.D} {vs : List V} (r : RelDs K ι H xs vs) (hD : H D = some (.lst us)) : RelDs K ι (upd H D (.lst ws)) xs vs := r.mono (fun _ _ z => z) (fun _ _ => sqT_lst hD) fun x o u h => by rw [upd_ne (by rintro rfl; rw [hD] at h; cases h)]; exact h
theorem Step.aside {D : Addr} {u : HO} (st : Step ι H ι1 H1) (hD : H D = none) : Step ι H ι1 (upd H1 D u) := by
  refine ⟨st.ext, fun a o h i => ?_, fun a o h i => ?_, fun a h => ?_⟩
  · rw [upd_ne (by rintro rfl; rw [hD] at h; cases h)]; exact st.imm a o h i
  · rw [upd_ne (by rintro rfl; rw [hD] at h; cases h)]; exact st.out a o h i
  · by_cases e : a = D
    · subst e; rw [upd_same]; exact fun z => nomatch z
    · rw [upd_ne e]; exact st.dom a h
/-- a list that was aside comes into the store -/
theorem SR.push {D : Addr} {o : O} (s : SR K ι H M) (hn : D ∉ ι.drop 1) (hm : o.mut = true) (new : OR K (ι ++ [D]) H o D) : SR K (ι ++ [D]) H (M ++ [o]) := by
  have hl := s.len
  have key : ∀ (i : Nat) (a : Addr) (q : O), (ι ++ [D])[i]? = some a → (M ++ [o])[i]? = some q → (i < M.length ∧ ι[i]? = some a ∧ M[i]? = some q) ∨ (i = M.length ∧ a = D ∧ q = o) := fun i a q e1 e2 => by
    by_cases h : i < M.length
    · rw [List.getElem?_append_left (by omega)] at e1
      rw [List.getElem?_append_left h] at e2
      exact .inl ⟨h, e1, e2⟩
    · have hi : i = M.length := by
        have := (List.getElem?_eq_some_iff.mp e2).1
        simp at this; omega
      subst hi
      rw [List.getElem?_append_right (by omega), hl] at e1
      rw [List.getElem?_append_right (Nat.le_refl _)] at e2
      simp at e1 e2
      exact .inr ⟨rfl, e1.symm, e2.symm⟩
  refine ⟨by simp [hl], fun i q a e1 e2 => ?_, fun i j a q q' h1 h2 h3 h4 m1 m2 => ?_, by simp, fun i q e => ?_⟩
  · rcases key i a q e2 e1 with ⟨h, a1, a2⟩ | ⟨_, rfl, rfl⟩
    · exact (s.obj i q a a2 a1).mono (fun k x e => by rw [List.getElem?_append_left (List.getElem?_eq_some_iff.mp e).1]; exact e) (fun _ _ z => z) (fun _ _ z => z) (fun _ _ _ z => z) fun _ u z => z
    · exact new
  · rcases key i a q h1 h3 with ⟨b0, b1, b2⟩ | ⟨b0, b1, b2⟩ <;> rcases key j a q' h2 h4 with ⟨c0, c1, c2⟩ | ⟨c0, c1, c2⟩
    · exact s.inj i j a q q' b1 c1 b2 c2 m1 m2
    · subst c1; exact absurd (s.drop1 b2 b1 m1) hn
    · subst b1; exact absurd (s.drop1 c2 c1 m2) hn
    · omega
  · have hlt := (List.getElem?_eq_some_iff.mp e).1
    by_cases h : i < M.length
    · rw [List.getElem?_append_left h] at e
      exact s.kind i q e
    · have hi : i = M.length := by simp at hlt; omega
      subst hi
      rw [List.getElem?_append_right (Nat.le_refl _)] at e
      simp at e
      subst e
      have := s.pos
      exact ⟨fun _ => by omega, fun _ => hm⟩
end
theorem wipeS_idem (σ : L2.St) (vs : List Nat) : L2.wipe (L2.wipe σ vs) vs = L2.wipe σ vs := by
  refine List.ext_getElem? fun j => ?_
  rw [wipeS_get, wipeS_get, L2.wipe_length]
  by_cases e : j ∈ vs
  · rw [if_pos e, if_pos e]
  · rw [if_neg e, if_neg e]
theorem nx_lcW {w : Option (Nat × List D)} {blk : D → Store → Res (Option D)} (hb : ∀ x M, NoX (blk x M)) : ∀ (xs : List D) (M : Store), NoX (lcW w blk xs M)
  | [], M => by unfold lcW; split <;> trivial
  | x :: xs, M => by
    unfold lcW
    split
    · have h := hb x M
      cases e : blk x M with
      | ok o M1 =>
        simp only [Res.bind]
        have h2 := nx_lcW (w := w) hb xs M1
        cases e2 : lcW w blk xs M1 with
        | ok ys M2 => simp only; split <;> trivial
        | exc x M2 => rw [e2] at h2; exact h2
        | bad => trivial
      | exc x M1 => rw [e] at h; exact h
      | bad => trivial
    · trivial
theorem nx_noExc {α : Type} {r : Res α} : NoX (noExc r) := by cases r <;> trivial
section
variable {K : PySem.W.Frag} {RX : Exc → Value → Option Addr → Hp → Prop} {ι ι1 : List Addr} {H H1 : Hp} {M M1 : Store} {Ex Ex' : Value → Option Addr → Hp → Prop}
theorem Wp.unX {α : Type} {r : Res α} {P : α → Store → List Addr → Hp → Prop} (h : Wp K RX Ex ι H P (noExc r)) : Wp K RX Ex' ι H P r := by
  cases r with
  | ok a M => exact h
  | exc x M => exact h.elim
  | bad => exact h
end
/-- no exception is wanted -/
def W0 : WX := fun _ _ _ _ => False
section
variable {X : L2.Cx} {RX : Exc → Value → Option Addr → Hp → Prop} {W : WX} {c : Cx}
/-- a comprehension's tests -/
def tTs (K : PySem.W.Frag) (RX : Exc → Value → Option Addr → Hp → Prop) (c : Cx) : List E → TT
  | [] => tYes
  | e :: _ => tT K RX W0 c e
/-- THE COMPREHENSION: its reading, by the rule's -/
theorem lc_read {K : PySem.W.Frag} (kc : CK c) {elt : E} {tg : Tg} {k : Ik} {its ifs : List E} {own : List Nat} (hi : ifs.length ≤ 1) (ht : ∀ i ∈ tg.slots, i ∈ own) {σ : L2.St} {H : Hp} {Q : VK} (h : tE K RX W c (.lc elt tg k its ifs own) σ H Q) :
    tLc (tI K RX W c k its) (tG K tg) (tTs K RX c ifs) (tE K RX W0 c elt) own σ H Q := by
  obtain ⟨ρ, M, ι, re, sr, h⟩ := h
  unfold ev at h
  rw [← Res.bind_assoc] at h
  refine ⟨ρ, M, ι, re, sr, h.bind.mono fun p M1 ι1 H1 e1 st s1 h1 => ?_⟩
  obtain ⟨xs, w⟩ := p
  intro J G Y wk hy hG A hA
  have re1 := (re.step st).wipes own
  simp only at h1
  generalize hblk : (fun (x : D) (M3 : Store) => match assignT M3 tg x (wipe ρ own) with
        | none => (Res.bad : Res (Option D))
        | some ρ1 => noExc ((evt c ifs ρ1 M3).bind fun t M4 => if t = true then ((ev c elt ρ1 M4).gc M4.length).bind fun y M5 => .ok (some y) M5 else .ok none M4)) = blk at h1
  split at h1
  rotate_left
  · exact h1.elim
  rename_i hlim
  generalize hwm : (w.map fun i => (i, xs)) = w' at h1
  generalize hPf : (fun (acc : List D) (ys : List D) (M3 : Store) (_ : List Addr) (_ : Hp) => Wp K RX (fun cls d H' => W cls d σ H') ι1 H1 (PD K Q) (alloc M3 (.lst (acc ++ ys)))) = Pf
  have stD : ∀ {ι2 : List Addr} {H2 : Hp} {u : HO}, Step ι1 H1 ι2 H2 → Step ι1 H1 ι2 (upd H2 A u) := fun s => s.aside hA
  have hA0 : A ∉ ι1.drop 1 := fun hm => by
    obtain ⟨j, hj⟩ := List.getElem?_of_mem hm
    rw [List.getElem?_drop] at hj
    have hjl : 1 + j < M1.length := by rw [← s1.len]; exact (List.getElem?_eq_some_iff.mp hj).1
    obtain ⟨u, z, _⟩ := (s1.obj _ _ _ (List.getElem?_eq_getElem hjl) hj).here ((s1.kind _ _ (List.getElem?_eq_getElem hjl)).mpr (by omega))
    rw [hA] at z; cases z
  -- the word of the loop
  generalize hInv : (fun (i : Nat) (H2 : Hp) => ∃ M2 ι2 acc accV, Step ι1 H1 ι2 H2 ∧ SR K ι2 H2 M2 ∧ H2 A = some (.lst accV) ∧ RelDs K ι2 H2 acc accV ∧ A ∉ ι2.drop 1 ∧ acc.length ≤ i ∧
      Wp K RX (fun cls d H' => W cls d σ H') ι1 H1 (Pf acc) (lcW w' blk (xs.drop i) M2)) = Pv
  refine lc_it wk Pv ?_ ?_ ?_ ?_
  · -- at the start
    subst hInv hPf
    refine ⟨M1, ι1, [], [], Step.fresh hA, s1.fresh hA, upd_same, RelDs.nil, hA0, Nat.le_refl _, ?_⟩
    simp only [List.drop_zero, List.nil_append]
    exact h1.bind0
  · -- it stands
    subst hInv
    rintro i H2 hi ⟨M2, ι2, acc, accV, st2, s2, hAv, ra, hn, hl, h2⟩
    refine hG ι2 H2 M2 st2 s2 ?_
    show stands (w.map fun i => (i, xs)) M2
    rw [hwm]
    cases e : xs.drop i with
    | nil =>
      rw [e] at h2
      unfold lcW at h2
      split at h2
      · assumption
      · exact h2.elim
    | cons x r =>
      rw [e] at h2
      unfold lcW at h2
      split at h2
      · assumption
      · exact h2.elim
  · -- a turn
    intro i x H2 H3 hi hPv hyx
    have hPv' := hPv
    rw [← hInv] at hPv'
    obtain ⟨M2, ι2, acc, accV, st2, s2, hAv, ra, hn, hl, h2⟩ := hPv'
    have hix : i < xs.length := hi
    rw [List.drop_eq_getElem_cons hix] at h2
    unfold lcW at h2
    split at h2
    rotate_left
    · exact h2.elim
    rename_i hst
    have hst' : stands (w.map fun i => (i, xs)) M2 := by rw [hwm]; exact hst
    obtain ⟨st3, s3, rx⟩ := hy i H2 x H3 ι2 M2 hi (hG ι2 H2 M2 st2 s2 hst') st2 s2 hst' hyx
    have rx := rx _ (List.getElem?_eq_getElem hix)
    generalize xs[i] = dx at h2 rx
    have h3 := h2.bind0
    have re3 : REnv K ι2 H3 (wipe ρ own) (L2.wipe σ own) := re1.step (st2.trans st3)
    have st23 := st2.trans st3
    have hA3 : H3 A = some (.lst accV) := st3.out A _ hAv hn
    have ra3 := ra.step st3
    have eb : blk dx M2 = match assignT M2 tg dx (wipe ρ own) with
      | none => (Res.bad : Res (Option D))
      | some ρ1 => noExc ((evt c ifs ρ1 M2).bind fun t M4 => if t = true then ((ev c elt ρ1 M4).gc M4.length).bind fun y M5 => .ok (some y) M5 else .ok none M4) := by rw [← hblk]
    rw [eb] at h3
    cases ea : assignT M2 tg dx (wipe ρ own) with
    | none => rw [ea] at h3; exact h3.elim
    | some ρ1 =>
      rw [ea] at h3
      simp only at h3
      refine ⟨wipe ρ own, ι2, dx, ρ1, re3, rx, ⟨M2, ea⟩, fun σ2 re4 hw => ⟨(hw own ht).trans (wipeS_idem _ _), ?_⟩⟩
      -- behind the tests
      have main : ∀ (t : Bool) (M4 : Store) (H4 : Hp), Step ι2 H3 ι2 H4 → SR K ι2 H4 M4 → Wp K RX (fun cls d H' => W0 cls d σ2 H') ι1 H1
          (fun o M5 _ _ => Wp K RX (fun cls d H' => W cls d σ H') ι1 H1 (Pf acc) ((lcW w' blk (xs.drop (i + 1)) M5).bind fun ys M2 => match o with
            | some y => .ok (y :: ys) M2
            | none => .ok ys M2)) (if t = true then ((ev c elt ρ1 M4).gc M4.length).bind fun y M5 => .ok (some y) M5 else .ok none M4) →
          if t = true then tE K RX W0 c elt σ2 H4 fun y H5 => ∃ acc', H5 A = some (.lst acc') ∧ acc'.length < sizeLine ∧ Pv (i + 1) (upd H5 A (.lst (acc' ++ [y]))) else Pv (i + 1) H4 := by
        intro t M4 H4 st4 s4 h4
        have hA4 : H4 A = some (.lst accV) := st4.out A _ hA3 hn
        have ra4 := ra3.step st4
        have st14 := st23.trans st4
        cases t with
        | false =>
          simp only [Bool.false_eq_true, if_false] at h4 ⊢
          rw [← hInv]
          refine ⟨M4, ι2, acc, accV, st14, s4, hA4, ra4, hn, by omega, ?_⟩
          have h5 := h4 ι2 H4 st14 s4
          have e : (lcW w' blk (xs.drop (i + 1)) M4).bind (fun ys M2 => (Res.ok ys M2 : Res (List D))) = lcW w' blk (xs.drop (i + 1)) M4 := by
            cases lcW w' blk (xs.drop (i + 1)) M4 <;> rfl
          rw [← e]
          exact h5
        | true =>
          simp only [if_true] at h4 ⊢
          have h4' : Wp K RX (fun cls d H' => W0 cls d σ2 H') ι2 H4 _ ((ev c elt ρ1 M4).gc M4.length) := (h4.step st14).bind0
          refine ⟨ρ1, M4, ι2, re4.step st4, s4, (h4'.gc s4 (kp_ev kc elt ρ1 M4)).mono fun d M5 ι5 H5 e5 st5 s5 h5 v rv => ?_⟩
          obtain ⟨ι6, d6, M6, st6, s6, r6, h6⟩ := h5 v rv
          have h6 := h6 ι6 H5 st6 s6
          simp only at h6
          have hA5 : H5 A = some (.lst accV) := st6.out A _ hA4 hn
          have hn6 : A ∉ ι6.drop 1 := fun hm => by
            obtain ⟨t, rfl, ht⟩ := st6.ext
            rw [List.drop_append] at hm
            rcases List.mem_append.mp hm with z | z
            · exact hn z
            · have := ht A (List.mem_of_mem_drop z); rw [hA4] at this; cases this
          have ra6 := ra4.step st6
          have st16 := st14.trans st6
          refine ⟨accV, hA5, by rw [← ra.length, ← lim_eq]; omega, ?_⟩
          rw [← hInv]
          refine ⟨M6, ι6, acc ++ [d6], accV ++ [v], stD st16, s6.aside hA5 hn6, upd_same, (ra6.append (RelDs.one r6)).aside hA5, hn6, by simp; omega, ?_⟩
          refine h6.bind0.mono fun ys M7 ι7 H7 _ st7 s7 h7 => ?_
          have h8 := h7 ι7 H7 st7 s7
          rw [← hPf] at h8 ⊢
          simp only [List.append_assoc, List.singleton_append] at h8 ⊢
          exact h8
      cases ifs with
      | nil =>
        simp only [evt, Res.bind] at h3
        exact main true M2 H3 .refl s3 h3.unX
      | cons f fs =>
        have : fs = [] := by
          cases fs with
          | nil => rfl
          | cons a b => simp at hi
        subst this
        have hev : evt c [f] ρ1 M2 = ((ev c f ρ1 M2).bind truthR).bind fun t M1 => .ok t (M1.take M2.length) := by
          simp only [evt]
          cases (ev c f ρ1 M2).bind truthR with
          | ok t M1 => cases t <;> rfl
          | exc x M1 => rfl
          | bad => rfl
        rw [hev, Res.bind_assoc] at h3
        have h4 := (h3.unX (Ex' := fun cls d H' => W0 cls d σ2 H')).bind0.step st23
        refine ⟨ρ1, M2, ι2, re4, s3, h4.mono fun t M4 ι4 H4 e4 st4 s4 h5 => ?_⟩
        have kp : Kp M2 ((ev c f ρ1 M2).bind truthR) := Kp.bind (kp_ev kc f ρ1 M2) fun x M1 _ => kp_truth
        rw [e4] at kp
        obtain ⟨c1, c2⟩ := cut_here s3 st4 s4 kp
        exact main t _ H4 c1 c2 h5
  · -- the end
    subst hInv
    rintro H2 ⟨M2, ι2, acc, accV, st2, s2, hAv, ra, hn, hl, h2⟩
    have e : xs.drop xs.length = [] := List.drop_length
    have h2 : Wp K RX (fun cls d H' => W cls d σ H') ι1 H1 (Pf acc) (lcW w' blk (xs.drop xs.length) M2) := h2
    rw [e] at h2
    unfold lcW at h2
    split at h2
    · have h3 := h2 ι2 H2 st2 s2
      rw [← hPf] at h3
      simp only [List.append_nil] at h3
      obtain ⟨t, ht1, ht2⟩ := st2.ext
      have sp := s2.push (D := A) hn (o := .lst acc) rfl ⟨accV, hAv, ra.mono (fun k x e => by rw [List.getElem?_append_left (List.getElem?_eq_some_iff.mp e).1]; exact e) (fun _ _ z => z) fun _ _ _ z => z⟩
      refine h3 (ι2 ++ [A]) H2 ⟨⟨t ++ [A], by rw [ht1]; simp, fun p hp => ?_⟩, st2.imm, st2.out, st2.dom⟩ sp (.ref A) ?_
      · rcases List.mem_append.mp hp with z | z
        · exact ht2 p z
        · cases List.mem_singleton.mp z; exact hA
      · simp only [RelD]
        exact ⟨A, rfl, by rw [List.getElem?_append_right (by rw [s2.len]; omega), s2.len]; simp⟩
    · exact h2.elim
end
end Sk
end
section
set_option Elab.async false
set_option linter.all false
set_option autoImplicit false
set_option maxRecDepth 100000
/-! SkD5: statements. -/
namespace Sk
open PySem PySem.Spec PyProof.Rows L2

section
variable (K : PySem.W.Frag) (RX : Exc → Value → Option Addr → Hp → Prop) (W : WX)
/-- what is wanted behind a statement -/
def WpO (ι : List Addr) (H : Hp) (D : Ends) : Out → Prop
  | .nx ρ M => ∀ ι' H' σ', Step ι H ι' H' → SR K ι' H' M → REnv K ι' H' ρ σ' → D.nx σ' H'
  | .rt d M => ∀ ι' H' v, Step ι H ι' H' → SR K ι' H' M → RelD K ι' H' d v → D.rt v H'
  | .bk ρ M => ∀ ι' H' σ', Step ι H ι' H' → SR K ι' H' M → REnv K ι' H' ρ σ' → D.bk σ' H'
  | .ct ρ M => ∀ ι' H' σ', Step ι H ι' H' → SR K ι' H' M → REnv K ι' H' ρ σ' → D.ct σ' H'
  | .exc x ρ M => ∀ ι' H' σ' cls d, Step ι H ι' H' → SR K ι' H' M → REnv K ι' H' ρ σ' → RX x cls d H' → W cls d σ' H'
  | .bad => False
variable (c : Cx)
def tS (s : S) : TS := fun D σ H => ∃ ρ M ι, REnv K ι H ρ σ ∧ SR K ι H M ∧ WpO K RX W ι H D (ex c s ρ M)
def tSs (ss : List S) : TS := fun D σ H => ∃ ρ M ι, REnv K ι H ρ σ ∧ SR K ι H M ∧ WpO K RX W ι H D (exs c ss ρ M)
end
section
variable {K : PySem.W.Frag} {RX : Exc → Value → Option Addr → Hp → Prop} {W : WX} {ι ι' : List Addr} {H H' : Hp} {ρ : Env} {σ : L2.St} {M : Store} {D D' : Ends}
theorem WpO.step {o : Out} (h : WpO K RX W ι H D o) (st : Step ι H ι' H') : WpO K RX W ι' H' D o := by
  cases o with
  | nx ρ M => exact fun ι2 H2 σ' s2 => h ι2 H2 σ' (st.trans s2)
  | rt d M => exact fun ι2 H2 v s2 => h ι2 H2 v (st.trans s2)
  | bk ρ M => exact fun ι2 H2 σ' s2 => h ι2 H2 σ' (st.trans s2)
  | ct ρ M => exact fun ι2 H2 σ' s2 => h ι2 H2 σ' (st.trans s2)
  | exc x ρ M => exact fun ι2 H2 σ' cls d s2 => h ι2 H2 σ' cls d (st.trans s2)
  | bad => exact h
theorem WpO.out {r : Res Sk.D} {f : Sk.D → Store → Out} (h : WpO K RX W ι H D (r.out ρ f)) (re : REnv K ι H ρ σ) : Wp K RX (fun cls d H' => W cls d σ H') ι H (fun d M1 _ _ => WpO K RX W ι H D (f d M1)) r := by
  cases r with
  | ok d M1 => exact fun _ _ _ _ => h
  | exc x M1 => exact fun ι2 H2 cls d st s2 rx => h ι2 H2 σ cls d st s2 (re.step st) rx
  | bad => exact h
theorem WpO.outB {r : Res Bool} {f : Bool → Store → Out} (h : WpO K RX W ι H D (r.outB ρ f)) (re : REnv K ι H ρ σ) : Wp K RX (fun cls d H' => W cls d σ H') ι H (fun d M1 _ _ => WpO K RX W ι H D (f d M1)) r := by
  cases r with
  | ok d M1 => exact fun _ _ _ _ => h
  | exc x M1 => exact fun ι2 H2 cls d st s2 rx => h ι2 H2 σ cls d st s2 (re.step st) rx
  | bad => exact h
end
/-- no comprehension -/
def nlc : Expr → Bool
  | .ListComp _ _ _ _ => false
  | .SetComp _ _ _ _ => false
  | .DictComp _ _ _ _ _ => false
  | _ => true
/-- no slice -/
def nsl : Expr → Bool
  | .Slice _ _ _ _ => false
  | _ => true
theorem sole_nlc {e t : Expr} {l : Nat} {env : PySem.Env} (h : nlc e = true) : swapsWithSole [t] e l env = pure false := by
  unfold swapsWithSole
  cases e <;> first | rfl | cases h
theorem putD_below {n b : Nat} {k x : D} {M M' : Store} (h : putD n k x M = some M') (hb : Below b M) (hx : x.under b) : Below b M' := by
  have set : ∀ {o o' : O}, M[n]? = some o → (o.under b → o'.under b) → Below b (M.set n o') := fun {o o'} e f i q hi e' => by
    by_cases z : n = i
    · subst z
      rw [List.getElem?_set_self (List.getElem?_eq_some_iff.mp e).1] at e'
      cases e'
      exact f (hb n o hi e)
    · rw [List.getElem?_set_ne z] at e'
      exact hb i q hi e'
  unfold putD at h
  split at h
  · rename_i e
    split at h
    · split at h
      · cases h
        refine set e fun h => D.unders_mem.mpr fun y hy => ?_
        rcases List.mem_or_eq_of_mem_set hy with hy | rfl
        · exact D.unders_mem.mp (show D.unders b _ from h) y hy
        · exact hx
      · cases h
    · cases h
  · rename_i e
    split at h
    · split at h
      · cases h
        refine set e fun h => ?_
        intro p hp
        rcases putK_mem hp with hy | hy
        · rw [hy]; exact hx
        · exact h p hy
      · cases h
    · cases h
  · cases h
theorem sw_nlc {e : Expr} {t : Option Expr} {l : Nat} {env : PySem.Env} (h : nlc e = true) : swapsWith e t l env = pure false := by
  cases e <;> first | rfl | cases h
/-- no display -/
def ntl : Expr → Bool
  | .Tuple _ _ _ => false
  | .List _ _ => false
  | _ => true
section
variable {X : L2.Cx} {RX : Exc → Value → Option Addr → Hp → Prop} {W : WX} {c : Cx} {e a o : Expr} {ee ea eo : E} {pos p apos cpos : Pos}
theorem sset_read {te : PE X e (tE X.K RX W c ee)} {i : Nat} (kc : CK c) (D : Ends) (σ : L2.St) (H : Hp) (h : tS X.K RX W c (.set i ee) D σ H) : tAsg (tE X.K RX W c ee) (gName i) D σ H := by
  obtain ⟨ρ, M, ι, re, sr, h⟩ := h
  unfold ex evg at h
  refine ⟨ρ, M, ι, re, sr, ((h.out re).gc sr (kp_ev kc ee ρ M)).mono fun d M1 ι1 H1 _ st s1 h2 v rv => ?_⟩
  obtain ⟨ι2, d2, M2, st2, s2, r2, h3⟩ := h2 v rv
  exact h3 ι2 H1 _ st2 s2 ((re.step st2).set r2)
theorem ss_set {i : Nat} {x : Str} (kc : CK c) (hN : X.N.Nodup) (n : NameAt X i x) (he : PE X e (tE X.K RX W c ee)) (hl : nlc e = true) : PS X (.Assign [.Name x p] e pos) (tS X.K RX W c (.set i ee)) :=
  L2PS.weak (ps_set hN n.ix n.loc he (sw_nlc hl) n.fn) (sset_read (te := he) kc)
theorem ss_unp {is : List Nat} {k : Nat} {ts : List Expr} (kc : CK c) (he : PE X e (tE X.K RX W c ee)) (hg : PG X (.Tuple ts k p) (tG X.K (.many is))) (hl : nlc e = true) (ht : ntl e = true) : PS X (.Assign [.Tuple ts k p] e pos) (tS X.K RX W c (.unp is ee)) :=
  L2PS.weak (ps_asg he hg (sole_nlc hl) (by cases e <;> first | rfl | cases ht) rfl) fun D σ H ⟨ρ, M, ι, re, sr, h⟩ => by
    unfold ex evg at h
    refine ⟨ρ, M, ι, re, sr, ((h.out re).gc sr (kp_ev kc ee ρ M)).mono fun d M1 ι1 H1 _ st s1 h2 v rv => ?_⟩
    obtain ⟨ι2, d2, M2, st2, s2, r2, h3⟩ := h2 v rv
    split at h3
    · rename_i ρ1 e1
      exact ⟨ρ, ι2, d2, ρ1, re.step st2, r2, ⟨M2, e1⟩, fun σ' re' _ => h3 ι2 H1 σ' st2 s2 re'⟩
    · exact h3.elim
/-- o[k] = x, by data -/
def rPut (K : PySem.W.Frag) : TSet := fun o i v H Q => ∃ ι M n k x M', SR K ι H M ∧ RelD K ι H (.ref n) o ∧ RelD K ι H k i ∧ RelD K ι H x v ∧ putD n k x M = some M' ∧ ∀ H', Step ι H ι H' → SR K ι H' M' → Q H'
theorem putK_rel {K : PySem.W.Frag} {ι : List Addr} {H : Hp} {κ : Type} [DecidableEq κ] {kvs : List (κ × D)} {kv : List (κ × V)} {k : κ} {x : D} {v : V} (h : RelKV K ι H kvs kv) (r : RelD K ι H x v) : RelKV K ι H (putK kvs k x) (L2.putK kv k v) := by
  have hm : RelKV K ι H (kvs.map fun p => if p.1 = k then (k, x) else p) (kv.map fun q => if q.1 = k then (q.1, v) else q) := by
    induction h with
    | nil => exact .nil
    | @cons a b l s q t ih =>
      refine .cons ?_ ih
      dsimp only
      by_cases e : a.1 = k
      · rw [if_pos e, if_pos (q.1 ▸ e)]
        exact ⟨(q.1 ▸ e : b.1 = k).symm, r⟩
      · rw [if_neg e, if_neg (q.1 ▸ e)]
        exact q
  obtain ⟨g1, g2⟩ := getK_val k h
  unfold putK L2.putK
  rw [valV_any]
  cases e : getK kvs k with
  | some d =>
    obtain ⟨w, hw, _⟩ := g1 d e
    rw [hw]
    exact hm
  | none =>
    rw [g2 e]
    simp only [Option.isSome_none, Bool.false_eq_true, if_false]
    clear hm g1 g2 e
    induction h with
    | nil => exact .cons ⟨rfl, r⟩ .nil
    | cons q t ih => exact .cons q ih
theorem set_all (hu : Rm X) : PSet X (rPut X.K) := by
  intro pins s σ H o i v ov iv u Q I ro ri rv h
  obtain ⟨ι, M, n, k, x, M', S, r1, r2, r3, e, h⟩ := h
  unfold Rm at hu
  unfold putD at e
  split at e
  · rename_i xs e1
    split at e
    · rename_i q
      split at e
      · rename_i j e2
        cases e
        obtain ⟨pp, rfl, hp, vs, hH, hr⟩ := S.ref e1 r1
        cases relD_int r2
        obtain ⟨st, s2⟩ := S.wr e1 hp (hr.set j r3)
        exact set_list pins s σ H _ _ v ov iv u Q I ro ri rv ⟨pp, vs, q, j, rfl, rfl, hH, by rw [← hr.length, ← ixN_eq]; exact e2, h _ st s2⟩
      · cases e
    · cases e
  · rename_i kvs e1
    split at e
    · rename_i q e2
      split at e
      · rename_i hlim
        cases e
        obtain ⟨pp, rfl, hp, kv, hH, hr⟩ := S.ref e1 r1
        have hk := kD_kV e2 r2
        subst hk
        cases (show ov = Value.ref pp from ro)
        have st : Step ι H ι (upd H pp (.dK (L2.putK kv q v))) := Step.write S e1 rfl hp
        have s2 : SR X.K ι (upd H pp (.dK (L2.putK kv q v))) (M.set n (.dk (putK kvs q x))) := SR.write S e1 rfl hp ⟨_, upd_same, (putK_rel hr r3).step st⟩ rfl
        have hl : kv.length = kvs.length := by
          have := kvs_keys hr
          have := congrArg List.length this
          simpa using this
        exact d_setItem (by omega) I (DPut.k hH (by rw [hl, ← lim_eq]; exact hlim)) ri rv fun s' I' => ⟨_, I', h _ st s2⟩
      · cases e
    · cases e
  · cases e
theorem ss_put {b : Expr} {eb : E} {p2 : Pos} (kc : CK c) (hu : Rm X) (he : PE X e (tE X.K RX W c ee)) (ho : PE X o (tE X.K RX W c eo)) (hi : PE X b (tE X.K RX W c eb)) (hb : nsl b = true) (hl : nlc e = true) : PS X (.Assign [.Subscript o b p2] e pos) (tS X.K RX W c (.put ee eo eb)) :=
  L2PS.weak (ps_asg he (pg_sub ho hi (set_all hu) (by intro v; cases b <;> first | rfl | cases hb)) (sole_nlc hl) (by cases e <;> rfl) rfl) fun D σ H ⟨ρ, M, ι, re, sr, h⟩ => by
    unfold ex evg at h
    refine ⟨ρ, M, ι, re, sr, ((h.out re).gc sr (kp_ev kc ee ρ M)).mono fun d M1 ι1 H1 _ st s1 h2 v rv => ?_⟩
    obtain ⟨ι2, d2, M2, st2, s2, r2, h3⟩ := h2 v rv
    have re2 := re.step st2
    refine ⟨ρ, M2, ι2, re2, s2, ((h3.step st2).out re2).mono fun a M3 ι3 H3 e3 st3 s3 h4 w rw' => ?_⟩
    have re3 := re2.step st3
    refine ⟨ρ, M3, ι3, re3, s3, ((h4.out re2).step st3).mono fun k M4 ι4 H4 e4 st4 s4 h5 z rz => ?_⟩
    split at h5
    · rename_i n
      split at h5
      · split at h5
        · rename_i M5 e5
          refine ⟨ι4, M4, n, k, d2, M5, s4, rw'.step st4, rz, r2.step (st3.trans st4), e5, fun H5 st5 s5 => ?_⟩
          have k1 := kp_ev kc eo ρ M2
          rw [e3] at k1
          have k2 := kp_ev kc eb ρ M3
          rw [e4] at k2
          have stA := (st3.trans st4).trans st5
          obtain ⟨q1, q2⟩ := stA.same s2.len
          have b4 : Below M2.length M4 := (k1.trans k2).bel _ (Nat.le_refl _) s2.belowAll
          have b5 : Below M2.length M5 := putD_below e5 b4 (by rw [← s2.len]; exact r2.under)
          have s6 := s5.cut b5 s2.pos
          rw [q1] at s6
          exact h5 ι2 H5 σ q2 s6 (re2.step q2)
        · exact h5.elim
      · exact h5.elim
    · exact h5.elim
theorem mt_appS : MtR X "list.append" rAppend := mt_append
theorem ss_app {es : List Expr} (kc : CK c) (ho : PE X o (tE X.K RX W c eo)) (he : PE X e (tE X.K RX W c ee)) (hp : plainO o = true) (hn : nst e = true) (hline : (apos.endLine == cpos.line) = true) :
    PS X (.Expr (.Call (.Attribute o "append" apos) [e] [] cpos) pos) (tS X.K RX W c (.app eo ee)) :=
  L2PS.weak (ps_expr (pe_bm PySem.F.plainAttrs_list PySem.F.slot_list_append PySem.F.type_list_append mt_appS ho (pa_cons he pa_nil (star1 hn)) (base_plain hp) (by
      rw [back_all (es := [e]) (by simp [hn])]; rfl) hline (star1 hn) (back_plain rfl))) fun D σ H ⟨ρ, M, ι, re, sr, h⟩ => by
    unfold ex evg at h
    refine ⟨ρ, M, ι, re, sr, (h.out re).mono fun a M1 ι1 H1 e1 st1 s1 h1 v rv => ?_⟩
    have re1 := re.step st1
    split at h1
    rotate_left
    · exact h1.elim
    rename_i hty
    refine ⟨tyM_lst s1 rv hty.1, ρ, M1, ι1, re1, s1, (((h1.step st1).out re1).gc s1 (kp_ev kc ee ρ M1)).mono fun d M2 ι2 H2 e2 st2 s2 h2 u ru => ?_⟩
    obtain ⟨ι3, d3, M3, st3, s3, r3, h3⟩ := h2 u ru
    split at h3
    · rename_i n
      split at h3
      · rename_i xs e4
        split at h3
        · rename_i hl
          obtain ⟨p, rfl, hp3, vs, hH, hr⟩ := s3.ref e4 (rv.step st3)
          obtain ⟨st5, s5⟩ := s3.wr e4 hp3 (hr.append (RelDs.one r3))
          refine ⟨p, vs, u, rfl, rfl, hH, by rw [← hr.length, ← lim_eq]; exact hl.1, ?_⟩
          exact h3 ι3 _ σ (st3.trans st5) s5 (re1.step (st3.trans st5))
        · exact h3.elim
      · exact h3.elim
    · exact h3.elim
theorem ss_ext (kc : CK c) (ho : PE X o (tE X.K RX W c eo)) (he : PE X e (tE X.K RX W c ee)) (hp : plainO o = true) (hn : nst e = true) (hline : (apos.endLine == cpos.line) = true) :
    PS X (.Expr (.Call (.Attribute o "extend" apos) [e] [] cpos) pos) (tS X.K RX W c (.ext eo ee)) :=
  L2PS.weak (ps_expr (pe_bm PySem.F.plainAttrs_list PySem.F.slot_list_extend PySem.F.type_list_extend (show MtR X "list.extend" rExtend from mt_extend) ho (pa_cons he pa_nil (star1 hn)) (base_plain hp) (by
      rw [back_all (es := [e]) (by simp [hn])]; rfl) hline (star1 hn) (back_plain rfl))) fun D σ H ⟨ρ, M, ι, re, sr, h⟩ => by
    unfold ex at h
    refine ⟨ρ, M, ι, re, sr, (h.out re).mono fun a M1 ι1 H1 e1 st1 s1 h1 v rv => ?_⟩
    have re1 := re.step st1
    split at h1
    rotate_left
    · exact h1.elim
    rename_i hty
    refine ⟨tyM_lst s1 rv hty, ρ, M1, ι1, re1, s1, ((h1.out re).step st1).mono fun d M2 ι2 H2 e2 st2 s2 h3 u ru => ?_⟩
    have k1 := kp_ev kc eo ρ M
    rw [e1] at k1
    have k2 := kp_ev kc ee ρ M1
    rw [e2] at k2
    split at h3
    · rename_i n m
      split at h3
      · rename_i xs ys e4 e5
        split at h3
        · rename_i hl
          obtain ⟨p, rfl, hp3, vs, hH, hr⟩ := s2.ref e4 (rv.step st2)
          obtain ⟨q, rfl, hq3, ws, hB, hs⟩ := s2.ref e5 ru
          obtain ⟨st5, s5⟩ := s2.wr e4 hp3 (hr.append hs)
          refine ⟨p, q, vs, ws, rfl, rfl, hH, hB, by rw [← hr.length, ← hs.length, ← lim_eq]; exact hl.1, ?_⟩
          have stA := (st1.trans st2).trans st5
          obtain ⟨q1, q2⟩ := stA.same sr.len
          have b2 : Below M.length M2 := (k1.trans k2).bel _ (Nat.le_refl _) sr.belowAll
          have b5 : Below M.length (M2.set n (.lst (xs ++ ys))) := fun i o hi e' => by
            by_cases z : n = i
            · subst z
              rw [List.getElem?_set_self (List.getElem?_eq_some_iff.mp e4).1] at e'
              cases e'
              refine Sk.D.unders_mem.mpr fun y hy => ?_
              rcases List.mem_append.mp hy with hy | hy
              · exact Sk.D.unders_mem.mp (show Sk.D.unders _ _ from b2 n _ hi e4) y hy
              · exact Sk.D.pure_under (Sk.D.pures_mem.mp hl.2.1 y hy)
            · rw [List.getElem?_set_ne z] at e'
              exact b2 i o hi e'
          have s6 := s5.cut b5 sr.pos
          rw [q1] at s6
          exact h3 ι _ σ q2 s6 (re.step q2)
        · exact h3.elim
      · exact h3.elim
    · exact h3.elim
theorem ss_rev (kc : CK c) (ho : PE X o (tE X.K RX W c eo)) (hp : plainO o = true) (hline : (apos.endLine == cpos.line) = true) :
    PS X (.Expr (.Call (.Attribute o "reverse" apos) [] [] cpos) pos) (tS X.K RX W c (.rev eo)) :=
  L2PS.weak (ps_expr (pe_bm0 PySem.F.plainAttrs_list PySem.F.slot_list_reverse PySem.F.type_list_reverse (show MtR X "list.reverse" rReverse from mt_reverse) ho (base_plain hp) hline)) fun D σ H ⟨ρ, M, ι, re, sr, h⟩ => by
    unfold ex at h
    refine ⟨ρ, M, ι, re, sr, (h.out re).mono fun a M1 ι1 H1 e1 st1 s1 h1 v rv => ?_⟩
    split at h1
    · rename_i n
      split at h1
      · rename_i xs e4
        obtain ⟨p, rfl, hp3, vs, hH, hr⟩ := s1.ref e4 rv
        obtain ⟨st5, s5⟩ := s1.wr e4 hp3 hr.reverse
        exact ⟨.inl ⟨rfl, vs, .inl (.inl hH)⟩, p, vs, rfl, rfl, hH, h1 ι1 _ σ (st1.trans st5) s5 (re.step (st1.trans st5))⟩
      · exact h1.elim
    · exact h1.elim
theorem ss_exp (kc : CK c) (he : PE X e (tE X.K RX W c ee)) (hl : nlc e = true) : PS X (.Expr e pos) (tS X.K RX W c (.exp ee)) :=
  L2PS.weak (ps_expr he (sw_nlc hl)) fun D σ H ⟨ρ, M, ι, re, sr, h⟩ => by
    unfold ex evg at h
    refine ⟨ρ, M, ι, re, sr, ((h.out re).gc sr (kp_ev kc ee ρ M)).mono fun d M1 ι1 H1 _ st s1 h2 v rv => ?_⟩
    obtain ⟨ι2, d2, M2, st2, s2, r2, h3⟩ := h2 v rv
    exact h3 ι2 H1 σ st2 s2 (re.step st2)
theorem ss_ret (kc : CK c) (he : PE X e (tE X.K RX W c ee)) : PS X (.Return (some e) pos) (tS X.K RX W c (.ret ee)) :=
  L2PS.weak (ps_ret he) fun D σ H ⟨ρ, M, ι, re, sr, h⟩ => by
    unfold ex evg at h
    refine ⟨ρ, M, ι, re, sr, ((h.out re).gc sr (kp_ev kc ee ρ M)).mono fun d M1 ι1 H1 _ st s1 h2 v rv => ?_⟩
    obtain ⟨ι2, d2, M2, st2, s2, r2, h3⟩ := h2 v rv
    exact h3 ι2 H1 v st2 s2 r2
theorem ss_retN : PS X (.Return none pos) (tS X.K RX W c .retN) :=
  L2PS.weak ps_retN fun D σ H ⟨ρ, M, ι, re, sr, h⟩ => by
    unfold ex at h
    exact h ι H .non .refl sr .nons
theorem ss_pass : PS X (.Pass pos) (tS X.K RX W c .pass) :=
  L2PS.weak ps_pass fun D σ H ⟨ρ, M, ι, re, sr, h⟩ => by
    unfold ex at h
    exact h ι H σ .refl sr re
theorem ss_brk : PS X (.Break pos) (tS X.K RX W c .brk) :=
  L2PS.weak ps_break fun D σ H ⟨ρ, M, ι, re, sr, h⟩ => by
    unfold ex at h
    exact h ι H σ .refl sr re
theorem ss_cnt : PS X (.Continue pos) (tS X.K RX W c .cnt) :=
  L2PS.weak ps_continue fun D σ H ⟨ρ, M, ι, re, sr, h⟩ => by
    unfold ex at h
    exact h ι H σ .refl sr re
theorem sss_nil : PSs X [] (tSs X.K RX W c []) :=
  L2PSs.weak pss_nil fun D σ H ⟨ρ, M, ι, re, sr, h⟩ => by
    unfold exs at h
    exact h ι H σ .refl sr re
theorem sss_cons {st : Stmt} {sts : List Stmt} {s : S} {ss : List S} (h1 : PS X st (tS X.K RX W c s)) (h2 : PSs X sts (tSs X.K RX W c ss)) : PSs X (st :: sts) (tSs X.K RX W c (s :: ss)) :=
  L2PSs.weak (pss_cons h1 h2) fun D σ H ⟨ρ, M, ι, re, sr, h⟩ => by
    unfold exs at h
    refine ⟨ρ, M, ι, re, sr, ?_⟩
    cases e : ex c s ρ M with
    | nx ρ1 M1 =>
      rw [e] at h
      exact fun ι' H' σ' st s1 re1 => ⟨ρ1, M1, ι', re1, s1, WpO.step h st⟩
    | rt d M1 => rw [e] at h; exact h
    | bk ρ1 M1 => rw [e] at h; exact h
    | ct ρ1 M1 => rw [e] at h; exact h
    | exc x ρ1 M1 => rw [e] at h; exact h
    | bad => rw [e] at h; exact h
theorem ss_iff {t : Expr} {et : E} {xs ys : List Stmt} {ss us : List S} (kc : CK c) (ht : PT X t (tT X.K RX W c et)) (ha : PSs X xs (tSs X.K RX W c ss)) (hb : PSs X ys (tSs X.K RX W c us)) : PS X (.If t xs ys pos) (tS X.K RX W c (.iff et ss us)) :=
  L2PS.weak (ps_if ht ha hb) fun D σ H ⟨ρ, M, ι, re, sr, h⟩ => by
    unfold ex at h
    refine ⟨ρ, M, ι, re, sr, ((h.outB re).evb kc sr).mono fun b M1 ι1 H1 _ st s1 h1 => ?_⟩
    obtain ⟨c1, c2, h2⟩ := h1
    have h3 := h2.step c1
    cases b with
    | true => exact ⟨ρ, _, ι, re.step c1, c2, h3⟩
    | false => exact ⟨ρ, _, ι, re.step c1, c2, h3⟩
/-- a body's end, the dead names forgotten -/
theorem WpO.kill {K : PySem.W.Frag} {ι : List Addr} {H : Hp} {D D' : Ends} {ks : List Nat} {o : Out} (h : WpO K RX W ι H D o)
    (n : ∀ ρ M ι' H' σ', o = .nx ρ M → Step ι H ι' H' → SR K ι' H' M → REnv K ι' H' ρ σ' → D.nx σ' H' → D'.nx σ' H') (b : ∀ σ' H', D.bk σ' H' → D'.bk σ' H')
    (cc : ∀ ρ M ι' H' σ', o = .ct ρ M → Step ι H ι' H' → SR K ι' H' M → REnv K ι' H' ρ σ' → D.ct σ' H' → D'.ct σ' H') (r : ∀ v H', D.rt v H' → D'.rt v H') : WpO K RX W ι H D' o := by
  cases o with
  | nx ρ M => exact fun ι' H' σ' st s1 re => n ρ M ι' H' σ' rfl st s1 re (h ι' H' σ' st s1 re)
  | rt d M => exact fun ι' H' v st s1 rv => r v H' (h ι' H' v st s1 rv)
  | bk ρ M => exact fun ι' H' σ' st s1 re => b σ' H' (h ι' H' σ' st s1 re)
  | ct ρ M => exact fun ι' H' σ' st s1 re => cc ρ M ι' H' σ' rfl st s1 re (h ι' H' σ' st s1 re)
  | exc x ρ M => exact h
  | bad => exact h
/-- THE FOR -/
theorem ss_for {t it : Expr} {body : List Stmt} {tg : Tg} {k : Ik} {its : List E} {ss : List S} {kill : List Nat} (kc : CK c) (hp : PassesOwn (model X.prog X.w) X.A X.env X.xe) (hc : X.calm = true) (hi : PI X t it (tI X.K RX W c k its)) (hg : PG X t (tG X.K tg)) (hb : PSs X body (tSs X.K RX W c ss))
    (hs : ∀ x, foldedSetIterable it X.env x = pure x) : PS X (.For t it body [] pos) (tS X.K RX W c (.for tg k its ss kill)) :=
  L2PS.weak (ps_for hp hc hi hg hb hs) fun D σ H ⟨ρ, M, ι, re, sr, h⟩ => by
    unfold ex at h
    refine ⟨ρ, M, ι, re, sr, ?_⟩
    cases ew : (evs c its ρ M).bind (walkG M.length k) with
    | bad => rw [ew] at h; exact h
    | exc x M1 =>
      rw [ew] at h
      have kp : Kp M ((evs c its ρ M).bind (walkG M.length k)) := by
        have h1 := kp_evs kc its ρ M
        cases q : evs c its ρ M with
        | ok ds M1 => rw [q] at h1; exact kp_walk h1 (Nat.le_refl _)
        | exc x M1 => rw [q] at h1; exact h1
        | bad => trivial
      rw [ew] at kp
      exact exc_cut sr kp fun ι' H' cls d st s1 rx => h ι' H' σ cls d st s1 (re.step st) rx
    | ok pp M1 =>
      obtain ⟨xs, w⟩ := pp
      rw [ew] at h
      simp only at h
      intro ι1 H1 st s1 J G Y wk hy hG
      generalize hbody : (fun (x : Sk.D) (ρ1 : Env) (M2 : Store) => match assignT M2 tg x ρ1 with
        | some ρ2 => (exs c ss ρ2 M2).kill kill
        | none => Out.bad) = bd at h
      refine for_it wk (fun i σ2 H2 => ∃ ρ2 M2 ι2, Step ι1 H1 ι2 H2 ∧ REnv X.K ι2 H2 ρ2 σ2 ∧ SR X.K ι2 H2 M2 ∧ WpO X.K RX W ι2 H2 D (forL (w.map fun i => (i, xs)) bd (xs.drop i) ρ2 M2)) ?_ ?_ ?_ ?_
      · exact ⟨_, M1, ι1, .refl, (re.step st).wipe kill, s1, by rw [List.drop_zero]; exact h.step st⟩
      · rintro i σ2 H2 hi' ⟨ρ2, M2, ι2, st2, re2, s2, h2⟩
        refine hG ι2 H2 M2 st2 s2 ?_
        show stands (w.map fun i => (i, xs)) M2
        cases e : xs.drop i with
        | nil =>
          rw [e] at h2
          unfold forL at h2
          split at h2
          · assumption
          · exact h2.elim
        | cons x r =>
          rw [e] at h2
          unfold forL at h2
          split at h2
          · assumption
          · exact h2.elim
      · rintro i x σ2 H2 H3 hix ⟨ρ2, M2, ι2, st2, re2, s2, h2⟩ hyx
        have hix : i < xs.length := hix
        rw [List.drop_eq_getElem_cons hix] at h2
        unfold forL at h2
        split at h2
        rotate_left
        · exact h2.elim
        rename_i hst
        obtain ⟨st3, s3, rx⟩ := hy i H2 x H3 ι2 M2 hix (hG ι2 H2 M2 st2 s2 hst) st2 s2 hst hyx
        have rx := rx _ (List.getElem?_eq_getElem hix)
        generalize xs[i] = dx at h2 rx
        have h3 := h2.step st3
        have eb : bd dx ρ2 M2 = match assignT M2 tg dx ρ2 with
          | some ρ2 => (exs c ss ρ2 M2).kill kill
          | none => Out.bad := by rw [← hbody]
        rw [eb] at h3
        cases ea : assignT M2 tg dx ρ2 with
        | none => rw [ea] at h3; exact h3.elim
        | some ρ3 =>
          rw [ea] at h3
          simp only at h3
          refine ⟨ρ2, ι2, dx, ρ3, re2.step st3, rx, ⟨M2, ea⟩, fun σ4 re4 _ => ⟨ρ3, M2, ι2, re4, s3, ?_⟩⟩
          have st23 := st2.trans st3
          cases eo : exs c ss ρ3 M2 with
          | bad => rw [eo] at h3; exact h3
          | nx ρ5 M5 => rw [eo] at h3; exact fun ι5 H5 σ5 st5 s5 re5 => ⟨_, M5, ι5, st23.trans st5, re5.wipe kill, s5, h3.step st5⟩
          | ct ρ5 M5 => rw [eo] at h3; exact fun ι5 H5 σ5 st5 s5 re5 => ⟨_, M5, ι5, st23.trans st5, re5.wipe kill, s5, h3.step st5⟩
          | bk ρ5 M5 => rw [eo] at h3; exact fun ι5 H5 σ5 st5 s5 re5 => h3 ι5 H5 σ5 st5 s5 (re5.wipe kill)
          | rt d M5 => rw [eo] at h3; exact h3
          | exc x ρ5 M5 => rw [eo] at h3; exact h3
      · rintro σ2 H2 ⟨ρ2, M2, ι2, st2, re2, s2, h2⟩
        have e : xs.drop xs.length = [] := List.drop_length
        have h2 : WpO X.K RX W ι2 H2 D (forL (w.map fun i => (i, xs)) bd (xs.drop xs.length) ρ2 M2) := h2
        rw [e] at h2
        unfold forL at h2
        split at h2
        · exact h2 ι2 H2 σ2 .refl s2 re2
        · exact h2.elim
/-- THE WHILE -/
theorem ss_while {t : Expr} {et : E} {body : List Stmt} {ss : List S} {kill : List Nat} (kc : CK c) (hp : PassesOwn (model X.prog X.w) X.A X.env X.xe) (ht : PT X t (tT X.K RX W c et)) (hb : PSs X body (tSs X.K RX W c ss)) : PS X (.While t body [] pos) (tS X.K RX W c (.while et ss kill)) :=
  L2PS.weak (ps_while hp ht hb) fun D σ H ⟨ρ, M, ι, re, sr, h⟩ => by
    unfold ex at h
    generalize hbody : (fun (ρ1 : Env) (M1 : Store) => (exs c ss ρ1 M1).kill kill) = bd at h
    unfold whileD at h
    split at h
    rotate_left
    · exact h.elim
    rename_i hex
    have hq := Classical.choose_spec (Classical.choose_spec hex)
    generalize Classical.choose (Classical.choose_spec hex) = o at h hq
    generalize Classical.choose hex = n at hq
    refine ⟨fun m σ2 H2 => ∃ ρ2 M2 ι2 o, REnv X.K ι2 H2 ρ2 σ2 ∧ SR X.K ι2 H2 M2 ∧ whileN (evb c et) bd m ρ2 M2 = some o ∧ WpO X.K RX W ι2 H2 D o, ⟨n, _, M, ι, o, re.wipe kill, sr, hq, h⟩, ?_⟩
    rintro m σ2 H2 ⟨ρ2, M2, ι2, o, re2, s2, hw, h2⟩
    cases m with
    | zero => cases hw
    | succ m =>
      unfold whileN at hw
      refine ⟨ρ2, M2, ι2, re2, s2, ?_⟩
      cases et' : evb c et ρ2 M2 with
      | bad =>
        rw [et'] at hw
        cases hw
        exact h2.elim
      | exc x M3 =>
        rw [et'] at hw
        cases hw
        have kp := Kp.bind (kp_ev kc et ρ2 M2) fun x M1 (_ : _ = _) => kp_truth (a := x) (M := M1)
        have e1 := et'
        unfold evb at e1
        cases q : (ev c et ρ2 M2).bind truthR with
        | ok b M4 => rw [q] at e1; cases e1
        | bad => rw [q] at e1; cases e1
        | exc y M4 =>
          rw [q] at e1 kp
          cases e1
          exact exc_cut s2 kp fun ι' H' cls d st s1 rx => h2 ι' H' σ2 cls d st s1 (re2.step st) rx
      | ok b M3 =>
        have h3 : Wp X.K RX (fun cls d H' => W cls d σ2 H') ι2 H2 (fun b' M' _ _ => b' = b ∧ M' = M3) (evb c et ρ2 M2) := by
          rw [et']
          exact fun _ _ _ _ => ⟨rfl, rfl⟩
        rw [et'] at hw
        simp only at hw
        refine (h3.evb kc s2).mono fun b' M4 ι4 H4 _ st4 s4 ⟨c1, c2, hb', hM⟩ => ?_
        subst hb'
        rw [hM] at c2
        cases b' with
        | false =>
          simp only [Bool.false_eq_true, if_false] at hw ⊢
          cases hw
          exact h2 ι2 H4 σ2 c1 c2 (re2.step c1)
        | true =>
          simp only [if_true] at hw ⊢
          have h4 := h2.step c1
          refine ⟨fun σ' H' => ∃ ρ2 M2 ι2 o, REnv X.K ι2 H' ρ2 σ' ∧ SR X.K ι2 H' M2 ∧ whileN (evb c et) bd m ρ2 M2 = some o ∧ WpO X.K RX W ι2 H' D o, fun σ' H' z => ⟨m, Nat.lt_succ_self m, z⟩, ρ2, M3, ι2, re2.step c1, c2, ?_⟩
          have eb : bd ρ2 M3 = (exs c ss ρ2 M3).kill kill := by rw [← hbody]
          rw [eb] at hw
          cases eo : exs c ss ρ2 M3 with
          | bad => rw [eo] at hw; cases hw; exact h4
          | nx ρ5 M5 => rw [eo] at hw; exact fun ι5 H5 σ5 st5 s5 re5 => ⟨_, M5, ι5, o, re5.wipe kill, s5, hw, h4.step st5⟩
          | ct ρ5 M5 => rw [eo] at hw; exact fun ι5 H5 σ5 st5 s5 re5 => ⟨_, M5, ι5, o, re5.wipe kill, s5, hw, h4.step st5⟩
          | bk ρ5 M5 => rw [eo] at hw; cases hw; exact fun ι5 H5 σ5 st5 s5 re5 => h4 ι5 H5 σ5 st5 s5 (re5.wipe kill)
          | rt d M5 => rw [eo] at hw; cases hw; exact h4
          | exc x ρ5 M5 => rw [eo] at hw; cases hw; exact h4
end
end Sk
end
section
set_option Elab.async false
set_option linter.all false
set_option autoImplicit false
set_option maxRecDepth 100000
set_option maxHeartbeats 4000000
/-! SkX1: an exception class whose __init__ says super().__init__('..'); sv.f = x. -/
namespace Sk
open PySem PySem.Spec PyProof.Rows L2
section
variable {P : Program} {w : World} {A : Around} {E : Value → Shared → Prop} {s : Shared} {h₀ : Heap} {L : Addr} {m mg mb : Str → Option Value} {news : List (Addr × Obj)} {K : PySem.W.Frag} {x C D f cc cda : Addr} {ox : Obj} {odx : Option Obj}
theorem sup_node {body : List Stmt} {q : Str} {scope : Scope} {p0 p1 : Pos} {attr : Str} {whole : Sem Value} {fd : FuncData} {ar : Arg} {vs : Array Value} {file : Str} {tf : Tok} {oc ccl cl : Value} {od cdd cld : Option Addr} {osl ccs csl : Array (Option Value)} {cdD : ClassData} {Q : Value → Shared → Prop}
    (F : PyProof.Rows.Fr h₀ L s.heap m) (X : K.In s.heap) (N : PyProof.Rows.News h₀ L s.heap news) (hg : s.heap.Ns mainGlobals mg) (hb : s.heap.Ns builtinsNs mb) (hbs : mb "super" = some (.type "super")) (hms : mg "super" = none)
    (hf : K.lookup f = some ⟨oc, od, .func fd, osl⟩) (hp : (fd.params.posonlyargs ++ fd.params.args).head? = some ar) (hv : m ar.arg = some (.ref x)) (I : PySem.W.InstAt s.heap x ox C odx)
    (hcode : K.lookup cda = some ⟨ccl, cdd, .fields vs, ccs⟩) (hvs : vs[2]? = some (.str file tf)) (hfile : ((P.main.file : Str) == file) = true)
    (hcell : K.lookup cc = some ⟨cl, cld, .cell (some (.ref D)), csl⟩) (hD : PySem.W.clsIn K D = some cdD) (hsub : PySem.W.mroIn K C (.ref D) = some true)
    (hat : (attr == ("__class__" : Str)) = false) (hks : scope.names.lookup ("super" : Str) = some .globalImplicit) (hkc : scope.names.lookup ("__class__" : Str) = some .free) (hka : scope.names.lookup ar.arg = some .local) (hk : scope.kind = .function)
    (htop : (P.main.scope.names.lookup ("super" : Str)).isSome = false)
    (h : ∀ so h', PyProof.Rows.Fr h₀ L h' m → PyProof.Rows.News h₀ L h' ((so, PySem.W.ks_superObj D x C) :: news) → (∀ p ∈ news, p.1 < so) → Q (.ref so) { s with heap := h' }) :
    PySem.wpAt (model P w) A (.func body (PySem.W.ksEnv q scope L f (.ref cda) cc)) (attributeBase (.Call (.Name "super" p0) [] [] p1) attr (PySem.W.ksEnv q scope L f (.ref cda) cc) whole) Q E s := by
  obtain ⟨hh, g, d, t, os⟩ := s
  obtain ⟨oD, hD1, hD2⟩ : ∃ oD, hh.get? D = some oD ∧ oD.data = .cls cdD := by
    unfold PySem.W.clsIn at hD
    split at hD
    · rename_i c d cd' sl ho
      cases hD
      exact ⟨_, X _ _ ho, rfl⟩
    · cases hD
  refine PySem.ks_wpAt_super_base (env := PySem.W.ksEnv q scope L f (.ref cda) cc) hks hkc hat rfl (X _ _ hf) rfl hp rfl (X _ _ hcode) rfl hvs hfile htop ?_
  refine PySem.W.ks_loadName_global hk hks (Calls.loadGlobal_builtin (env := PySem.W.ksEnv q scope L f (.ref cda) cc) hg hms hb hbs ⟨rfl, ?_⟩)
  refine wpAny_loadName_free hk hkc rfl ⟨_, X _ _ hcell, rfl⟩ ?_
  refine wpAny_loadName_local hk hka F.ns hv ?_
  refine PySem.ks_wpAny_isType_cls hD1 hD2 ⟨rfl, ?_⟩
  refine PySem.ks_wpAny_call_super hD1 hD2 I.at_ I.cls (fun c e => ?_) (PySem.W.looks_mroIn X hsub) (fun h' e k => ?_)
  · have := I.no
    unfold PySem.W.notCls at this
    rw [e] at this
    exact Bool.noConfusion this
  · obtain ⟨F', N', l'⟩ := PySem.W.ks_newsPush (s := ⟨hh, g, d, t, os⟩) F N rfl e k
    exact h _ _ F' N' l'
end
/-- o.name(..) at a known activation -/
theorem at_method {P : Program} {w : World} {A : Around} {c : Code} {E : Value → Shared → Prop} {s : Shared} {env : PySem.Env} {o : Expr} {name : Str} {apos pos : Pos} {args : List Expr} {Q : Value → Shared → Prop}
    (hform : methodCallForm (args.length + ([] : List Keyword).length) (backTo pos (starEach args env)) (backToKw pos (keywordEach [] env)) = true) (hline : (apos.endLine == pos.line) = true)
    (h : PySem.wpAt (model P w) A c (attributeBase o name env (eval o env)) (fun ov s₁ => ∀ pl, wpAny (model P w) A (getMethod ov name pl) (fun fx s₂ => wpAny (model P w) A (callWith pos fx.1 fx.2 (backTo pos (starEach args env)) []) Q E s₂) E s₁) E s) :
    PySem.wpAt (model P w) A c (eval (.Call (.Attribute o name apos) args [] pos) env) Q E s := by
  rw [arm_eval_Call]
  refine PySem.wpAt_bind (PySem.ks_wpAt_mono h (fun ov s₁ h₁ => wpAt_of_wpAny (wpAny_bind (wpAny_standAt ?_))) fun _ _ x => x)
  have hpos : methodCallPos true o env apos pos = pure pos := by unfold methodCallPos; simp [hline]
  unfold methodCall
  rw [hform]
  refine wpAny_bind (wpAny_holding (wpAny_mono (h₁ _) (fun fx s₂ h₂ => ?_) fun _ _ x => x))
  exact wpAny_bind (wpAny_of_eq hpos h₂)
/-- what such an __init__ does -/
def spI (C : Addr) (f : Str) : Sp := fun vs H Q _ => ∃ a v, vs = [.ref a, v] ∧ H a = some (exo a C none) ∧ ∀ d, H d = none → d ≠ a → Q .non (upd (upd H d (exd d [(f, v)])) a (exo a C (some d)))
/-- the facts -/
structure SupI (P : Program) (K : PySem.W.Frag) (mg : Str → Option Value) (C fI : Addr) (f sv x : Str) (fd : FuncData) : Prop where
  T : OexC K C
  ex : ∃ (nm qual : Str) (params : Arguments) (scope : Scope) (dV kV doc pm ct oc : Value) (an od : Option Addr) (osl : Array (Option Value)) (cc cda : Addr) (m : Str) (p0 p1 p2 p3 p4 p5 q0 q1 q2 q3 : Pos) (j : Nat) (vs : Array Value) (tf : Tok) (file : Str) (ccl cl : Value) (cdd cld : Option Addr) (ccs csl : Array (Option Value)) (ar : Arg),
    fd = PySem.W.ksFn nm qual params [.Expr (.Call (.Attribute (.Call (.Name "super" p0) [] [] p1) "__init__" p2) [.Constant (.str m) j p3] [] p4) p5, .Assign [.Attribute (.Name sv q0) f q1] (.Name x q2) q3] scope dV kV doc pm an (.ref cda) ct cc ∧
    K.lookup fI = some ⟨oc, od, .func fd, osl⟩ ∧ PySem.W.codeIn K (.ref cda) qual = true ∧ (params.posonlyargs ++ params.args).head? = some ar ∧ ar.arg = sv ∧
    K.lookup cda = some ⟨ccl, cdd, .fields vs, ccs⟩ ∧ vs[2]? = some (.str file tf) ∧ ((P.main.file : Str) == file) = true ∧ K.lookup cc = some ⟨cl, cld, .cell (some (.ref C)), csl⟩ ∧
    scope.names.lookup ("super" : Str) = some .globalImplicit ∧ scope.names.lookup ("__class__" : Str) = some .free ∧ scope.names.lookup sv = some .local ∧ scope.names.lookup x = some .local ∧ scope.kind = .function ∧
    (∀ y ∈ scope.names, y.2 ≠ .cell) ∧ scope.isCoroutine = false ∧ scope.isGenerator = false ∧ (p2.endLine == p4.line) = true
  ne : sv ≠ x
  top : (P.main.scope.names.lookup ("super" : Str)).isSome = false
  ms : mg "super" = none
  mro : PySem.W.mroIn K C (.ref C) = some true
  sup : PySem.W.ks_superIn K C C "__init__" = some (some (.builtin "ValueError.__init__"))
  sub : PySem.W.subIn K (.ref C) (.type "ValueError") = some true
  tp : PySem.W.nsIn K cStatics "thirdparty.any" = some none
  init : PySem.W.excInitIn K C [.type "ValueError", .type "Exception", .type "BaseException", .type "object"] "ValueError.__new__" = true
  no : PySem.W.findIn K (.ref C) f = some none
  dS : (sv == ("__debug__" : Str)) = false
  dX : (x == ("__debug__" : Str)) = false
theorem sup_fn {P : Program} {w : World} {K : PySem.W.Frag} {mg : Str → Option Value} {base : Heap} {C fI : Addr} {f sv x : Str} {fd : FuncData} (S : SupI P K mg C fI f sv x fd) {CX : CXT} : FnOk P w K mg base CX 1 fI fd [sv, x] (spI C f) := by
  refine ⟨fun vs H Q E ⟨a, v, e, _⟩ => by rw [e]; rfl, fun A outer s H args us vs Q E hr e0 hb r hsp => ?_⟩
  obtain ⟨a, v, rfl, ha, hq⟩ := hsp
  obtain ⟨nm, qual, params, scope, dV, kV, doc, pm, ct, oc, an, od, osl, cc, cda, m, p0, p1, p2, p3, p4, p5, q0, q1, q2, q3, j, vs', tf, file, ccl, cl, cdd, cld, ccs, csl, ar, hfd, lkF, hcd, hpar, rfl, hcode, hvs, hfile, hcell, hks, hkc, hka, hkx, hk, hncell, hco, hgen, hline⟩ := S.ex
  subst hfd
  obtain ⟨u0, u, rfl, ra, ru⟩ : ∃ u0 u, us = [u0, u] ∧ RelV (.ref a) u0 ∧ RelV v u := by
    cases r with
    | cons ra r =>
      cases r with
      | cons ru r => cases r; exact ⟨_, _, rfl, ra, ru⟩
  obtain rfl : u0 = Value.ref a := ra
  obtain ⟨t1, ho⟩ := exo_at e0.hok ha
  have KX : K.In s.heap := e0.mod.kin.keeps fun b o e => (e0.bs b o e).1
  have lim : s.heap.NoLimit := e0.mod.nolimit.keeps fun b o e => (e0.bs b o e).1
  obtain ⟨mb, hmb, hmb2⟩ := e0.mod.blt
  obtain ⟨nm2, qn, N, bs, bm, sn, sub, ab, col, dd, k0, k1, k2, k3, k5, hC, hbm⟩ := S.T.cls
  have hcl : PySem.W.clsIn K C = some { name := nm2, bases := bs, mro := .ref C :: bm, ns := N, qualname := qn, hasDict := true, slotNames := sn, subclasses := sub, abstract := ab, collection := col, hasDel := false } := by unfold PySem.W.clsIn; rw [hC] <;> rfl
  refine PySem.ks_codeAny_call_defAt (fd := PySem.W.ksFn nm qual params _ scope dV kV doc pm an (.ref cda) ct cc) (binds := [(ar.arg, .ref a), (x, u)]) hr.depth (KX _ _ lkF) rfl lim (PySem.W.codeRec_of KX hcd) rfl hb hncell (fun y hy => ?_) (fun h₁ hns hk₁ => ?_) hco hgen hk
  · simp only [List.mem_cons, List.not_mem_nil, or_false] at hy
    rcases hy with rfl | rfl
    · exact hka
    · exact hkx
  have mx : List.lookup x [(x, u), (ar.arg, Value.ref a)] = some u := by rw [List.lookup_cons, beq_self_eq_true]
  have ms : List.lookup ar.arg [(x, u), (ar.arg, Value.ref a)] = some (.ref a) := by
    have e : (ar.arg == x) = false := by rw [beq_eq_false_iff_ne]; exact S.ne
    rw [List.lookup_cons, e, List.lookup_cons, beq_self_eq_true]
  have hah : ∀ b o, (PySem.W.hideAll s.heap [a]).get? b = some o → s.heap.get? b = some o := fun b o e => PySem.W.of_hideAll _ e
  have lt_a : a < s.heap.objs.size := Heap.lt_size ho
  have F0 : PyProof.Rows.Fr (PySem.W.hideAll s.heap [a]) s.heap.objs.size h₁ (fun y => List.lookup y [(x, u), (ar.arg, Value.ref a)]) := ⟨hns, fun b o e => hk₁ b o (hah b o e), by rw [PySem.W.hideAll_size]; exact Nat.le_refl _⟩
  have N0 : PyProof.Rows.News (PySem.W.hideAll s.heap [a]) s.heap.objs.size h₁ [(a, PySem.W.excObj C t1 none .none)] := fun p hp => by
    obtain rfl := List.mem_singleton.mp hp
    exact ⟨hk₁ _ _ ho, Nat.ne_of_lt lt_a, PySem.W.hideAll_none _ List.mem_cons_self⟩
  have bn : ∀ b o, base.get? b = some o → b ≠ a := fun b o e z => by
    have := (e0.bs b o e).2
    rw [z, ha] at this
    cases this
  have KH : K.In (PySem.W.hideAll s.heap [a]) := fun b o e => by
    have e1 := e0.mod.kin b o e
    exact PySem.W.hideAll_get _ (e0.bs b o e1).1 (by simp; exact bn b o e1)
  have keepB : ∀ b o, base.get? b = some o → (PySem.W.hideAll s.heap [a]).get? b = some o := fun b o e => PySem.W.hideAll_get _ (e0.bs b o e).1 (by simp; exact bn b o e)
  refine PySem.ks_wpAt_execs_cons ?_
  refine PySem.ks_wpAt_Expr_any (at_method rfl hline ?_) (by unfold interactive; rw [show (callEnv (PySem.W.ksFn nm qual params _ scope dV kV doc pm an (.ref cda) ct cc) s.heap.objs.size fI).scope = scope from rfl, hk]; rfl)
  refine sup_node (K := K) (mg := mg) (mb := mb) F0 (KH.keeps F0.keep) N0 ((e0.mod.glob.keeps keepB).keeps F0.keep) ((hmb.keeps keepB).keeps F0.keep) (by rw [hmb2 _ (by decide +kernel)]; decide +kernel) S.ms lkF hpar ms (PySem.W.InstAt.of_exc0 N0 List.mem_cons_self) hcode hvs hfile hcell hcl S.mro (by decide +kernel) hks hkc hka hk S.top fun so h2 F2 N2 l2 pl => ?_
  refine PySem.W.kxs_method PySem.W.kxs_ValueError F2 KH N2 List.mem_cons_self (PySem.W.InstAt.of_exc0 N2 (List.mem_cons_of_mem _ List.mem_cons_self)) S.tp S.sup S.sub (by decide +kernel) fun mw h3 F3 N3 l3 => ?_
  refine PySem.W.kxs_callWith1 N3 List.mem_cons_self ?_
  refine PyProof.Rows.spliced_more (Calls.Constant_str (PyProof.Rows.spliced_none ⟨PySem.W.kxs_at N3 List.mem_cons_self, ?_⟩))
  have ltn : ∀ p ∈ [(mw, PySem.W.kxs_mw "ValueError.__init__" a), (so, PySem.W.ks_superObj C a C)], p.1 ≠ a := fun p hp => by
    rcases List.mem_cons.mp hp with rfl | hp
    · exact Nat.ne_of_gt (l3 (a, PySem.W.excObj C t1 none .none) (by simp))
    · obtain rfl := List.mem_singleton.mp hp
      exact Nat.ne_of_gt (l2 (a, PySem.W.excObj C t1 none .none) (by simp))
  refine PySem.W.kxs_call (x := a) (t := t1) (dv := none) (c2 := .none) F3 KH N3 F.excBase_ValueError S.init List.mem_cons_self (.tail (ltn _ List.mem_cons_self) (.tail (ltn _ (by simp)) (.head fun _ z => nomatch z))) (by simp [sizeLine_eq]) fun t4 h4 F4 N4 l4 => ?_
  refine PySem.ks_wpAt_execs_cons (PySem.ks_wpAt_Assign_Attr ?_)
  refine wpAt_of_wpAny (wpAny_Name (wpAny_loadName_local hk hkx F4.ns (v := u) mx ?_) S.dX)
  refine wpAny_Name (wpAny_loadName_local hk hka F4.ns (v := .ref a) ms ?_) S.dS
  have h4e : h4.get? a = some (PySem.W.excObj C t4 none .none) := (N4 (a, PySem.W.excObj C t4 none .none) (by simp)).1
  refine PySem.W.set_plain (KH.keeps F4.keep) (ox := PySem.W.excObj C t4 none .none) (od := none) ⟨h4e, rfl, rfl, trivial⟩ S.T.sa ?_
  refine PySem.HandSPX.exc_osa (KH.keeps F4.keep) h4e hcl (show PySem.HandSPX.refsVE (.ref C :: bm) = true from hbm) rfl S.no (fun h' tk' dx k dn dne hx hn => ?_)
  refine wpAt_of_wpAny (wpAny_execs_nil ?_)
  have szs : s.heap.objs.size ≤ h4.objs.size := Nat.le_of_lt (F4.ns.lt)
  have hnd : H dx = none := e0.hok.fresh (Nat.le_trans szs dn)
  have keepS : ∀ b o, b ≠ a → s.heap.get? b = some o → h'.get? b = some o := fun b o n e => k b o n (F4.keep b o (PySem.W.hideAll_get _ e (by simpa using n)))
  have nd : ∀ {b : Addr} {o : Obj}, s.heap.get? b = some o → b ≠ dx := fun {b o} q => Nat.ne_of_lt (Nat.lt_of_lt_of_le (Heap.lt_size q) (Nat.le_trans szs dn))
  have na : ∀ {b : Addr}, H b = none → b ≠ a := fun {b} n z => by
    rw [z, ha] at n
    cases n
  refine ⟨.non, _, rfl, e0.bare, ?_, ?_, rfl, hq dx hnd dne⟩
  · exact {
      keep := fun b o q n _ _ => keepS b o (na n) q
      slot := fun b o q n _ _ => ⟨o.slots, keepS b o (na n) q⟩
      free := fun b o q n _ => by rw [upd_ne (na n), upd_ne (nd q)]; exact n
      there := fun b o q _ => by
        by_cases hb : b = a
        · exact ⟨_, by rw [hb]; exact hx⟩
        · exact ⟨o, keepS b o hb q⟩
      tups := fun b xs q => by rw [upd_ne (at_ne ha q exo_tup), upd_ne (ne_of_none q hnd)]; exact q
      frzs := fun b o v q => by rw [upd_ne (at_ne ha q exo_frz), upd_ne (ne_of_none q hnd)]; exact q
      tbls := fun b ps q => ⟨#[], by rw [upd_ne (at_ne ha q exo_tbl), upd_ne (ne_of_none q hnd), q]; simp⟩ }
  · intro b o q
    by_cases hb : b = a
    · subst hb
      rw [upd_same] at q
      cases q
      exact exo_ok hx
    · rw [upd_ne hb] at q
      by_cases hd : b = dx
      · subst hd
        rw [upd_same] at q
        cases q
        exact exd_ok hn (relO_put (fs := []) ru fun g => True.intro)
      · rw [upd_ne hd] at q
        exact (e0.hok b o q).stay (fun c v hc z => keepS c v (by
            rcases hc with hc | hc
            · rw [hc]
              exact hb
            · exact at_ne ha hc exo_own) z)
          (fun c hc => by rw [upd_ne (at_ne ha hc exo_own), upd_ne (ne_of_none hc hnd)]; exact hc) (fun c xs hc => by rw [upd_ne (at_ne ha hc exo_tup), upd_ne (ne_of_none hc hnd)]; exact hc)
end Sk
end
section
set_option Elab.async false
set_option linter.all false
set_option autoImplicit false
set_option maxRecDepth 100000
set_option maxHeartbeats 4000000
/-! SkX2: try with several clauses, each with a name or without. -/
namespace Sk
open PySem PySem.Spec PyProof.Rows L2
/-- a clause: its class, the slot of its name, its suite's reading -/
abbrev Clz := Value × Option Nat × TS
/-- the name is gone behind the suite -/
def gone (o : Option Nat) (σ : L2.St) : L2.St := match o with
  | some i => σ.set i none
  | none => σ
def goneD (o : Option Nat) (D : Ends) : Ends := { nx := fun σ H => D.nx (gone o σ) H, rt := D.rt, bk := fun σ H => D.bk (gone o σ) H, ct := fun σ H => D.ct (gone o σ) H }
def bound (o : Option Nat) (a : Addr) (σ : L2.St) : L2.St := match o with
  | some i => σ.set i (some (.ref a))
  | none => σ
/-- the dict of an exception in the air is held as it is -/
def XdAt (H : Hp) (d : Option Addr) : Prop := ∃ (dd : Addr) (od : Obj) (fs : List (Str × V)), d = some dd ∧ H dd = some (.frz od (.xd fs))
/-- what the clauses wish of an exception, one behind the other -/
def wAll (K : PySem.W.Frag) (Wout : WX) (D : Ends) : List Clz → WX
  | [] => Wout
  | q :: r => fun cls d σ H => ∃ b, PySem.W.exmOne K cls q.1 = some b ∧
      (b = true → ∀ (a : Addr) (oe : Obj), H a = none → oe.cls = cls → oe.dict = d → (∃ vs, oe.data = .fields vs) → q.2.2 (goneD q.2.1 D) (bound q.2.1 a σ) (upd H a (.frz oe (.own a)))) ∧
      (b = false → wAll K Wout D r cls d σ H)
/-- a clause's suite keeps its reading -/
def SuiteOk (X : L2.Cx) (body : List Stmt) (ts : TS) : Prop := ∀ (a : Addr) (pn : List (Addr × Obj)), PSs (X.suite a pn) body ts
/-- the caught exception is held as it is, from now on -/
theorem hold_exc {X : L2.Cx} {pins : List (Addr × Obj)} {σ : L2.St} {H : Hp} {s sI : Shared} {a : Addr} {oe : Obj} {vs : Array Value} (J : Inv X pins σ H s) (JI : Inv X pins σ H sI) (ha : s.heap.get? a = some oe) (hd : oe.data = .fields vs) (na : H a = none) (fr : sI.heap.get? a = none) (nL : a ≠ X.env.locals) :
    Inv (X.suite a (X.pn ++ pins)) [] σ (upd H a (.frz oe (.own a))) s := by
  have old : ∀ b o, X.s_0.heap.get? b = some o → b ∉ X.ex → b ≠ a := fun b o e hx z => by
    obtain ⟨o', e'⟩ := JI.base.there b o e hx
    rw [z, fr] at e'
    cases e'
  refine ⟨J.ok.suite _ _, J.os, J.bare, ⟨J.base.keep, J.base.slot, fun b o e n hx => ?_, J.base.there, fun b xs e => ?_, fun b o u e => ?_, fun b ps e => ?_⟩, J.loc, J.cell, ?_, fun x c e => ?_, fun p hp => ?_, fun b o e => ?_, J.len⟩
  · rw [upd_ne (old b o e hx)]
    exact J.base.free b o e n hx
  · have := J.base.tups b xs e
    rw [upd_ne (ne_of_none this na)]
    exact this
  · have := J.base.frzs b o u e
    rw [upd_ne (ne_of_none this na)]
    exact this
  · obtain ⟨m, this⟩ := J.base.tbls b ps e
    exact ⟨m, by rw [upd_ne (ne_of_none this na)]; exact this⟩
  · show (upd H a _) X.env.locals = none
    rw [upd_ne nL.symm]
    exact J.free
  · have hne : c ≠ a := fun z => by
      obtain ⟨v, o, e1, e2⟩ := J.cell x c e
      rw [z, ha] at e1
      cases e1
      rw [hd] at e2
      cases e2
    rw [upd_ne hne]
    exact J.freeC x c e
  · have hp' : p ∈ X.pn ++ pins := by rw [List.append_nil] at hp; exact hp
    obtain ⟨q1, q2, q3⟩ := J.pin p hp'
    obtain ⟨r1, _⟩ := JI.pin p hp'
    refine ⟨q1, ?_, q3⟩
    rw [upd_ne]
    · exact q2
    · intro z
      rw [z, fr] at r1
      cases r1
  · by_cases hb : b = a
    · subst hb
      rw [upd_same] at e
      cases e
      exact ⟨ha, _, ha⟩
    · rw [upd_ne hb] at e
      exact (J.hok b o e).stay (fun c u _ z => z) (fun c hc => by rw [upd_ne (ne_of_none hc na)]; exact hc) (fun c xs hc => by rw [upd_ne (ne_of_none hc na)]; exact hc)
theorem unsuite0 {X : L2.Cx} {pins pn' : List (Addr × Obj)} {σ : L2.St} {H : Hp} {s : Shared} {a : Addr} (I : Inv (X.suite a (X.pn ++ pins)) pn' σ H s) (ok : X.Ok) : Inv X pins σ H s :=
  ⟨ok, I.os, I.bare, I.base, I.loc, I.cell, I.free, I.freeC, fun p hp => I.pin p (List.mem_append_left _ hp), I.hok, I.len⟩
inductive HdsA (X : L2.Cx) : List ExceptHandler → List Clz → Prop
  | nil : HdsA X [] []
  | plain {x : Str} {c : Value} {ts : TS} {b₀ : Stmt} {suite : List Stmt} {np pos' : Pos} {hds : List ExceptHandler} {l : List Clz} (hc : Names X x c) (hsu : SuiteOk X (b₀ :: suite) ts) (r : HdsA X hds l) :
      HdsA X (.ExceptHandler (some (.Name x np)) none (b₀ :: suite) pos' :: hds) ((c, none, ts) :: l)
  | named {x n : Str} {i : Nat} {c : Value} {ts : TS} {b₀ : Stmt} {suite : List Stmt} {np pos' : Pos} {hds : List ExceptHandler} {l : List Clz} (hc : Names X x c) (hN : X.N.Nodup) (hi : X.N[i]? = some n) (hln : X.env.kindOf n = some .local)
      (hsu : SuiteOk X (b₀ :: suite) ts) (r : HdsA X hds l) : HdsA X (.ExceptHandler (some (.Name x np)) (some n) (b₀ :: suite) pos' :: hds) ((c, some i, ts) :: l)
section
variable {X : L2.Cx} {body : List Stmt} {h₀ : ExceptHandler} {hds : List ExceptHandler} {l : List Clz} {pos : Pos} {tb : WX → TS} {Wout : WX}
theorem ps_try_all (hs : X.stack = X.env :: X.outer) (hf : X.env.frame = some X.env.locals) (tk : L2N.Takes X Wout)
    (hb : ∀ (W : WX) (pn : List (Addr × Obj)) (xe : Value → Shared → Prop), L2N.Takes (X.tr pn xe) W → PassesOwn (model X.prog X.w) X.A X.env xe → PSs (X.tr pn xe) body (tb W))
    (hh : HdsA X (h₀ :: hds) l) : PS X (.Try body (h₀ :: hds) [] [] pos) (fun D σ H => tb (wAll X.K Wout D l) D σ H) := by
  refine ⟨fun pins s σ H D I h => ?_⟩
  have ok := I.ok
  have hfr : X.A.frames = some (X.env :: X.outer) := by rw [ok.frames, hs]
  refine wpAny_Try_except (wpAny_mono ((hb (wAll X.K Wout D l) (X.pn ++ pins) (fun e s₁ => wpAny (model X.prog X.w) X.A (noteFrame e X.env) (fun _ s₂ => wpAny (model X.prog X.w) X.A (setFlight e none) (fun _ s₃ =>
    wpAny (model X.prog X.w) X.A (handleBy e X.env (h₀ :: hds)) (SP X pins D) X.xe s₃) X.xe s₂) X.xe s₁) (fun u s' xx => ?_) PassesOwn.looking).run [] s σ H D (I.toTry _) h) (fun f s1 hsp => ?_) (fun e s1 he => he))
  · -- an exception of the body
    obtain ⟨a, B, sI, pins', σ', H', cls, d, rfl, J', nb, up, sky, na, os, ag, w⟩ := xx
    have J : Inv X pins σ' H' sI := J'.ofTry ok
    show wpAny (model X.prog X.w) X.A (noteFrame (.ref a) X.env) _ _ _
    refine L2N.Sky.land L2N.Zn.steady hfr hf (by rw [← hs]; exact sky) fun h3 fl3 up3 => ?_
    have J3 : Inv X pins σ' H' { s' with heap := h3 } := J.landed nb fl3.1 (up.trans up3) os ag
    obtain ⟨oe3, vs3, he3, hz3, hd3⟩ := fl3.there
    have nfr : a ∉ frs (X.env :: X.outer) := fun hm => by
      obtain ⟨_, o', e', hnf⟩ := fl3.2.2.1.mem hm
      rw [he3] at e'
      cases e'
      exact hnf _ hd3
    have nL : a ≠ X.env.locals := fun z => nfr (List.mem_filterMap.mpr ⟨X.env, List.mem_cons_self, by rw [hf, z]⟩)
    have nF : a ∉ X.fs := fun hm => by
      obtain ⟨e, he, q⟩ := List.mem_filterMap.mp hm
      exact nfr (List.mem_filterMap.mpr ⟨e, List.mem_cons_of_mem _ he, q⟩)
    have frI : sI.heap.get? a = none := by
      cases q : sI.heap.get? a with
      | none => rfl
      | some o =>
        have := nb a o q (by rw [hs]; exact nfr)
        rw [fl3.2.1] at this
        cases this
    have JI : Inv X pins σ' H' sI := J
    have S3 := hold_exc J3 JI he3 hd3 na frI nL
    have LT : PySem.W.Looks (model X.prog X.w) h3 (typeOf (.ref a)) cls := fun A Q E s k q => wpAny_typeOf_ref (k _ _ he3) (by rw [hz3.1]; exact q)
    -- the clause's class is looked up
    have test : ∀ {x : Str} {c : Value} {np : Pos} {Q : Value → Shared → Prop} {E : Value → Shared → Prop}, Names X x c → Q c { s' with heap := h3 } → wpAny (model X.prog X.w) (X.A.mark (some (.ref a))) (eval (.Name x np) X.env) Q E { s' with heap := h3 } := fun {x c np Q E} hc q => by
      rcases hc with ⟨hg, hdbg, hm | ⟨hm, hv, hnn⟩⟩
      · exact ld_glob (X := X.suite a (X.pn ++ pins)) S3 hg hm q hdbg
      · exact ld_blt (X := X.suite a (X.pn ++ pins)) S3 hg hm hv q hnn hdbg
    have go : ∀ {hds' : List ExceptHandler} {l' : List Clz}, HdsA X hds' l' → wAll X.K Wout D l' cls d σ' H' → wpAny (model X.prog X.w) X.A (handleBy (.ref a) X.env hds') (SP X pins D) X.xe { s' with heap := h3 } := by
      intro hds' l' hk
      induction hk with
      | nil =>
        intro w
        refine wpAny_handleBy_nil ?_
        obtain ⟨k1, k2, k3, oe, vs, T, oT, ts', he, hz, hd, h1, hr⟩ := id fl3
        unfold PySem.passOn
        refine wpAny_bind (wpAny_field he hd h1 ?_)
        rw [if_neg (show ¬ ((Value.ref T == Value.none) = true) from by simp)]
        have fin : wpAny (model X.prog X.w) X.A (setFlight (.ref a) X.env.frame) (fun _ s4 => wpAny (model X.prog X.w) X.A (throw (.ref a) : Sem Flow) (SP X pins D) X.xe s4) X.xe { s' with heap := h3 } := by
          rw [hf]
          exact HandSPX.setFlight_upZ fl3 fun h4 hh4 up4 => wpAny_throw (tk _ _ ⟨a, B, sI, pins, σ', H', cls, d, rfl, J, nb, (up.trans up3).trans up4, .inr (.inr (by rw [hs]; exact hh4)), na, os, ag, w⟩)
        first
          | exact wpAny_bind (wpAny_pure (wpAny_bind fin))
          | exact wpAny_bind fin
      | @plain x c ts b₀ suite np pos' hds2 l2 hc hsu r ih =>
        intro w
        obtain ⟨b, hb1, hyes, hno⟩ := w
        refine wpAny_handleBy_cons (codeAny_handlers_test ?_) (by intro q; cases q)
        refine test hc ((PySem.W.exm_one (M := model X.prog X.w) J3.kIn LT hb1).here ?_)
        cases b with
        | false => exact ih (hno rfl)
        | true =>
          refine codeAny_handlers_suite (HandSPX.lands_againZ fl3 fun h4 fl4 up4 => ?_)
          have J4 : Inv X pins σ' H' { s' with heap := h4 } := J.landed nb fl4.1 ((up.trans up3).trans up4) os ag
          obtain ⟨oe4, vs4, he4, hz4, hd4⟩ := fl4.there
          have S4 := hold_exc J4 JI he4 hd4 na frI nL
          refine wpAny_mono ((hsu a (X.pn ++ pins)).run [] _ _ _ _ S4 (hyes rfl a oe4 na hz4.1 hz4.2.1 ⟨_, hd4⟩)) (fun f s6 hsp => ?_) (fun _ _ z => False.elim z)
          cases f with
          | ret u => obtain ⟨v6, σ6, H6, S6, r6, q6⟩ := hsp; exact ⟨_, _, _, unsuite0 S6 ok, r6, q6⟩
          | next => obtain ⟨σ6, H6, S6, q6⟩ := hsp; exact ⟨_, _, unsuite0 S6 ok, q6⟩
          | brk => obtain ⟨σ6, H6, S6, q6⟩ := hsp; exact ⟨_, _, unsuite0 S6 ok, q6⟩
          | cont => obtain ⟨σ6, H6, S6, q6⟩ := hsp; exact ⟨_, _, unsuite0 S6 ok, q6⟩
      | @named x n i c ts b₀ suite np pos' hds2 l2 hc hN hi hln hsu r ih =>
        intro w
        obtain ⟨b, hb1, hyes, hno⟩ := w
        refine wpAny_handleBy_cons (codeAny_handlers_test ?_) (by intro q; cases q)
        refine test hc ((PySem.W.exm_one (M := model X.prog X.w) J3.kIn LT hb1).here ?_)
        cases b with
        | false => exact ih (hno rfl)
        | true =>
          refine codeAny_handlers_suite_as (HandSPX.lands_againZ fl3 fun h4 fl4 up4 => ?_)
          have J4 : Inv X pins σ' H' { s' with heap := h4 } := J.landed nb fl4.1 ((up.trans up3).trans up4) os ag
          obtain ⟨oe4, vs4, he4, hz4, hd4⟩ := fl4.there
          have S4 := hold_exc J4 JI he4 hd4 na frI nL
          refine store_ok (X := X.suite a (X.pn ++ pins)) (v := .ref a) S4 hN hi (.inl hln) rfl (fun s5 S5 => ?_) (.inr hln)
          refine wpAny_mono ((hsu a (X.pn ++ pins)).run [] s5 _ _ _ S5 (hyes rfl a oe4 na hz4.1 hz4.2.1 ⟨_, hd4⟩)) (fun f s6 hsp => ?_) (fun _ _ z => False.elim z)
          have fin : ∀ {σ6 : L2.St} {H6 : Hp} {Q : Shared → Prop}, Inv (X.suite a (X.pn ++ pins)) [] σ6 H6 s6 → (∀ s7, Inv X pins (σ6.set i none) H6 s7 → Q s7) →
              wpAny (model X.prog X.w) X.A (do bindName X.env n .none; unbindBehindTheSuite X.env n pos') (fun _ s7 => Q s7) X.xe s6 := fun S6 hq => gone_ok (unsuite0 S6 ok) hN hi hln hq
          cases f with
          | ret u => obtain ⟨v6, σ6, H6, S6, r6, q6⟩ := hsp; exact fin S6 fun s7 J7 => ⟨_, _, _, J7, r6, q6⟩
          | next => obtain ⟨σ6, H6, S6, q6⟩ := hsp; exact fin S6 fun s7 J7 => ⟨_, _, J7, q6⟩
          | brk => obtain ⟨σ6, H6, S6, q6⟩ := hsp; exact fin S6 fun s7 J7 => ⟨_, _, J7, q6⟩
          | cont => obtain ⟨σ6, H6, S6, q6⟩ := hsp; exact fin S6 fun s7 J7 => ⟨_, _, J7, q6⟩
    exact go hh w
  · -- no exception
    cases f with
    | ret u => obtain ⟨v, σ', H', J', r, q⟩ := hsp; exact ⟨v, σ', H', J'.ofTry ok, r, q⟩
    | next => obtain ⟨σ', H', J', q⟩ := hsp; exact wpAny_execs_nil ⟨σ', H', J'.ofTry ok, q⟩
    | brk => obtain ⟨σ', H', J', q⟩ := hsp; exact ⟨σ', H', J'.ofTry ok, q⟩
    | cont => obtain ⟨σ', H', J', q⟩ := hsp; exact ⟨σ', H', J'.ofTry ok, q⟩
end
end Sk
end
section
set_option Elab.async false
set_option linter.all false
set_option autoImplicit false
set_option maxRecDepth 100000
set_option maxHeartbeats 4000000
/-! SkX3: raise, try, a caught exception's field. -/
namespace Sk
open PySem PySem.Spec PyProof.Rows L2
/-! ### e.f -/
section
variable {X : L2.Cx} {RX : Exc → Value → Option Addr → Hp → Prop} {W : WX} {c : Cx} {a : Expr} {ea : E} {pos : Pos}
theorem sd_fld {n : Str} {f : String} (ha : PE X a (tE X.K RX W c ea)) (hn : n = Str.ofString f) (hb : attributeBase a n X.env (eval a X.env) = eval a X.env) : PE X (.Attribute a n pos) (tE X.K RX W c (.fld ea f)) := by
  refine ⟨fun pins s σ H Q I h => ?_⟩
  obtain ⟨ρ, M, ι, re, sr, h⟩ := h
  unfold ev at h
  refine attr_of hb (thn (ha.run pins s σ H (fun x H1 => ∃ k, XoAt X.K H1 f k x ∧ Q (kyV k) H1) I ⟨ρ, M, ι, re, sr, h.bind.mono fun x M1 ι1 H1 _ st s1 h1 v rv => ?_⟩) fun u s1 hh => ?_)
  · cases x with
    | xo g k =>
      simp only at h1
      split at h1
      · rename_i e
        subst e
        simp only [RelD] at rv
        refine ⟨k, rv, ?_⟩
        refine h1.now s1 (kyV k) ?_
        obtain ⟨_, _, _, _, _, _, _, _, _, _, _, _, _, hk, _⟩ := rv
        cases k with
        | inl i => exact .ints
        | inr z => exact .strs hk.1 hk.2
      · exact h1.elim
    | _ => exact h1.elim
  · obtain ⟨x, H1, I1, rx, k, hx, q⟩ := hh
    obtain ⟨a', C, dd, oe, od, fs, rfl, h1, h2, ⟨vs, hd⟩, h4, h5, h6, h7, T, hno⟩ := hx
    obtain rfl : u = Value.ref a' := rx
    obtain ⟨he, _⟩ := (show ObjOk X.prog X.w H1 s1.heap a' (.frz oe (.own a')) from I1.hok _ _ h1)
    obtain ⟨hdd, mA, hns, hr⟩ := (show ObjOk X.prog X.w H1 s1.heap dd (.frz od (.xd fs)) from I1.hok _ _ h5)
    obtain ⟨od', ho, hl⟩ := lookIn_ns hns
    obtain ⟨u, hu, ru⟩ := RelO.some_of (v := kyV k) (o := mA n) (by rw [hn, ← h6]; exact hr _)
    have J : PySem.W.InstAt s1.heap a' oe C (some od') := ⟨he, h2, by unfold PySem.W.notCls; rw [hd] <;> rfl, by rw [h4]; exact ho⟩
    exact HandSPX.exc_get I1.kIn J T.ga T.gg T.exC (PySem.W.findObj_own T.hdC (by rw [hn]; exact hno) rfl (by rw [hl, hu])) (handed_of ru) ⟨kyV k, H1, I1.tok _, ru, q⟩
end

/-! ### raise -/
theorem Inv.froz {X : L2.Cx} {pins : List (Addr × Obj)} {σ : L2.St} {H : Hp} {s : Shared} {d : Addr} {od : Obj} {fs : List (Str × V)} (J : Inv X pins σ H s) (h : H d = some (.xd fs)) (hd : s.heap.get? d = some od) : Inv X pins σ (upd H d (.frz od (.xd fs))) s := by
  refine ⟨J.ok, J.os, J.bare, ⟨J.base.keep, J.base.slot, fun b o e n hx => ?_, J.base.there, fun b xs e => ?_, fun b o u e => ?_, fun b ps e => ?_⟩, J.loc, J.cell, ?_, fun x c e => ?_, fun p hp => ?_, fun b o e => ?_, J.len⟩
  · have := J.base.free b o e n hx
    rw [upd_ne (ne_of_none h this).symm]
    exact this
  · have := J.base.tups b xs e
    rw [upd_ne (ne_of this h (fun z => nomatch z))]
    exact this
  · have := J.base.frzs b o u e
    rw [upd_ne (ne_of this h (fun z => nomatch z))]
    exact this
  · obtain ⟨m, this⟩ := J.base.tbls b ps e
    exact ⟨m, by rw [upd_ne (ne_of this h (fun z => nomatch z))]; exact this⟩
  · rw [upd_ne (ne_of_none h J.free).symm]
    exact J.free
  · have := J.freeC x c e
    rw [upd_ne (ne_of_none h this).symm]
    exact this
  · obtain ⟨q1, q2, q3⟩ := J.pin p hp
    exact ⟨q1, by rw [upd_ne (ne_of_none h q2).symm]; exact q2, q3⟩
  · by_cases hb : b = d
    · subst hb
      rw [upd_same] at e
      cases e
      exact ⟨hd, (J.hok b _ h).stay (fun c u _ z => z) (fun c hc => by rw [upd_ne (ne_of hc h (fun z => nomatch z))]; exact hc) (fun c xs hc => by rw [upd_ne (ne_of hc h (fun z => nomatch z))]; exact hc)⟩
    · rw [upd_ne hb] at e
      exact (J.hok b o e).stay (fun c u _ z => z) (fun c hc => by rw [upd_ne (ne_of hc h (fun z => nomatch z))]; exact hc) (fun c xs hc => by rw [upd_ne (ne_of hc h (fun z => nomatch z))]; exact hc)
/-- an exception of one's own is made, its dict held as it is -/
def tMkX (C : Addr) (f : Str) (ta : TA) : L2.St → Hp → XK → Prop := fun σ H Q => ta σ H fun vs H1 => ∃ v, vs = [v] ∧ ∀ (d : Addr) (od : Obj), H1 d = none → Q (.ref C) (some d) (upd H1 d (.frz od (.xd [(f, v)])))
section
variable {X : L2.Cx} {e : Expr} {es : List Expr} {ta : TA} {p pos : Pos}
theorem pmk_own {x : Str} {C fI : Addr} {fd : FuncData} {f sv y : Str} (T : OexC X.K C) (iC : PySem.W.findIn X.K (.ref C) "__init__" = some (some (.ref fI))) (tI : PySem.W.typeIn X.K (.ref fI) = some (.type "function"))
    (F1 : FnOk X.prog X.w X.K X.mg X.base C8.CX0 1 fI fd [sv, y] (spI C f)) (hr : Room 2 X.A) (hb : Binds X.K fd [sv, y] []) (hg : Gl X x) (hm : X.mg x = some (.ref C)) (ha : PA X (e :: es) ta)
    (hdb : (x == ("__debug__" : Str)) = false) (he : starEach (e :: es) X.env = (false, eval e X.env) :: starEach es X.env) (hpl : (backTo pos (starEach es X.env)).any (·.1) = false) :
    L2N.PMk X (.Call (.Name x p) (e :: es) [] pos) (tMkX C f ta) := by
  intro pins s σ H Q I h
  obtain ⟨nm, q, N, bs, bm, sn, sub, ab, col, dd, k0, k1, k2, k3, k5, hC, hbm⟩ := T.cls
  refine wpAny_Call_Name_kw (ld_glob I hg hm ?_ hdb)
  refine PySem.W.callWith_K (h₀ := X.base) I.ok.mod.kin T.kC (thn (ha.run pos pins s σ H _ I h) fun us s1 ⟨vs, H1, I1, r1, v, ev, q1⟩ => ⟨I1.kIn, ?_⟩) he hpl
  subst ev
  show wpAny _ _ (call (.ref C) us) _ _ _
  obtain ⟨hp, g, dr, tk, os⟩ := s1
  have hsz : hp.objs.size ≤ hp.objs.size + 1 := Nat.le_succ _
  have hn : H1 (hp.objs.size + 1) = none := I1.hok.fresh hsz
  have kk : ∀ b o, hp.get? b = some o → ((hp.push (PySem.W.kdv_tup us)).push (PySem.HandSPX.excO C hp.objs.size)).get? b = some o := fun b o e => Heap.get?_push_of_some _ (Heap.get?_push_of_some _ e)
  have hget : ((hp.push (PySem.W.kdv_tup us)).push (PySem.HandSPX.excO C hp.objs.size)).get? (hp.objs.size + 1) = some (PySem.HandSPX.excO C hp.objs.size) := by heap_get
  have I2 : Inv X pins σ (upd H1 (hp.objs.size + 1) (exo (hp.objs.size + 1) C none)) ⟨(hp.push (PySem.W.kdv_tup us)).push (PySem.HandSPX.excO C hp.objs.size), g, dr, tk, os⟩ :=
    I1.laid (t' := tk) (a := hp.objs.size + 1) (o := exo (hp.objs.size + 1) C none) (h' := (hp.push (PySem.W.kdv_tup us)).push (PySem.HandSPX.excO C hp.objs.size)) kk hsz (exo_ok hget)
  have r2 : Vals [V.ref (hp.objs.size + 1), v] (Value.ref (hp.objs.size + 1) :: us) := .cons rfl r1
  have hul : us.length = 1 := (Paired.length r1).symm
  have hus : us.length ≤ sizeLine := by
    rw [hul, sizeLine_eq]
    omega
  have b2 := hb _ (Value.ref (hp.objs.size + 1) :: us) I2.kIn (by simp [hul])
  rw [List.append_nil] at b2
  have hq : spI C f [V.ref (hp.objs.size + 1), v] (upd H1 (hp.objs.size + 1) (exo (hp.objs.size + 1) C none))
      (fun w H2 => w = .non ∧ ∃ d : Addr, H2 (hp.objs.size + 1) = some (exo (hp.objs.size + 1) C (some d)) ∧ H2 d = some (exd d [(f, v)]) ∧ H1 d = none ∧ d ≠ hp.objs.size + 1 ∧ ∀ b, b ≠ hp.objs.size + 1 → b ≠ d → H2 b = H1 b) (fun _ _ _ => False) := by
    refine ⟨_, v, rfl, upd_same, fun d hd hne => ⟨rfl, d, upd_same, by rw [upd_ne hne, upd_same], by rw [upd_ne hne] at hd; exact hd, hne, fun b h1 h2 => by rw [upd_ne h1, upd_ne h2, upd_ne h1]⟩⟩
  refine wpAny_call (PySem.HandSPX.call_own F.excBase_ValueError (fun Y => PySem.HandSPX.refsVE_contains Y bm hbm) (I1.kIn _ _ hC) (PySem.W.looks_findIn I1.kIn iC) (fun self => PySem.W.bind_fn I1.kIn self tI) hus
    (codeAny_mono (F1.run _ X.stack _ _ ⟨Value.ref (hp.objs.size + 1) :: us, []⟩ (Value.ref (hp.objs.size + 1) :: us) _ _ (fun _ _ _ => False) (hr.make C us []) (I2.env0.make C us []) b2 r2 hq) fun r s' hq' => ?_))
  cases r with
  | error er => exact False.elim hq'
  | ok fl =>
    cases fl with
    | ret u =>
      obtain ⟨w, H2, os2, bare2, un2, hok2, rv, ev, d, ea, ed, hd1, hne, hoth⟩ := hq'
      subst ev
      obtain ⟨h2, g2, d2, t2, os'⟩ := s'
      obtain ⟨t0, G, J, kG, ge, hoe, na⟩ := mk_end0 (d2 := d2) (t2 := t2) I1 hsz kk un2 hok2 os2 bare2 ea ed hd1
      obtain ⟨mA, ⟨od, es', ep, hod, hns⟩, _⟩ := (show ObjOk X.prog X.w _ G d (.xd [(f, v)]) from J.hok d _ upd_same)
      have J2 := Inv.froz J upd_same hod
      have eH : upd (upd (del H2 (hp.objs.size + 1)) d (.xd [(f, v)])) d (.frz od (.xd [(f, v)])) = upd H1 d (.frz od (.xd [(f, v)])) := by
        funext b
        by_cases hb : b = d
        · subst hb; rw [upd_same, upd_same]
        · rw [upd_ne hb, upd_ne hb, upd_ne hb]
          by_cases hba : b = hp.objs.size + 1
          · subst hba; rw [del_same, hn]
          · rw [del_ne hba, hoth b hba hb]
      rw [eH] at J2
      refine ⟨rv, _, _, _, ⟨G, g2, d2, t2, os'⟩, _, .ref C, some d, rfl, J2, kG, ge, hoe, ⟨rfl, rfl, fun vs e => by cases e; rfl⟩, rfl, rfl, ?_, rfl, bare2, raises_own T.exC T.tyC, q1 d od hd1⟩
      rw [upd_ne hne.symm]
      exact hn
    | next => exact False.elim hq'
    | brk => exact False.elim hq'
    | cont => exact False.elim hq'
end
/-- an exception of the evaluator stands for one of the model -/
def RXK (K : PySem.W.Frag) (cl : List String) (x : Exc) (cls : Value) (d : Option Addr) (H : Hp) : Prop :=
  x.cls ∈ cl ∧ cls = .ref (He.ga K (Str.ofString x.cls)) ∧ ∃ (dd : Addr) (od : Obj) (fs : List (Str × V)), d = some dd ∧ H dd = some (.frz od (.xd fs)) ∧ fs.lookup (Str.ofString x.f) = some (kyV x.k) ∧ kyOk x.k ∧
    XfC K (He.ga K (Str.ofString x.cls)) ∧ PySem.W.findIn K (.ref (He.ga K (Str.ofString x.cls))) (Str.ofString x.f) = some none
/-- what is known of a class -/
structure Raisable (P : Program) (w : World) (K : PySem.W.Frag) (mg : Str → Option Value) (base : Heap) (cls f : String) : Prop where
  glo : mg (Str.ofString cls) = some (.ref (He.ga K (Str.ofString cls)))
  mkx : ∃ (fI : Addr) (fd : FuncData) (sv y : Str), OexC K (He.ga K (Str.ofString cls)) ∧ PySem.W.findIn K (.ref (He.ga K (Str.ofString cls))) "__init__" = some (some (.ref fI)) ∧ PySem.W.typeIn K (.ref fI) = some (.type "function") ∧
    FnOk P w K mg base C8.CX0 1 fI fd [sv, y] (spI (He.ga K (Str.ofString cls)) (Str.ofString f)) ∧ Binds K fd [sv, y] []
  xf : XfC K (He.ga K (Str.ofString cls))
  no : PySem.W.findIn K (.ref (He.ga K (Str.ofString cls))) (Str.ofString f) = some none
section
variable {X : L2.Cx} {W : WX} {c : Cx} {e : Expr} {ee : E} {p p2 pos : Pos} {cl : List String}
theorem ss_rse {x : Str} {cls f : String} (kc : CK c) (hc : X.calm = true) (tk : L2N.Takes X W) (R : Raisable X.prog X.w X.K X.mg X.base cls f) (hcl : cls ∈ cl) (hr : Room 2 X.A) (hx : x = Str.ofString cls) (hg : Gl X x) (hdb : (x == ("__debug__" : Str)) = false) (he : PE X e (tE X.K (RXK X.K cl) W c ee)) (hs : nst e = true) :
    PS X (.Raise (some (.Call (.Name x p) [e] [] p2)) none pos) (tS X.K (RXK X.K cl) W c (.rse cls f ee)) := by
  subst hx
  obtain ⟨fI, fd, sv, y, T, iC, tI, F1, hb⟩ := R.mkx
  have hA : PA X [e] (tEs X.K (RXK X.K cl) W c [ee]) := sa_cons he sa_nil (star1 hs)
  refine L2PS.weak (L2N.ps_raise hc tk (pmk_own T iC tI F1 hr hb hg R.glo hA hdb (star1 hs) rfl)) fun D σ H ⟨ρ, M, ι, re, sr, h⟩ => ?_
  unfold ex evg at h
  show tEs X.K (RXK X.K cl) W c [ee] σ H _
  refine ⟨ρ, M, ι, re, sr, ?_⟩
  unfold evs
  have key := ((h.out re).gc sr (kp_ev kc ee ρ M))
  cases q : ev c ee ρ M with
  | bad => rw [q] at key; exact key.elim
  | exc x M1 => rw [q] at key; exact key
  | ok d M1 =>
    rw [q] at key
    unfold evs
    intro ι1 H1 st s1 vs rvs
    simp only [RelDs] at rvs
    obtain ⟨v, r, rfl, rv, rfl⟩ := rvs
    refine ⟨v, rfl, fun dx od hd => ?_⟩
    obtain ⟨ι2, d2, M2, st2, s2, r2, h3⟩ := key ι1 H1 st s1 v rv
    cases hk : keyOf d2 with
    | none => rw [hk] at h3; exact h3.elim
    | some k =>
      rw [hk] at h3
      have hv : v = kyV k ∧ kyOk k := by
        cases d2 <;> simp only [keyOf, reduceCtorEq, Option.some.injEq] at hk
        · subst hk; exact ⟨relD_int r2, trivial⟩
        · rename_i z; subst hk; exact ⟨(relD_str (t := z) r2).1, (relD_str (t := z) r2).2⟩
      obtain ⟨rfl, hok⟩ := hv
      have st3 : Step ι2 H1 ι2 (upd H1 dx (.frz od (.xd [(Str.ofString f, kyV k)]))) := Step.fresh hd
      exact h3 ι2 _ σ _ _ (st2.trans st3) (s2.fresh hd) ((re.step st2).step st3) ⟨hcl, rfl, dx, od, _, rfl, upd_same, by simp [List.lookup], hok, R.xf, R.no⟩
end

/-! ### try -/
section
variable {X : L2.Cx} {W : WX} {c : Cx} {cl : List String}
/-- what is known of the clauses -/
structure ClOk (K : PySem.W.Frag) (cl : List String) : Prop where
  exm : ∀ x ∈ cl, ∀ y ∈ cl, PySem.W.exmOne K (.ref (He.ga K (Str.ofString x))) (.ref (He.ga K (Str.ofString y))) = some (decide (y = x))
theorem renv_none {K : PySem.W.Frag} {ι : List Addr} {H : Hp} {ρ : Env} {σ : L2.St} (h : REnv K ι H ρ σ) (i : Nat) : REnv K ι H (ρ.set i none) (σ.set i none) := ⟨by simp [h.1], fun j d e => by
  by_cases hi : i = j
  · subst hi
    have hl := (List.getElem?_eq_some_iff.mp e).1
    rw [List.length_set] at hl
    rw [List.getElem?_set_self hl] at e
    cases e
  · rw [List.getElem?_set_ne hi] at e ⊢
    exact h.2 j d e⟩
theorem renv_put {K : PySem.W.Frag} {ι : List Addr} {H : Hp} {ρ : Env} {σ : L2.St} (h : REnv K ι H ρ σ) (i : Nat) {d : Sk.D} {v : V} (r : RelD K ι H d v) : REnv K ι H (ρ.set i (some d)) (σ.set i (some v)) := ⟨by simp [h.1], fun j d' e => by
  by_cases hi : i = j
  · subst hi
    have hl := (List.getElem?_eq_some_iff.mp e).1
    rw [List.length_set] at hl
    rw [List.getElem?_set_self hl] at e
    cases e
    exact ⟨v, List.getElem?_set_self (by rw [← h.1]; exact hl), r⟩
  · rw [List.getElem?_set_ne hi] at e ⊢
    exact h.2 j d' e⟩
theorem suite_wp {K : PySem.W.Frag} {RX : Exc → Value → Option Addr → Hp → Prop} {ι : List Addr} {H : Hp} {D : Ends} {o : Option Nat} {r : Out} (h : WpO K RX W ι H D (r.noX.kill (slotX o))) : WpO K RX W0 ι H (goneD o D) r := by
  cases r with
  | exc x ρ M => exact h.elim
  | bad => exact h.elim
  | rt d M => exact h
  | nx ρ M =>
    intro ι' H' σ' st s1 re
    cases o with
    | none => exact h ι' H' σ' st s1 re
    | some i => exact h ι' H' _ st s1 (renv_none re i)
  | bk ρ M =>
    intro ι' H' σ' st s1 re
    cases o with
    | none => exact h ι' H' σ' st s1 re
    | some i => exact h ι' H' _ st s1 (renv_none re i)
  | ct ρ M =>
    intro ι' H' σ' st s1 re
    cases o with
    | none => exact h ι' H' σ' st s1 re
    | some i => exact h ι' H' _ st s1 (renv_none re i)
/-- the clauses of a try, as the kit wants them -/
def clzs (K : PySem.W.Frag) (cl : List String) (c : Cx) : List (String × Option Nat) → List (List S) → List Clz
  | q :: cs, b :: bs => (.ref (He.ga K (Str.ofString q.1)), q.2, tSs K (RXK K cl) W0 c b) :: clzs K cl c cs bs
  | _, _ => []
theorem wall_of (O : ClOk X.K cl) {D : Ends} {x : Exc} (hx : x.cls ∈ cl) : ∀ (bs : List (List S)) (cs : List (String × Option Nat)), cs.length = bs.length → (∀ q ∈ cs, q.1 ∈ cl) → ∀ {ι : List Addr} {H : Hp} {ρ : Env} {σ : L2.St} {M : Store} {cls : Value} {d : Option Addr},
    SR X.K ι H M → REnv X.K ι H ρ σ → RXK X.K cl x cls d H → WpO X.K (RXK X.K cl) W ι H D (exh c cs bs x ρ M) → wAll X.K W D (clzs X.K cl c cs bs) cls d σ H
  | [], cs, hl, hc, ι, H, ρ, σ, M, cls, d, sr, re, rx, h => by
    have : cs = [] := List.eq_nil_of_length_eq_zero hl
    subst this
    unfold exh at h
    exact h ι H σ cls d .refl sr re rx
  | b :: bs, [], hl, hc, ι, H, ρ, σ, M, cls, d, sr, re, rx, h => by cases hl
  | b :: bs, q :: cs, hl, hc, ι, H, ρ, σ, M, cls, d, sr, re, rx, h => by
    unfold exh at h
    simp only at h
    obtain ⟨r1, r2, dd, od, fs, r3, r4, r5, r6, r7, r8⟩ := rx
    refine ⟨decide (q.1 = x.cls), by rw [r2]; exact O.exm _ r1 _ (hc q List.mem_cons_self), fun e a oe na ec ed ef => ?_, fun e => ?_⟩
    · rw [decide_eq_true_eq] at e
      rw [if_pos e] at h
      have st : Step ι H ι (upd H a (.frz oe (.own a))) := Step.fresh na
      have re2 : REnv X.K ι (upd H a (.frz oe (.own a))) (bndX q.2 x ρ) (bound q.2 a σ) := by
        cases q.2 with
        | none => exact re.step st
        | some i =>
          refine renv_put (re.step st) i ?_
          simp only [RelD]
          exact ⟨a, _, dd, oe, od, fs, rfl, upd_same, by rw [ec, r2], ef, by rw [ed, r3], by rw [upd_ne (ne_of_none r4 na)]; exact r4, r5, r6, r7, r8⟩
      exact ⟨_, M, ι, re2, sr.fresh na, suite_wp (WpO.step h st)⟩
    · rw [decide_eq_false_iff_not] at e
      rw [if_neg e] at h
      exact wall_of O hx bs cs (by simpa using hl) (fun q hq => hc q (List.mem_cons_of_mem _ hq)) sr re ⟨r1, r2, dd, od, fs, r3, r4, r5, r6, r7, r8⟩ h
theorem ss_tri {body : List Stmt} {h₀ : ExceptHandler} {hds : List ExceptHandler} {pos : Pos} {ss : List S} {cs : List (String × Option Nat)} {bs : List (List S)} (O : ClOk X.K cl) (hl : cs.length = bs.length) (hcl : ∀ q ∈ cs, q.1 ∈ cl) (hs : X.stack = X.env :: X.outer) (hf : X.env.frame = some X.env.locals) (tk : L2N.Takes X W)
    (hb : ∀ (W : WX) (pn : List (Addr × Obj)) (xe : Value → Shared → Prop), L2N.Takes (X.tr pn xe) W → PassesOwn (model X.prog X.w) X.A X.env xe → PSs (X.tr pn xe) body (tSs X.K (RXK X.K cl) W c ss))
    (hh : HdsA X (h₀ :: hds) (clzs X.K cl c cs bs)) : PS X (.Try body (h₀ :: hds) [] [] pos) (tS X.K (RXK X.K cl) W c (.tri ss cs bs)) := by
  refine L2PS.weak (ps_try_all (tb := fun W => tSs X.K (RXK X.K cl) W c ss) hs hf tk hb hh) fun D σ H ⟨ρ, M, ι, re, sr, h⟩ => ?_
  unfold ex at h
  refine ⟨ρ, M, ι, re, sr, ?_⟩
  cases q : exs c ss ρ M with
  | nx ρ1 M1 => rw [q] at h; exact h
  | rt d M1 => rw [q] at h; exact h
  | bk ρ1 M1 => rw [q] at h; exact h
  | ct ρ1 M1 => rw [q] at h; exact h
  | bad => rw [q] at h; exact h
  | exc x ρ1 M1 =>
    rw [q] at h
    intro ι' H' σ' cls d st s1 re1 rx
    exact wall_of O rx.1 bs cs hl hcl s1 re1 rx (WpO.step h st)
end
end Sk
end
section
set_option Elab.async false
set_option linter.all false
set_option autoImplicit false
set_option maxRecDepth 100000
/-! SkE: the checker of expressions: a written expression is one of mine. -/
namespace Sk
open PySem PySem.Spec PyProof.Rows L2

/-- what is known of a def's names -/
structure Info where
  N : List Str
  sc : Scope
  asg : List Str
  /-- no exception is handled here -/
  cl : Bool
structure Fit (X : L2.Cx) (I : Info) : Prop where
  hN : X.N = I.N
  nd : X.N.Nodup
  sc : X.env.scope = I.sc
  asg : ∀ x ∈ I.asg, Loc X.env.scope x ∧ (X.fn x = true ∨ X.env.scope.names.lookup x = some .local)
  cal : I.cl = true → X.calm = true
/-- the names of built-ins that the checker lets -/
def bltNames : List Str := ["len", "tuple", "list", "sorted", "min", "max", "sum", "abs", "int", "isinstance", "range", "str", "bool", "any", "all", "zip"]
/-- what holds at every point of a def's body -/
structure Gs (X : L2.Cx) (RX : Exc → Value → Option Addr → Hp → Prop) (c : Cx) (ar : String → Option Nat) (gl : String → Bool) (j : Nat) : Prop where
  rm : Rm X
  room : X.calm = true → Room j X.A
  ck : CK c
  fn : ∀ f n, ar f = some n → ∃ (k : Nat) (q : Addr) (fd : FuncData) (ps : List Str), FnOk X.prog X.w X.K X.mg X.base (L2N.CX X.prog X.w) k q fd ps (spC X.K RX (c.call f) n) ∧ k ≤ j ∧ X.mg (Str.ofString f) = some (.ref q) ∧ PySem.W.keepIn X.K (.ref q) = true ∧ Binds X.K fd ps []
  blt : ∀ x ∈ bltNames, X.mg x = none
  gl : ∀ f, gl f = true → ∃ d v u, c.glob f = some d ∧ X.mg (Str.ofString f) = some u ∧ RelV v u ∧ ∀ ι H, RelD X.K ι H d v
def visB (sc : Scope) (x : Str) : Bool := match sc.names.lookup x with
  | some .local => true
  | some .cell => true
  | some .free => true
  | _ => false
def glB (sc : Scope) (x : Str) : Bool := (match sc.names.lookup x with
  | some .globalImplicit => true
  | _ => false) && !(x == ("__debug__" : Str)) && !(x == ("__name__" : Str))
def varB (I : Info) (i : Nat) (x : Str) : Bool := decide (I.N[i]? = some x) && visB I.sc x && !(x == ("__debug__" : Str)) && !(x == ("__classdict__" : Str))
def asgB (I : Info) (i : Nat) (x : Str) : Bool := decide (I.N[i]? = some x) && decide (x ∈ I.asg)
theorem varB_ok {X : L2.Cx} {I : Info} (ft : Fit X I) {i : Nat} {x : Str} (h : varB I i x = true) : X.N[i]? = some x ∧ Vis X.env.scope x ∧ (x == ("__debug__" : Str)) = false ∧ (x == ("__classdict__" : Str)) = false := by
  unfold varB visB at h
  simp only [Bool.and_eq_true, decide_eq_true_eq, Bool.not_eq_true'] at h
  obtain ⟨⟨⟨h1, h2⟩, h3⟩, h4⟩ := h
  refine ⟨by rw [ft.hN]; exact h1, ?_, h3, h4⟩
  rw [ft.sc]
  split at h2
  · exact .inl (by assumption)
  · exact .inr (.inl (by assumption))
  · exact .inr (.inr (by assumption))
  · cases h2
theorem glB_ok {X : L2.Cx} {I : Info} (ft : Fit X I) {x : Str} (h : glB I.sc x = true) : Gl X x ∧ (x == ("__debug__" : Str)) = false ∧ x ≠ "__name__" := by
  unfold glB at h
  simp only [Bool.and_eq_true, Bool.not_eq_true'] at h
  obtain ⟨⟨h1, h2⟩, h3⟩ := h
  refine ⟨?_, h2, by simpa using h3⟩
  show X.env.scope.names.lookup x = _
  rw [ft.sc]
  split at h1
  · assumption
  · cases h1
theorem asgB_ok {X : L2.Cx} {I : Info} (ft : Fit X I) {i : Nat} {x : Str} (h : asgB I i x = true) : NameAt X i x := by
  unfold asgB at h
  simp only [Bool.and_eq_true, decide_eq_true_eq] at h
  obtain ⟨a, b⟩ := ft.asg x h.2
  exact ⟨by rw [ft.hN]; exact h.1, a, b⟩

/-! ### operators -/
def bopB : BOp → Operator → Bool
  | .add, .Add => true
  | .sub, .Sub => true
  | .mul, .Mult => true
  | .fdiv, .FloorDiv => true
  | .mod, .Mod => true
  | .pow, .Pow => true
  | _, _ => false
theorem bopB_ok {o : BOp} {p : Operator} (h : bopB o p = true) : p = o.py := by cases o <;> cases p <;> first | rfl | cases h
def copB : COp → CmpOp → Bool
  | .eq, .Eq => true
  | .ne, .NotEq => true
  | .lt, .Lt => true
  | .le, .LtE => true
  | .gt, .Gt => true
  | .ge, .GtE => true
  | .is, .Is => true
  | .isnot, .IsNot => true
  | .in, .In => true
  | .notin, .NotIn => true
  | _, _ => false
theorem copB_ok {o : COp} {p : CmpOp} (h : copB o p = true) : p = o.py := by cases o <;> cases p <;> first | rfl | cases h
/-- no set display -/
def nset : Expr → Bool
  | .Set _ _ _ => false
  | _ => true
theorem nset_in {op : CmpOp} {e : Expr} (h : nset e = true) : behindInMarks op e = false := by cases e <;> first | rfl | cases h
theorem nset_last {o p : CmpOp} {b d : Expr} (h : nset d = true) : lastMarks [o, p] [b, d] = false := nset_in (op := p) h
theorem nsl_ix {b : Expr} (h : nsl b = true) : PlainIx b := by
  intro o i
  cases b <;> first | rfl | cases h
def constB : D → Const → Bool
  | .non, .none => true
  | .bl b, .bool c => b == c
  | .int i, .int j => i == j
  | .str s, .str t => decide (s = t)
  | _, _ => false
theorem constB_ok {X : L2.Cx} {d : D} {k : Const} {n : Nat} {p : Pos} {v : V} (h : constB d k = true) (hv : constV d = some v) : PE X (.Constant k n p) (tC v) := by
  cases d <;> cases k <;> simp only [constB, Bool.false_eq_true] at h
  · cases hv; exact pe_non
  · cases hv
    have := eq_of_beq h
    subst this
    exact pe_bl
  · cases hv
    have := eq_of_beq h
    subst this
    exact pe_int
  · simp only [decide_eq_true_eq] at h
    subst h
    simp only [constV] at hv
    split at hv
    · cases hv; exact pe_str
    · cases hv
def Blt.nm : Blt → Option String
  | .len => some "len"
  | .tuple => some "tuple"
  | .list => some "list"
  | .sorted => some "sorted"
  | .min => some "min"
  | .max => some "max"
  | .sum => some "sum"
  | .abs => some "abs"
  | .int => some "int"
  | .any => some "any"
  | .all => some "all"
  | _ => none
def Mth.nm : Mth → Option String
  | .get => some "get"
  | .pop => some "pop"
  | _ => none
section
variable {X : L2.Cx} {RX : Exc → Value → Option Addr → Hp → Prop} {W : WX} {c : Cx} {a : Expr} {es : List Expr} {ees : List E} {p pos : Pos}
def bltFree : Blt → Bool
  | .len => true
  | .tuple => true
  | .list => true
  | .abs => true
  | .int => true
  | _ => false
theorem sd_blt {f : Blt} {z : String} {x : Str} (hz : f.nm = some z) (hx : x = Str.ofString z) (hc : bltFree f = true ∨ X.calm = true) (hu : Rm X) (hg : Gl X x) (hm : X.mg x = none) (ha : PA X (a :: es) (tEs X.K RX W c ees)) (hn : x ≠ "__name__") (hdb : (x == ("__debug__" : Str)) = false)
    (hs : (a :: es).all nst = true) : PE X (.Call (.Name x p) (a :: es) [] pos) (tE X.K RX W c (.blt f ees)) := by
  rw [List.all_cons, Bool.and_eq_true] at hs
  have s1 := star1 (es := es) (env := X.env) hs.1
  have s2 := back_plain (pos := pos) (env := X.env) hs.2
  subst hx
  cases f <;> simp only [Blt.nm, Option.some.injEq, reduceCtorEq] at hz <;> subst hz
  · exact sd_bltB cb_len hg hm boot_len ha hn hdb s1 s2
  · exact sd_bltT cb_tuple hg hm PyProof.Rows.boot_tuple ha hn hdb s1 s2
  · exact sd_bltT cb_list hg hm PyProof.Rows.boot_list ha hn hdb s1 s2
  · exact sd_bltB (cb_sorted (hc.resolve_left (by decide)) hu) hg hm PyProof.Rows.boot_sorted ha hn hdb s1 s2
  · exact sd_bltB (cb_min (hc.resolve_left (by decide)) hu) hg hm PyProof.Rows.boot_min ha hn hdb s1 s2
  · exact sd_bltB (cb_max (hc.resolve_left (by decide)) hu) hg hm PyProof.Rows.boot_max ha hn hdb s1 s2
  · exact sd_bltB (cb_sum (hc.resolve_left (by decide))) hg hm PyProof.Rows.boot_sum ha hn hdb s1 s2
  · exact sd_bltB cb_abs hg hm PyProof.Rows.boot_abs ha hn hdb s1 s2
  · exact sd_bltT cb_int hg hm PyProof.Rows.boot_int ha hn hdb s1 s2
  · exact sd_bltB (cb_any (hc.resolve_left (by decide))) hg hm (by decide +kernel) ha hn hdb s1 s2
  · exact sd_bltB (cb_all (hc.resolve_left (by decide))) hg hm (by decide +kernel) ha hn hdb s1 s2
theorem mok_of {m : Mth} {z : String} (hu : Rm X) (hz : m.nm = some z) : MOk X m (Str.ofString z) := by
  cases m <;> simp only [Mth.nm, Option.some.injEq, reduceCtorEq] at hz <;> subst hz
  · exact mok_get hu
  · exact mok_pop
theorem st_ite {t b : Expr} {et ea eb : E} (ht : PT X t (tT X.K RX W c et)) (ha : PT X a (tT X.K RX W c ea)) (hb : PT X b (tT X.K RX W c eb)) : PT X (.IfExp t a b pos) (tT X.K RX W c (.ite et ea eb)) := by
  refine ⟨fun pins s σ H Q I ⟨ρ, M, ι, re, sr, h⟩ => ?_⟩
  unfold ev at h
  rw [← Res.bind_assoc, Res.bind_assoc] at h
  refine PyProof.Rows.isTrue_IfExp (thn (ht.run pins s σ H (fun k H1 => if k = true then tT X.K RX W c ea σ H1 Q else tT X.K RX W c eb σ H1 Q) I ⟨ρ, M, ι, re, sr, h.bind.mono fun k M1 ι1 H1 e st s1 h1 => ?_⟩) fun k s1 ⟨H1, I1, q⟩ => ?_)
  · cases k with
    | true => exact ⟨ρ, M1, ι1, re.step st, s1, h1⟩
    | false => exact ⟨ρ, M1, ι1, re.step st, s1, h1⟩
  · cases k with
    | true => exact ha.run pins s1 σ H1 Q I1 q
    | false => exact hb.run pins s1 σ H1 Q I1 q
end
/-- targets -/
def tgsB (I : Info) : List Nat → List Expr → Bool
  | [], [] => true
  | i :: is, .Name x _ :: es => asgB I i x && tgsB I is es
  | _, _ => false
def tgB (I : Info) : Tg → Expr → Bool
  | .one i, .Name x _ => asgB I i x
  | .many is, .Tuple es _ _ => tgsB I is es
  | _, _ => false
theorem tgsB_ok {X : L2.Cx} {I : Info} (ft : Fit X I) : ∀ {is : List Nat} {es : List Expr}, tgsB I is es = true → PGs X es (tGs X.K is) ∧ (assignEach es X.env).length = is.length ∧ (assignEach es X.env).findIdx? (·.1) = none
  | [], [], _ => ⟨sgs_nil, rfl, rfl⟩
  | i :: is, [], h => by cases h
  | [], e :: es, h => by cases e <;> cases h
  | i :: is, e :: es, h => by
    cases e with
    | Name x p =>
      simp only [tgsB, Bool.and_eq_true] at h
      obtain ⟨g1, g2, g3⟩ := tgsB_ok ft h.2
      refine ⟨sgs_cons ft.nd (asgB_ok ft h.1) g1, ?_, ?_⟩
      · show (assignEach es X.env).length + 1 = _
        rw [g2]; rfl
      · have e : assignEach (.Name x p :: es) X.env = (false, assign (.Name x p) X.env) :: assignEach es X.env := rfl
        rw [e, List.findIdx?_cons]
        simp [g3]
    | _ => cases h
theorem tgB_ok {X : L2.Cx} {I : Info} (ft : Fit X I) (hc : X.calm = true) {tg : Tg} {e : Expr} (h : tgB I tg e = true) : PG X e (tG X.K tg) := by
  cases tg with
  | one i =>
    cases e with
    | Name x p => exact sg_one ft.nd (asgB_ok ft h)
    | _ => cases h
  | many is =>
    cases e with
    | Tuple es k p =>
      obtain ⟨g1, g2, g3⟩ := tgsB_ok ft (show tgsB I is es = true from h)
      exact sg_many hc g1 g2 g3
    | _ => cases h
/-- the own names of a comprehension, with their slots -/
def ownB (N : List Str) : List Nat → Option (List (Str × Nat))
  | [] => some []
  | i :: is => match N[i]?, ownB N is with
    | some x, some r => some ((x, i) :: r)
    | _, _ => none
theorem ownB_snd {N : List Str} : ∀ {is : List Nat} {r : List (Str × Nat)}, ownB N is = some r → r.map (·.2) = is
  | [], r, h => by cases h; rfl
  | i :: is, r, h => by
    simp only [ownB] at h
    split at h
    · rename_i x r' _ e
      cases h
      simp [ownB_snd e]
    · cases h
def Info.blk (I : Info) (scope : Scope) (own : List (Str × Nat)) : Info := ⟨I.N, relS scope I.sc, own.map (·.1), I.cl⟩
def ownOk (scope : Scope) (own : List (Str × Nat)) : Bool := own.all fun p => match scope.names.lookup p.1 with
  | some .local => true
  | some .cell => true
  | _ => false
theorem Fit.blk {X : L2.Cx} {I : Info} (ft : Fit X I) {scope : Scope} {own : List (Str × Nat)} (h : ownOk scope own = true) (s : Shared) (H : Hp) (C : Addr) (cl : List (Str × Addr)) (fp : List Addr) :
    Fit (X.blk s H scope (compEnvC scope cl C X.env) fp) (I.blk scope own) := by
  have hsc : (X.blk s H scope (compEnvC scope cl C X.env) fp).env.scope = relS scope I.sc := by rw [← ft.sc]; rfl
  refine ⟨ft.hN, ft.nd, hsc, fun x hx => ?_, ft.cal⟩
  obtain ⟨p, hp, rfl⟩ := List.mem_map.mp hx
  have := List.all_eq_true.mp h p hp
  rw [hsc]
  split at this
  · rename_i e
    have e2 := lookup_relS_keep (sc := I.sc) (k := .local) (by decide) e
    exact ⟨.inl e2, .inr e2⟩
  · rename_i e
    have e2 := lookup_relS_keep (sc := I.sc) (k := .cell) (by decide) e
    exact ⟨.inr e2, .inl (by show (scope.names.lookup p.1 == some NameKind.cell) = true; rw [e]; rfl)⟩
  · cases this
theorem Gs.blk {X : L2.Cx} {RX : Exc → Value → Option Addr → Hp → Prop} {c : Cx} {ar : String → Option Nat} {gl : String → Bool} {j : Nat} (g : Gs X RX c ar gl j) {scope : Scope} (s : Shared) (H : Hp) (env : PySem.Env) (fp : List Addr) :
    Gs (X.blk s H scope env fp) RX c ar gl j := ⟨g.rm, g.room, g.ck, g.fn, g.blt, g.gl⟩
theorem takes_blk {X : L2.Cx} {scope : Scope} (s : Shared) (H : Hp) (env : PySem.Env) (fp : List Addr) : L2N.Takes (X.blk s H scope env fp) W0 := fun u s' x => by
  obtain ⟨a, B, sI, pins, σ, H, cls, d, e, I, nb, up, sky, na, os, ag, w⟩ := x
  exact w.elim
def isiB : List String → Bool
  | [t] => decide (t ∈ ["int", "bool", "str", "tuple", "list"])
  | _ => false
section
variable (ar : String → Option Nat) (gl : String → Bool)
mutual
def chkE (I : Info) : E → Expr → Bool
  | .var i, a => (match a with
    | .Name x _ => varB I i x
    | _ => false)
  | .cst d, a => (match a with
    | .Constant k _ _ => constB d k && (constV d).isSome
    | _ => false)
  | .glb f, a => (match a with
    | .Name x _ => decide (x = Str.ofString f) && glB I.sc x && gl f
    | _ => false)
  | .bin o x y, a => (match a with
    | .BinOp l p r _ => bopB o p && chkE I x l && chkE I y r
    | _ => false)
  | .neg x, a => (match a with
    | .UnaryOp p l _ => decide (p = .USub) && chkE I x l
    | _ => false)
  | .cmp o x y, a => (match a with
    | .Compare l [p] [r] _ => copB o p && nset r && chkE I x l && chkE I y r
    | _ => false)
  | .chain o p x y z, a => (match a with
    | .Compare l [o', p'] [r, s] _ => copB o o' && copB p p' && nset s && chkE I x l && chkE I y r && chkE I z s
    | _ => false)
  | .and x y, a => (match a with
    | .BoolOp .And [l, r] _ => chkE I x l && chkE I y r
    | .BoolOp .And (l :: r :: r2 :: rs) p => chkE I x l && chkE I y (.BoolOp .And (r :: r2 :: rs) p)
    | _ => false)
  | .or x y, a => (match a with
    | .BoolOp .Or [l, r] _ => chkE I x l && chkE I y r
    | .BoolOp .Or (l :: r :: r2 :: rs) p => chkE I x l && chkE I y (.BoolOp .Or (r :: r2 :: rs) p)
    | _ => false)
  | .not x, a => (match a with
    | .UnaryOp p l _ => decide (p = .Not) && chkE I x l
    | _ => false)
  | .ite t x y, a => (match a with
    | .IfExp u l r _ => chkE I t u && chkE I x l && chkE I y r
    | _ => false)
  | .tup es, a => (match a with
    | .Tuple l _ _ => chkEs I es l && l.all nst && decide (es.length ≤ 100000)
    | _ => false)
  | .lst es, a => (match a with
    | .List l _ => chkEs I es l && l.all nst && decide (es.length ≤ 100000)
    | _ => false)
  | .dct t, a => (match a with
    | .Dict [] [] _ => !t
    | _ => false)
  | .ix x y, a => (match a with
    | .Subscript l r _ => nsl r && chkE I x l && chkE I y r
    | _ => false)
  | .slc x, a => (match a with
    | .Subscript l (.Slice none none none _) _ => chkE I x l
    | _ => false)
  | .slcL x y, a => (match a with
    | .Subscript l (.Slice (some r) none none _) _ => chkE I x l && chkE I y r
    | _ => false)
  | .slcU x y, a => (match a with
    | .Subscript l (.Slice none (some r) none _) _ => chkE I x l && chkE I y r
    | _ => false)
  | .slcLU x y z, a => (match a with
    | .Subscript l (.Slice (some r) (some s) none _) _ => chkE I x l && chkE I y r && chkE I z s
    | _ => false)
  | .call f es, a => (match a with
    | .Call (.Name x _) l [] _ => I.cl && (decide (x = Str.ofString f) && glB I.sc x && decide (ar f = some es.length) && l.all nst && chkEs I es l)
    | _ => false)
  | .blt f es, a => (match a with
    | .Call (.Name x _) l [] _ => (match f.nm with
      | some z => (bltFree f || I.cl) && (decide (x = Str.ofString z) && glB I.sc x && !l.isEmpty && l.all nst && chkEs I es l)
      | none => (match l with
        | [.Call (.Name y _) r [] _] => I.cl && ((decide (f = .rngT) && decide (x = ("tuple" : Str)) || decide (f = .rngL) && decide (x = ("list" : Str))) && glB I.sc x && decide (y = ("range" : Str)) && glB I.sc y && r.all nst && (decide (es.length = 1) || decide (es.length = 2)) && chkEs I es r)
        | _ => false))
    | .Call (.Name x _) [a1] [⟨some k, b, _⟩] _ => I.cl && (decide (f = .minD) && decide (x = Str.ofString "min") && decide (k = ("default" : Str)) && glB I.sc x && nst a1 && chkEs I es [a1, b])
    | _ => false)
  | .mth m o es, a => (match a with
    | .Call (.Attribute l n ap) r [] cp => (match m.nm with
      | some z => decide (n = Str.ofString z)
      | none => false) && plainO l && (ap.endLine == cp.line) && r.all nst && decide (r.length < 10) && chkE I o l && chkEs I es r
    | _ => false)
  | .isi x ts, a => (match a with
    | .Call (.Name n _) [l, .Name y _] [] _ => (match ts with
      | [t] => decide (n = ("isinstance" : Str)) && glB I.sc n && decide (t ∈ ["int", "bool", "str", "tuple", "list"]) && decide (y = Str.ofString t) && glB I.sc y && nst l && chkE I x l
      | _ => false)
    | .Call (.Name n _) [l, .Tuple [.Name y _, .Name z _] _ _] [] _ => (match ts with
      | [t, u] => decide (n = ("isinstance" : Str)) && glB I.sc n && decide (t ∈ ["int", "bool", "str", "tuple", "list"]) && decide (y = Str.ofString t) && glB I.sc y && decide (u ∈ ["int", "bool", "str", "tuple", "list"]) && decide (z = Str.ofString u) && glB I.sc z && nst l && chkE I x l
      | _ => false)
    | _ => false)
  | .fld x f, a => (match a with
    | .Attribute (.Name y p) n _ => decide (n = Str.ofString f) && chkE I x (.Name y p)
    | _ => false)
  | .lc elt tg k its ifs own, a => (match a with
    | .ListComp x [⟨t, it, fs, 0⟩] scope _ => (match ownB I.N own with
      | some ow => I.cl && (blkC I.N I.sc scope ow && ownOk scope ow && tgB (I.blk scope ow) tg t && decide (∀ i ∈ tg.slots, i ∈ own) && decide (ifs.length ≤ 1) && chkE (I.blk scope ow) elt x && chkEs (I.blk scope ow) ifs fs && nset it &&
        (match k, its with
        | .val, [_] => chkEs I its [it]
        | .rng, _ => (match it with
          | .Call (.Name n _) l [] _ => decide (n = ("range" : Str)) && glB I.sc n && l.all nst && (decide (its.length = 1) || decide (its.length = 2)) && chkEs I its l
          | _ => false)
        | _, _ => false))
      | none => false)
    | _ => false)
def chkEs (I : Info) : List E → List Expr → Bool
  | [], l => l.isEmpty
  | e :: es, l => (match l with
    | a :: as => chkE I e a && chkEs I es as
    | [] => false)
end
end
theorem glb_blt {X : L2.Cx} {RX : Exc → Value → Option Addr → Hp → Prop} {c : Cx} {ar : String → Option Nat} {gl : String → Bool} {j : Nat} (g : Gs X RX c ar gl j) {z : String} {f : Blt} (h : f.nm = some z) : X.mg (Str.ofString z) = none := by
  refine g.blt _ ?_
  cases f <;> simp only [Blt.nm, Option.some.injEq, reduceCtorEq] at h <;> subst h <;> decide
end Sk
end
section
set_option Elab.async false
set_option linter.all false
set_option autoImplicit false
set_option maxRecDepth 100000
set_option maxHeartbeats 4000000
/-! SkE2: what the checker lets runs as the evaluator says. -/
namespace Sk
open PySem PySem.Spec PyProof.Rows L2
section
variable {RX : Exc → Value → Option Addr → Hp → Prop} {c : Cx} {ar : String → Option Nat} {gl : String → Bool} {j : Nat}
/-- a value's reading gives the test's -/
theorem both {X : L2.Cx} {W : WX} {a : Expr} {e : E} (h : PE X a (tE X.K RX W c e)) (he : ∀ whole, isTrue a X.env whole = (do let v ← whole; standAt a.pos; holding [v] (truthy v))) :
    PE X a (tE X.K RX W c e) ∧ PT X a (tT X.K RX W c e) := ⟨h, st_val h he⟩
theorem lc_pe {X : L2.Cx} {W : WX} {I : Info} {elt : E} {tg : Tg} {k : Ik} {its ifs : List E} {own : List Nat} {ow : List (Str × Nat)} {x t it : Expr} {fs : List Expr} {scope : Scope} {p : Pos} (g : Gs X RX c ar gl j) (hcl : X.calm = true) (ft : Fit X I)
    (hb : blkC I.N I.sc scope ow = true) (ho : ownB I.N own = some ow) (hs : ∀ i ∈ tg.slots, i ∈ own) (hl : ifs.length ≤ 1) (hn : nset it = true)
    (hi : PI X t it (tI X.K RX W c k its))
    (hg : ∀ (s : Shared) (H : Hp) (C : Addr) (cl : List (Str × Addr)) (fp : List Addr), PG (X.blk s H scope (compEnvC scope cl C X.env) fp) t (tG X.K tg))
    (ht : ∀ (s : Shared) (H : Hp) (C : Addr) (cl : List (Str × Addr)) (fp : List Addr), PTs (X.blk s H scope (compEnvC scope cl C X.env) fp) fs (tTs X.K RX c ifs))
    (he : ∀ (s : Shared) (H : Hp) (C : Addr) (cl : List (Str × Addr)) (fp : List Addr), PE (X.blk s H scope (compEnvC scope cl C X.env) fp) x (tE X.K RX W0 c elt)) :
    PE X (.ListComp x [⟨t, it, fs, 0⟩] scope p) (tE X.K RX W c (.lc elt tg k its ifs own)) := by
  have hfold : ∀ z, foldedSetIterable it X.env z = pure z := fun z => by cases it <;> first | rfl | cases hn
  refine L2PE.weak (pe_lc hcl ft.nd hi (blkOk_by (by rw [ft.hN, ft.sc]; exact hb)) hg ht he hfold) fun σ H Q h => ?_
  rw [ownB_snd ho]
  exact lc_read g.ck hl hs h
theorem decide_and {p : Prop} [Decidable p] {b : Bool} (h : (decide p && b) = true) : p ∧ b = true := by
  rw [Bool.and_eq_true, decide_eq_true_eq] at h
  exact h
theorem chkEs_len {I : Info} : ∀ (es : List E) (l : List Expr), chkEs ar gl I es l = true → es.length = l.length
  | [], l, h => by
    cases l with
    | nil => rfl
    | cons a l => simp [chkEs] at h
  | e :: es, l, h => by
    cases l with
    | nil => simp [chkEs] at h
    | cons a l =>
      simp only [chkEs, Bool.and_eq_true] at h
      simp [chkEs_len es l h.2]
theorem rng_pi {X : L2.Cx} {W : WX} {its : List E} {l : List Expr} {n : Str} {q pos : Pos} {t : Expr} (kc : CK c) (hx : n = "range") (hg : Gl X n) (hm : X.mg n = none) (ha : PA X l (tEs X.K RX W c its)) (hs : l.all nst = true) (hl : its.length = 1 ∨ its.length = 2) (he : its.length = l.length) :
    PI X t (.Call (.Name n q) l [] pos) (tI X.K RX W c .rng its) := by
  rcases hl with h1 | h1
  · match its, l, h1, he, ha, hs with
    | [e], [a], _, _, ha, hs => exact si_rng1 kc hx hg hm ha (by simpa using hs)
  · match its, l, h1, he, ha, hs with
    | [e, e2], [a, b], _, _, ha, hs =>
      simp only [List.all_cons, List.all_nil, Bool.and_true, Bool.and_eq_true] at hs
      exact si_rng2 kc hx hg hm ha hs.1 hs.2
mutual
theorem chkE_ok : ∀ (e : E) (X : L2.Cx) (I : Info) (W : WX) (a : Expr), Gs X RX c ar gl j → L2N.Takes X W → Fit X I → chkE ar gl I e a = true → PE X a (tE X.K RX W c e) ∧ PT X a (tT X.K RX W c e)
  | .var i, X, I, W, a, g, tk, ft, h => by
    unfold chkE at h
    split at h
    · obtain ⟨h1, h2, h3, h4⟩ := varB_ok ft h
      exact both (sd_var h1 h2 h3 h4) fun _ => rfl
    · cases h
  | .cst d, X, I, W, a, g, tk, ft, h => by
    unfold chkE at h
    split at h
    · rw [Bool.and_eq_true] at h
      obtain ⟨v, hv⟩ := Option.isSome_iff_exists.mp h.2
      exact both (sd_cst (constB_ok h.1 hv) hv) fun _ => rfl
    · cases h
  | .glb f, X, I, W, a, g, tk, ft, h => by
    unfold chkE at h
    split at h
    · simp only [Bool.and_eq_true, decide_eq_true_eq] at h
      obtain ⟨⟨rfl, h2⟩, h3⟩ := h
      obtain ⟨q1, q2, q3⟩ := glB_ok ft h2
      obtain ⟨d, v, u, k1, k2, k3, k4⟩ := g.gl f h3
      exact both (sd_glb q1 k2 k3 q2 k1 k4) fun _ => rfl
    · cases h
  | .bin o x y, X, I, W, a, g, tk, ft, h => by
    unfold chkE at h
    split at h
    · simp only [Bool.and_eq_true] at h
      obtain ⟨⟨h1, h2⟩, h3⟩ := h
      cases bopB_ok h1
      exact both (sd_bin (chkE_ok x X I W _ g tk ft h2).1 (chkE_ok y X I W _ g tk ft h3).1) fun _ => rfl
    · cases h
  | .neg x, X, I, W, a, g, tk, ft, h => by
    unfold chkE at h
    split at h
    · simp only [Bool.and_eq_true, decide_eq_true_eq] at h
      obtain ⟨rfl, h2⟩ := h
      exact both (sd_neg (chkE_ok x X I W _ g tk ft h2).1) fun _ => rfl
    · cases h
  | .cmp o x y, X, I, W, a, g, tk, ft, h => by
    unfold chkE at h
    split at h
    · simp only [Bool.and_eq_true] at h
      obtain ⟨⟨⟨h1, h2⟩, h3⟩, h4⟩ := h
      cases copB_ok h1
      have a1 := (chkE_ok x X I W _ g tk ft h3).1
      have a2 := (chkE_ok y X I W _ g tk ft h4).1
      exact ⟨sd_cmp g.rm a1 a2 (nset_in h2), st_cmp g.rm a1 a2 (nset_in h2)⟩
    · cases h
  | .chain o p x y z, X, I, W, a, g, tk, ft, h => by
    unfold chkE at h
    split at h
    · simp only [Bool.and_eq_true] at h
      obtain ⟨⟨⟨⟨⟨h1, h2⟩, h3⟩, h4⟩, h5⟩, h6⟩ := h
      cases copB_ok h1
      cases copB_ok h2
      have a1 := (chkE_ok x X I W _ g tk ft h4).1
      have a2 := (chkE_ok y X I W _ g tk ft h5).1
      have a3 := (chkE_ok z X I W _ g tk ft h6).1
      exact ⟨sd_chain g.rm a1 a2 a3 (nset_last h3), st_chain g.rm a1 a2 a3 (nset_last h3)⟩
    · cases h
  | .and x y, X, I, W, a, g, tk, ft, h => by
    unfold chkE at h
    split at h
    · simp only [Bool.and_eq_true] at h
      obtain ⟨a1, a2⟩ := chkE_ok x X I W _ g tk ft h.1
      obtain ⟨b1, b2⟩ := chkE_ok y X I W _ g tk ft h.2
      exact ⟨sd_and a1 (pe_one b1), st_and a2 (pw_and1 b2)⟩
    · simp only [Bool.and_eq_true] at h
      obtain ⟨a1, a2⟩ := chkE_ok x X I W _ g tk ft h.1
      obtain ⟨b1, b2⟩ := chkE_ok y X I W _ g tk ft h.2
      exact ⟨sd_and a1 b1, st_and a2 (bool_pw b2)⟩
    · cases h
  | .or x y, X, I, W, a, g, tk, ft, h => by
    unfold chkE at h
    split at h
    · simp only [Bool.and_eq_true] at h
      obtain ⟨a1, a2⟩ := chkE_ok x X I W _ g tk ft h.1
      obtain ⟨b1, b2⟩ := chkE_ok y X I W _ g tk ft h.2
      exact ⟨sd_or a1 (pe_one b1), st_or a2 (pw_or1 b2)⟩
    · simp only [Bool.and_eq_true] at h
      obtain ⟨a1, a2⟩ := chkE_ok x X I W _ g tk ft h.1
      obtain ⟨b1, b2⟩ := chkE_ok y X I W _ g tk ft h.2
      exact ⟨sd_or a1 b1, st_or a2 (bool_pw b2)⟩
    · cases h
  | .not x, X, I, W, a, g, tk, ft, h => by
    unfold chkE at h
    split at h
    · simp only [Bool.and_eq_true, decide_eq_true_eq] at h
      obtain ⟨rfl, h2⟩ := h
      obtain ⟨a1, a2⟩ := chkE_ok x X I W _ g tk ft h2
      exact ⟨sd_not a1, st_not a2⟩
    · cases h
  | .ite t x y, X, I, W, a, g, tk, ft, h => by
    unfold chkE at h
    split at h
    · simp only [Bool.and_eq_true] at h
      obtain ⟨⟨h1, h2⟩, h3⟩ := h
      obtain ⟨t1, t2⟩ := chkE_ok t X I W _ g tk ft h1
      obtain ⟨a1, a2⟩ := chkE_ok x X I W _ g tk ft h2
      obtain ⟨b1, b2⟩ := chkE_ok y X I W _ g tk ft h3
      exact ⟨sd_ite t2 a1 b1, st_ite t2 a2 b2⟩
    · cases h
  | .tup es, X, I, W, a, g, tk, ft, h => by
    unfold chkE at h
    split at h
    · simp only [Bool.and_eq_true, decide_eq_true_eq] at h
      obtain ⟨⟨h1, h2⟩, h3⟩ := h
      exact both (sd_tup (chkEs_ok es X I W _ g tk ft h1 h2) h3) fun _ => rfl
    · cases h
  | .lst es, X, I, W, a, g, tk, ft, h => by
    unfold chkE at h
    split at h
    · simp only [Bool.and_eq_true, decide_eq_true_eq] at h
      obtain ⟨⟨h1, h2⟩, h3⟩ := h
      exact both (sd_lst (chkEs_ok es X I W _ g tk ft h1 h2) h3) fun _ => rfl
    · cases h
  | .dct t, X, I, W, a, g, tk, ft, h => by
    unfold chkE at h
    split at h
    · cases t with
      | true => cases h
      | false => exact both sd_dct fun _ => rfl
    · cases h
  | .ix x y, X, I, W, a, g, tk, ft, h => by
    unfold chkE at h
    split at h
    · simp only [Bool.and_eq_true] at h
      obtain ⟨⟨h1, h2⟩, h3⟩ := h
      exact both (sd_ix g.rm (chkE_ok x X I W _ g tk ft h2).1 (chkE_ok y X I W _ g tk ft h3).1 (nsl_ix h1)) fun _ => rfl
    · cases h
  | .slc x, X, I, W, a, g, tk, ft, h => by
    unfold chkE at h
    split at h
    · exact both (sd_slc (chkE_ok x X I W _ g tk ft h).1) fun _ => rfl
    · cases h
  | .slcL x y, X, I, W, a, g, tk, ft, h => by
    unfold chkE at h
    split at h
    · simp only [Bool.and_eq_true] at h
      exact both (sd_slcL (chkE_ok x X I W _ g tk ft h.1).1 (chkE_ok y X I W _ g tk ft h.2).1) fun _ => rfl
    · cases h
  | .slcU x y, X, I, W, a, g, tk, ft, h => by
    unfold chkE at h
    split at h
    · simp only [Bool.and_eq_true] at h
      exact both (sd_slcU (chkE_ok x X I W _ g tk ft h.1).1 (chkE_ok y X I W _ g tk ft h.2).1) fun _ => rfl
    · cases h
  | .slcLU x y z, X, I, W, a, g, tk, ft, h => by
    unfold chkE at h
    split at h
    · simp only [Bool.and_eq_true] at h
      exact both (sd_slcLU (chkE_ok x X I W _ g tk ft h.1.1).1 (chkE_ok y X I W _ g tk ft h.1.2).1 (chkE_ok z X I W _ g tk ft h.2).1) fun _ => rfl
    · cases h
  | .call f es, X, I, W, a, g, tk, ft, h => by
    unfold chkE at h
    split at h
    · rename_i x p l pos
      simp only [Bool.and_eq_true, decide_eq_true_eq] at h
      obtain ⟨hcl, ⟨⟨⟨rfl, h2⟩, h3⟩, h4⟩, h5⟩ := h
      obtain ⟨q1, q2, q3⟩ := glB_ok ft h2
      obtain ⟨k, q, fd, ps, F, hk, hm, hkp, hb⟩ := g.fn f _ h3
      have ha := chkEs_ok es X I W _ g tk ft h5 h4
      cases l with
      | nil =>
        cases es with
        | nil => exact both (sd_call0 tk F ((g.room (ft.cal hcl)).mono hk) q1 hm hkp hb q2) fun _ => rfl
        | cons e es => simp [chkEs] at h5
      | cons a l =>
        rw [List.all_cons, Bool.and_eq_true] at h4
        exact both (sd_call tk F ((g.room (ft.cal hcl)).mono hk) q1 hm hkp hb ha rfl q2 (star1 h4.1) (back_plain h4.2)) fun _ => rfl
    · cases h
  | .blt f es, X, I, W, a, g, tk, ft, h => by
    unfold chkE at h
    split at h
    · rename_i x p l pos
      split at h
      · rename_i z hz
        simp only [Bool.and_eq_true, Bool.or_eq_true, decide_eq_true_eq] at h
        obtain ⟨hcl, ⟨⟨⟨h1, h2⟩, h3⟩, h4⟩, h5⟩ := h
        obtain ⟨q1, q2, q3⟩ := glB_ok ft h2
        have ha := chkEs_ok es X I W _ g tk ft h5 h4
        cases l with
        | nil => cases h3
        | cons a l => exact both (sd_blt hz h1 (hcl.imp id ft.cal) g.rm q1 (by rw [h1]; exact glb_blt g hz) ha q3 q2 h4) fun _ => rfl
      · split at h
        · rename_i y q r p2
          simp only [Bool.and_eq_true, decide_eq_true_eq] at h
          obtain ⟨hcl, ⟨⟨⟨⟨⟨h1, h2⟩, h3⟩, h4⟩, h5⟩, h6⟩, h7⟩ := h
          obtain ⟨q1, q2, q3⟩ := glB_ok ft h2
          obtain ⟨r1, r2, r3⟩ := glB_ok ft h4
          have hm : X.mg y = none := by rw [h3]; exact g.blt _ (by decide)
          have ha := chkEs_ok es X I W _ g tk ft h7 h5
          have key : ∃ t : Bool, f = (if t then .rngT else .rngL) ∧ x = (if t then ("tuple" : Str) else ("list" : Str)) := by
            simp only [Bool.or_eq_true, Bool.and_eq_true, decide_eq_true_eq] at h1
            rcases h1 with ⟨a, b⟩ | ⟨a, b⟩
            · exact ⟨true, by rw [a]; rfl, by rw [b]; rfl⟩
            · exact ⟨false, by rw [a]; rfl, by rw [b]; rfl⟩
          obtain ⟨t, rfl, hx⟩ := key
          have hmx : X.mg x = none := by
            rw [hx]
            cases t
            · exact g.blt _ (by decide)
            · exact g.blt _ (by decide)
          cases es with
          | nil => simp at h6
          | cons e es =>
            cases r with
            | nil => simp [chkEs] at h7
            | cons a r =>
              cases es with
              | nil =>
                cases r with
                | cons b r => simp [chkEs] at h7
                | nil =>
                  simp only [chkEs, Bool.and_eq_true] at h7
                  simp only [List.all_cons, List.all_nil, Bool.and_true] at h5
                  exact both (sd_rng1 (ft.cal hcl) q1 hmx r1 h3 hm hx (chkE_ok e X I W _ g tk ft h7.1).1 h5) fun _ => rfl
              | cons e2 es =>
                cases r with
                | nil => simp [chkEs] at h7
                | cons b r =>
                  cases es with
                  | cons _ _ => simp at h6
                  | nil =>
                    cases r with
                    | cons _ _ => simp [chkEs] at h7
                    | nil =>
                      simp only [chkEs, Bool.and_eq_true] at h7
                      simp only [List.all_cons, List.all_nil, Bool.and_true, Bool.and_eq_true] at h5
                      exact both (sd_rng2 (ft.cal hcl) q1 hmx r1 h3 hm hx (chkE_ok e X I W _ g tk ft h7.1).1 (chkE_ok e2 X I W _ g tk ft h7.2.1).1 h5.1 h5.2) fun _ => rfl
        · cases h
    · rename_i x p a1 k b kp pos
      simp only [Bool.and_eq_true, decide_eq_true_eq] at h
      obtain ⟨hcl, ⟨⟨⟨⟨rfl, h1⟩, rfl⟩, h2⟩, h3⟩, h4⟩ := h
      obtain ⟨q1, q2, q3⟩ := glB_ok ft h2
      have hmx : X.mg x = none := by rw [h1]; exact g.blt _ (by decide)
      cases es with
      | nil => simp [chkEs] at h4
      | cons e es =>
        cases es with
        | nil => simp [chkEs] at h4
        | cons e2 es =>
          cases es with
          | cons _ _ => simp [chkEs] at h4
          | nil =>
            simp only [chkEs, Bool.and_eq_true] at h4
            exact both (sd_minD (ft.cal hcl) g.rm q1 h1 hmx (chkE_ok e X I W _ g tk ft h4.1).1 (chkE_ok e2 X I W _ g tk ft h4.2.1).1 q3 q2 h3) fun _ => rfl
    · cases h
  | .mth m o es, X, I, W, a, g, tk, ft, h => by
    unfold chkE at h
    split at h
    · rename_i l n ap r cp
      simp only [Bool.and_eq_true, decide_eq_true_eq] at h
      obtain ⟨⟨⟨⟨⟨⟨h1, h2⟩, h3⟩, h4⟩, h5⟩, h6⟩, h7⟩ := h
      split at h1
      · rename_i z hz
        rw [decide_eq_true_eq] at h1
        subst h1
        have mo := mok_of (X := X) g.rm hz
        have ho := (chkE_ok o X I W _ g tk ft h6).1
        have ha := chkEs_ok es X I W _ g tk ft h7 h4
        cases r with
        | nil =>
          cases es with
          | nil => exact both (sd_mth0 mo ho h2 h3) fun _ => rfl
          | cons e es => simp [chkEs] at h7
        | cons a r => exact both (sd_mth mo ho ha h4 h5 h2 h3) fun _ => rfl
      · cases h1
    · cases h
  | .isi x ts, X, I, W, a, g, tk, ft, h => by
    have ty1 : ∀ (t : String) (y : Str) (p0 : Pos), t ∈ ["int", "bool", "str", "tuple", "list"] → y = Str.ofString t → glB I.sc y = true → PE X (.Name y p0) (tC (.ty t)) := fun t y p0 h3 h4 h5 => by
      obtain ⟨r1, r2, r3⟩ := glB_ok ft h5
      have hT : t = "int" ∨ t = "bool" ∨ t = "str" ∨ t = "tuple" ∨ t = "list" := by simpa using h3
      exact sd_ty (T := t) r1 (by rw [h4]; refine g.blt _ ?_; rcases hT with rfl | rfl | rfl | rfl | rfl <;> decide) (by rw [h4]; rcases hT with rfl | rfl | rfl | rfl | rfl <;> decide +kernel) r3 r2
    unfold chkE at h
    split at h
    · split at h
      · rename_i t
        simp only [Bool.and_eq_true, decide_eq_true_eq] at h
        obtain ⟨⟨⟨⟨⟨⟨h1, h2⟩, h3⟩, h4⟩, h5⟩, h6⟩, h7⟩ := h
        obtain ⟨q1, q2, q3⟩ := glB_ok ft h2
        exact both (sd_isi q1 (by rw [h1]; exact g.blt _ (by decide)) h1 h3 (ty1 t _ _ h3 h4 h5) (chkE_ok x X I W _ g tk ft h7).1 h6) fun _ => rfl
      · cases h
    · split at h
      · rename_i t u
        simp only [Bool.and_eq_true, decide_eq_true_eq] at h
        obtain ⟨⟨⟨⟨⟨⟨⟨⟨⟨h1, h2⟩, h3⟩, h4⟩, h5⟩, k3⟩, k4⟩, k5⟩, h6⟩, h7⟩ := h
        obtain ⟨q1, q2, q3⟩ := glB_ok ft h2
        exact both (sd_isi2 q1 (by rw [h1]; exact g.blt _ (by decide)) h1 h3 k3 (ty1 t _ _ h3 h4 h5) (ty1 u _ _ k3 k4 k5) (chkE_ok x X I W _ g tk ft h7).1 h6) fun _ => rfl
      · cases h
    · cases h
  | .fld x f, X, I, W, a, g, tk, ft, h => by
    unfold chkE at h
    split at h
    · simp only [Bool.and_eq_true, decide_eq_true_eq] at h
      exact both (sd_fld (chkE_ok x X I W _ g tk ft h.2).1 h.1 rfl) fun _ => rfl
    · cases h
  | .lc elt tg k its ifs own, X, I, W, a, g, tk, ft, h => by
    unfold chkE at h
    split at h
    · rename_i x t it fs scope p
      split at h
      · rename_i ow ho
        simp only [Bool.and_eq_true, decide_eq_true_eq] at h
        obtain ⟨hcl, ⟨⟨⟨⟨⟨⟨⟨h1, h2⟩, h3⟩, h4⟩, h5⟩, h6⟩, h7⟩, h8⟩, h9⟩ := h
        refine both (lc_pe g (ft.cal hcl) ft h1 ho h4 h5 h8 ?_ (fun s H C cl fp => tgB_ok (ft.blk h2 s H C cl fp) (ft.cal hcl) h3) (fun s H C cl fp => ?_) fun s H C cl fp => (chkE_ok elt _ _ W0 _ (g.blk s H _ fp) (takes_blk s H _ fp) (ft.blk h2 s H C cl fp) h6).1) fun _ => rfl
        · split at h9
          · rename_i e
            simp only [chkEs, Bool.and_eq_true] at h9
            exact si_val g.ck (chkE_ok e X I W it g tk ft h9.1).1
          · split at h9
            · rename_i n q l pos
              simp only [Bool.and_eq_true, Bool.or_eq_true, decide_eq_true_eq] at h9
              obtain ⟨⟨⟨⟨a1, a2⟩, a3⟩, a4⟩, a5⟩ := h9
              obtain ⟨q1, q2, q3⟩ := glB_ok ft a2
              have ha := chkEs_ok its X I W _ g tk ft a5 a3
              have hm : X.mg n = none := by rw [a1]; exact g.blt _ (by decide)
              exact rng_pi g.ck a1 q1 hm ha a3 a4 (chkEs_len its l a5)
            · cases h9
          · cases h9
        · cases ifs with
          | nil =>
            cases fs with
            | nil => exact pts_nil
            | cons f fs => simp [chkEs] at h7
          | cons e ifs =>
            cases fs with
            | nil => simp [chkEs] at h7
            | cons f fs =>
              have hfs : fs = [] := by
                have := chkEs_len _ _ h7
                simp only [List.length_cons] at this h5
                cases fs with
                | nil => rfl
                | cons _ _ => simp only [List.length_cons] at this; omega
              subst hfs
              simp only [chkEs, Bool.and_eq_true] at h7
              exact pts_one (chkE_ok e _ _ W0 _ (g.blk s H _ fp) (takes_blk s H _ fp) (ft.blk h2 s H C cl fp) h7.1).2
      · cases h
    · cases h
theorem chkEs_ok : ∀ (es : List E) (X : L2.Cx) (I : Info) (W : WX) (l : List Expr), Gs X RX c ar gl j → L2N.Takes X W → Fit X I → chkEs ar gl I es l = true → l.all nst = true → PA X l (tEs X.K RX W c es)
  | [], X, I, W, l, g, tk, ft, h, hn => by
    cases l with
    | nil => exact sa_nil
    | cons a l => simp [chkEs] at h
  | e :: es, X, I, W, l, g, tk, ft, h, hn => by
    cases l with
    | nil => simp [chkEs] at h
    | cons a l =>
      simp only [chkEs, Bool.and_eq_true] at h
      rw [List.all_cons, Bool.and_eq_true] at hn
      exact sa_cons (chkE_ok e X I W a g tk ft h.1).1 (chkEs_ok es X I W l g tk ft h.2 hn.2) (star1 hn.1)
end
end
end Sk
end
section
set_option Elab.async false
set_option linter.all false
set_option autoImplicit false
set_option maxRecDepth 100000
set_option maxHeartbeats 4000000
/-! SkF: the checker of statements. -/
namespace Sk
open PySem PySem.Spec PyProof.Rows L2
section
variable (ar : String → Option Nat) (gl : String → Bool) (I : Info)
/-- what is walked -/
def chkI (k : Ik) (its : List E) (it : Expr) : Bool := nset it && (match k, its with
  | .val, [_] => chkEs ar gl I its [it]
  | .rng, _ => (match it with
    | .Call (.Name n _) l [] _ => decide (n = ("range" : Str)) && glB I.sc n && l.all nst && (decide (its.length = 1) || decide (its.length = 2)) && chkEs ar gl I its l
    | _ => false)
  | _, _ => false)
/-- zip of two -/
def chkZ (k : Ik) (its : List E) (tg it : Expr) : Bool := (match tg with
  | .Tuple _ _ _ => true
  | _ => false) && decide (k = .zip) && decide (its.length = 2) && (match it with
  | .Call (.Name n _) l [] _ => decide (n = ("zip" : Str)) && glB I.sc n && l.all nst && chkEs ar gl I its l
  | _ => false)
end
section
variable (ar : String → Option Nat) (gl : String → Bool) (xs : List (String × String))
mutual
def chkS (I : Info) : S → Stmt → Bool
  | .set i e, st => (match st with
    | .Assign [.Name x _] v _ => asgB I i x && chkE ar gl I e v
    | _ => false)
  | .unp is e, st => (match st with
    | .Assign [.Tuple ts _ _] v _ => I.cl && (tgsB I is ts && nlc v && ntl v && chkE ar gl I e v)
    | _ => false)
  | .par _ _ _ _, _ => false
  | .put v o i, st => (match st with
    | .Assign [.Subscript a b _] e _ => nsl b && nlc e && chkE ar gl I v e && chkE ar gl I o a && chkE ar gl I i b
    | _ => false)
  | .app o e, st => (match st with
    | .Expr (.Call (.Attribute a n ap) [b] [] cp) _ => decide (n = ("append" : Str)) && plainO a && nst b && (ap.endLine == cp.line) && chkE ar gl I o a && chkE ar gl I e b
    | _ => false)
  | .ext o e, st => (match st with
    | .Expr (.Call (.Attribute a n ap) [b] [] cp) _ => decide (n = ("extend" : Str)) && plainO a && nst b && (ap.endLine == cp.line) && chkE ar gl I o a && chkE ar gl I e b
    | _ => false)
  | .rev o, st => (match st with
    | .Expr (.Call (.Attribute a n ap) [] [] cp) _ => decide (n = ("reverse" : Str)) && plainO a && (ap.endLine == cp.line) && chkE ar gl I o a
    | _ => false)
  | .exp e, st => (match st with
    | .Expr v _ => nlc v && chkE ar gl I e v
    | _ => false)
  | .ret e, st => (match st with
    | .Return (some v) _ => chkE ar gl I e v
    | _ => false)
  | .retN, st => (match st with
    | .Return none _ => true
    | _ => false)
  | .iff t a b, st => (match st with
    | .If u xs ys _ => chkE ar gl I t u && chkSs I a xs && chkSs I b ys
    | _ => false)
  | .for tg k its body _, st => (match st with
    | .For t it xs [] _ => I.cl && (tgB I tg t && (chkI ar gl I k its it || chkZ ar gl I k its t it) && chkSs I body xs)
    | _ => false)
  | .while t body _, st => (match st with
    | .While u xs [] _ => I.cl && (chkE ar gl I t u && chkSs I body xs)
    | _ => false)
  | .brk, st => (match st with
    | .Break _ => true
    | _ => false)
  | .cnt, st => (match st with
    | .Continue _ => true
    | _ => false)
  | .pass, st => (match st with
    | .Pass _ => true
    | _ => false)
  | .rai _ _, st => (match st with
    | .Raise _ _ _ => true
    | _ => false)
  | .rse k f e, st => (match st with
    | .Raise (some (.Call (.Name x _) [a] [] _)) none _ => I.cl && (decide ((k, f) ∈ xs) && decide (x = Str.ofString k) && glB I.sc x && nst a && chkE ar gl I e a)
    | _ => false)
  | .tri body cs bs, st => (match st with
    | .Try us (h :: hs) [] [] _ => I.cl && (chkSs I body us && chkHs I bs cs (h :: hs))
    | _ => false)
def chkSs (I : Info) : List S → List Stmt → Bool
  | [], l => l.isEmpty
  | s :: ss, l => (match l with
    | a :: as => chkS I s a && chkSs I ss as
    | [] => false)
/-- the clauses of a try -/
def chkHs (I : Info) : List (List S) → List (String × Option Nat) → List ExceptHandler → Bool
  | [], cs, hs => cs.isEmpty && hs.isEmpty
  | b :: bs, cs, hs => (match cs, hs with
    | q :: cs, .ExceptHandler (some (.Name x _)) nm (b0 :: us) _ :: hs => decide (x = Str.ofString q.1) && glB I.sc x && decide (q.1 ∈ xs.map (·.1)) && (match q.2, nm with
        | none, none => true
        | some i, some n => decide (I.N[i]? = some n) && decide (I.sc.names.lookup n = some .local)
        | _, _ => false) && chkSs { I with cl := false } b (b0 :: us) && chkHs I bs cs hs
    | _, _ => false)
end
end
section
variable {RX : Exc → Value → Option Addr → Hp → Prop} {c : Cx} {ar : String → Option Nat} {gl : String → Bool} {j : Nat}
theorem nset_fold {it : Expr} {env : PySem.Env} (h : nset it = true) : ∀ z, foldedSetIterable it env z = pure z := fun z => by cases it <;> first | rfl | cases h
theorem chkI_ok {X : L2.Cx} {I : Info} {W : WX} {k : Ik} {its : List E} {it t : Expr} (g : Gs X RX c ar gl j) (tk : L2N.Takes X W) (ft : Fit X I) (h : chkI ar gl I k its it = true) : PI X t it (tI X.K RX W c k its) := by
  unfold chkI at h
  rw [Bool.and_eq_true] at h
  obtain ⟨_, h9⟩ := h
  split at h9
  · rename_i e
    simp only [chkEs, Bool.and_eq_true] at h9
    exact si_val g.ck (chkE_ok e X I W it g tk ft h9.1).1
  · split at h9
    · rename_i n q l pos
      simp only [Bool.and_eq_true, Bool.or_eq_true, decide_eq_true_eq] at h9
      obtain ⟨⟨⟨⟨a1, a2⟩, a3⟩, a4⟩, a5⟩ := h9
      obtain ⟨q1, q2, q3⟩ := glB_ok ft a2
      have ha := chkEs_ok its X I W _ g tk ft a5 a3
      exact rng_pi g.ck a1 q1 (by rw [a1]; exact g.blt _ (by decide)) ha a3 a4 (chkEs_len its _ a5)
    · cases h9
  · cases h9
theorem chkZ_ok {X : L2.Cx} {I : Info} {W : WX} {k : Ik} {its : List E} {it t : Expr} (g : Gs X RX c ar gl j) (tk : L2N.Takes X W) (ft : Fit X I) (h : chkZ ar gl I k its t it = true) : PI X t it (tI X.K RX W c k its) ∧ ∀ z, foldedSetIterable it X.env z = pure z := by
  unfold chkZ at h
  simp only [Bool.and_eq_true, decide_eq_true_eq] at h
  obtain ⟨⟨⟨h1, h2⟩, h3⟩, h4⟩ := h
  subst h2
  split at h4
  · rename_i n q l pos
    simp only [Bool.and_eq_true, decide_eq_true_eq] at h4
    obtain ⟨⟨⟨a1, a2⟩, a3⟩, a5⟩ := h4
    obtain ⟨q1, q2, q3⟩ := glB_ok ft a2
    have ha := chkEs_ok its X I W _ g tk ft a5 a3
    have hm : X.mg n = none := by rw [a1]; exact g.blt _ (by decide)
    refine ⟨?_, fun z => rfl⟩
    split at h1
    · match its, l, h3, chkEs_len its l a5, ha, a3 with
      | [e, e2], [a, b], _, _, ha, hs =>
        simp only [List.all_cons, List.all_nil, Bool.and_true, Bool.and_eq_true] at hs
        exact si_zip g.ck a1 q1 hm ha hs.1 hs.2
    · cases h1
  · cases h4
/-- name = [..] -/
theorem lc_set {X : L2.Cx} {I : Info} {W : WX} {i : Nat} {y : Str} {e : E} {x : Expr} {gs : List Comprehension} {scope : Scope} {p py pos : Pos} (g : Gs X RX c ar gl j) (tk : L2N.Takes X W) (ft : Fit X I) (hk : X.env.scope.kind = .function) (hy : asgB I i y = true)
    (h : chkE ar gl I e (.ListComp x gs scope p) = true) : PS X (.Assign [.Name y py] (.ListComp x gs scope p) pos) (tS X.K RX W c (.set i e)) := by
  have n := asgB_ok ft hy
  have he := (chkE_ok e X I W _ g tk ft h).1
  have hb : X.env.blockKind = .function := by unfold Env.blockKind; rw [hk]; rfl
  have hsw : swapsWith (.ListComp x gs scope p) (some (.Name y py)) pos.line X.env = pure (X.env.blockKind == .function && X.env.kindOf y == some .local && py.line == p.line && !(scope.names.any fun (n, k) => n == y && (k == .local || k == .cell))) := rfl
  cases hq : (X.env.blockKind == .function && X.env.kindOf y == some .local && py.line == p.line && !(scope.names.any fun (n, k) => n == y && (k == .local || k == .cell))) with
  | false =>
    rw [hq] at hsw
    exact L2PS.weak (ps_set ft.nd n.ix n.loc he hsw n.fn) (sset_read (te := he) g.ck)
  | true =>
    rw [hq] at hsw
    simp only [Bool.and_eq_true] at hq
    have hyl : X.env.scope.names.lookup y = some .local := by
      have := hq.1.1.2
      exact eq_of_beq this
    cases e <;> try (simp [chkE] at h; done)
    rename_i elt tg k its ifs own
    unfold chkE at h
    split at h
    rotate_left
    · cases h
    rename_i x' t it fs scope' p' heq
    cases heq
    split at h
    rotate_left
    · cases h
    rename_i ow ho
    simp only [Bool.and_eq_true, decide_eq_true_eq] at h
    obtain ⟨hcl, ⟨⟨⟨⟨⟨⟨⟨h1, h2⟩, h3⟩, h4⟩, h5⟩, h6⟩, h7⟩, h8⟩, h9⟩ := h
    have hi : PI X t it (tI X.K RX W c k its) := chkI_ok g tk ft (by unfold chkI; rw [Bool.and_eq_true]; exact ⟨h8, h9⟩)
    refine L2PS.weak (ps_setLc (wi := tI X.K RX W c k its) (g := tG X.K tg) (tt := tTs X.K RX c ifs) (te := tE X.K RX W0 c elt) (ft.cal hcl) ft.nd n.ix hyl hsw hi (blkOk_by (by rw [ft.hN, ft.sc]; exact h1)) (fun s H C cl fp => tgB_ok (ft.blk h2 s H C cl fp) (ft.cal hcl) h3) (fun s H C cl fp => ?_)
      (fun s H C cl fp => (chkE_ok elt _ _ W0 _ (g.blk s H _ fp) (takes_blk s H _ fp) (ft.blk h2 s H C cl fp) h6).1) (nset_fold h8)) fun D σ H q => ?_
    · cases ifs with
      | nil =>
        cases fs with
        | nil => exact pts_nil
        | cons f fs => simp [chkEs] at h7
      | cons e ifs =>
        cases fs with
        | nil => simp [chkEs] at h7
        | cons f fs =>
          have hfs : fs = [] := by
            have := chkEs_len _ _ h7
            simp only [List.length_cons] at this h5
            cases fs with
            | nil => rfl
            | cons _ _ => simp only [List.length_cons] at this; omega
          subst hfs
          simp only [chkEs, Bool.and_eq_true] at h7
          exact pts_one (chkE_ok e _ _ W0 _ (g.blk s H _ fp) (takes_blk s H _ fp) (ft.blk h2 s H C cl fp) h7.1).2
    · have q2 := sset_read (te := he) g.ck D σ H q
      show tLc _ _ _ _ (ow.map (·.2)) σ H _
      rw [ownB_snd ho]
      exact lc_read g.ck h5 h4 q2
/-- what is known of the classes -/
def Xk (X : L2.Cx) (RX : Exc → Value → Option Addr → Hp → Prop) (xs : List (String × String)) : Prop :=
  RX = RXK X.K (xs.map (·.1)) ∧ (∀ q ∈ xs, Raisable X.prog X.w X.K X.mg X.base q.1 q.2 ∧ (X.calm = true → Room 2 X.A)) ∧ ClOk X.K (xs.map (·.1))
variable {xs : List (String × String)}
mutual
theorem chkS_ok : ∀ (s : S) (X : L2.Cx) (I : Info) (W : WX) (st : Stmt), Gs X RX c ar gl j → L2N.Takes X W → Fit X I → X.env.scope.kind = .function → (I.cl = true → PassesOwn (model X.prog X.w) X.A X.env X.xe ∧ X.stack = X.env :: X.outer ∧ X.env.frame = some X.env.locals) → Xk X RX xs → chkS ar gl xs I s st = true → PS X st (tS X.K RX W c s)
  | .set i e, X, I, W, st, g, tk, ft, hk, hp, xk, h => by
    unfold chkS at h
    split at h
    · rename_i x p v pos
      rw [Bool.and_eq_true] at h
      by_cases hn : nlc v = true
      · exact ss_set g.ck ft.nd (asgB_ok ft h.1) (chkE_ok e X I W v g tk ft h.2).1 hn
      · cases v with
        | ListComp x gs scope p => exact lc_set g tk ft hk h.1 h.2
        | SetComp x gs scope p => cases e <;> simp [chkE] at h
        | DictComp x y gs scope p => cases e <;> simp [chkE] at h
        | _ => exact absurd rfl hn
    · cases h
  | .unp is e, X, I, W, st, g, tk, ft, hk, hp, xk, h => by
    unfold chkS at h
    split at h
    · simp only [Bool.and_eq_true] at h
      obtain ⟨hcl, ⟨⟨h1, h2⟩, h3⟩, h4⟩ := h
      exact ss_unp g.ck (chkE_ok e X I W _ g tk ft h4).1 (tgB_ok ft (ft.cal hcl) (tg := .many is) h1) h2 h3
    · cases h
  | .par i j a b, X, I, W, st, g, tk, ft, hk, hp, xk, h => by
    unfold chkS at h
    cases h
  | .put v o i, X, I, W, st, g, tk, ft, hk, hp, xk, h => by
    unfold chkS at h
    split at h
    · simp only [Bool.and_eq_true] at h
      obtain ⟨⟨⟨⟨h1, h2⟩, h3⟩, h4⟩, h5⟩ := h
      exact ss_put g.ck g.rm (chkE_ok v X I W _ g tk ft h3).1 (chkE_ok o X I W _ g tk ft h4).1 (chkE_ok i X I W _ g tk ft h5).1 h1 h2
    · cases h
  | .app o e, X, I, W, st, g, tk, ft, hk, hp, xk, h => by
    unfold chkS at h
    split at h
    · simp only [Bool.and_eq_true, decide_eq_true_eq] at h
      obtain ⟨⟨⟨⟨⟨rfl, h2⟩, h3⟩, h4⟩, h5⟩, h6⟩ := h
      exact ss_app (es := []) g.ck (chkE_ok o X I W _ g tk ft h5).1 (chkE_ok e X I W _ g tk ft h6).1 h2 h3 h4
    · cases h
  | .ext o e, X, I, W, st, g, tk, ft, hk, hp, xk, h => by
    unfold chkS at h
    split at h
    · simp only [Bool.and_eq_true, decide_eq_true_eq] at h
      obtain ⟨⟨⟨⟨⟨rfl, h2⟩, h3⟩, h4⟩, h5⟩, h6⟩ := h
      exact ss_ext g.ck (chkE_ok o X I W _ g tk ft h5).1 (chkE_ok e X I W _ g tk ft h6).1 h2 h3 h4
    · cases h
  | .rev o, X, I, W, st, g, tk, ft, hk, hp, xk, h => by
    unfold chkS at h
    split at h
    · simp only [Bool.and_eq_true, decide_eq_true_eq] at h
      obtain ⟨⟨⟨rfl, h2⟩, h3⟩, h4⟩ := h
      exact ss_rev g.ck (chkE_ok o X I W _ g tk ft h4).1 h2 h3
    · cases h
  | .exp e, X, I, W, st, g, tk, ft, hk, hp, xk, h => by
    unfold chkS at h
    split at h
    · rw [Bool.and_eq_true] at h
      exact ss_exp g.ck (chkE_ok e X I W _ g tk ft h.2).1 h.1
    · cases h
  | .ret e, X, I, W, st, g, tk, ft, hk, hp, xk, h => by
    unfold chkS at h
    split at h
    · exact ss_ret g.ck (chkE_ok e X I W _ g tk ft h).1
    · cases h
  | .retN, X, I, W, st, g, tk, ft, hk, hp, xk, h => by
    unfold chkS at h
    split at h
    · exact ss_retN
    · cases h
  | .iff t a b, X, I, W, st, g, tk, ft, hk, hp, xk, h => by
    unfold chkS at h
    split at h
    · simp only [Bool.and_eq_true] at h
      exact ss_iff g.ck (chkE_ok t X I W _ g tk ft h.1.1).2 (chkSs_ok a X I W _ g tk ft hk hp xk h.1.2) (chkSs_ok b X I W _ g tk ft hk hp xk h.2)
    · cases h
  | .for tg k its body kill, X, I, W, st, g, tk, ft, hk, hp, xk, h => by
    unfold chkS at h
    split at h
    · simp only [Bool.and_eq_true] at h
      obtain ⟨hcl, h⟩ := h
      obtain ⟨⟨ht, hi⟩, hb⟩ := h
      rw [Bool.or_eq_true] at hi
      rcases hi with hi | hi
      · have h2 := hi
        unfold chkI at h2
        rw [Bool.and_eq_true] at h2
        exact ss_for g.ck (hp hcl).1 (ft.cal hcl) (chkI_ok g tk ft hi) (tgB_ok ft (ft.cal hcl) ht) (chkSs_ok body X I W _ g tk ft hk hp xk hb) (nset_fold h2.1)
      · obtain ⟨z1, z2⟩ := chkZ_ok (W := W) g tk ft hi
        exact ss_for g.ck (hp hcl).1 (ft.cal hcl) z1 (tgB_ok ft (ft.cal hcl) ht) (chkSs_ok body X I W _ g tk ft hk hp xk hb) z2
    · cases h
  | .while t body kill, X, I, W, st, g, tk, ft, hk, hp, xk, h => by
    unfold chkS at h
    split at h
    · simp only [Bool.and_eq_true] at h
      obtain ⟨hcl, h⟩ := h
      exact ss_while g.ck (hp hcl).1 (chkE_ok t X I W _ g tk ft h.1).2 (chkSs_ok body X I W _ g tk ft hk hp xk h.2)
    · cases h
  | .brk, X, I, W, st, g, tk, ft, hk, hp, xk, h => by
    unfold chkS at h
    split at h
    · exact ss_brk
    · cases h
  | .cnt, X, I, W, st, g, tk, ft, hk, hp, xk, h => by
    unfold chkS at h
    split at h
    · exact ss_cnt
    · cases h
  | .pass, X, I, W, st, g, tk, ft, hk, hp, xk, h => by
    unfold chkS at h
    split at h
    · exact ss_pass
    · cases h
  | .rai f es, X, I, W, st, g, tk, ft, hk, hp, xk, h => ⟨fun pins s σ H D I h => by
    obtain ⟨ρ, M, ι, re, sr, h⟩ := h
    unfold ex at h
    exact h.elim⟩
  | .rse f' f e, X, I, W, st, g, tk, ft, hk, hp, xk, h => by
    unfold chkS at h
    split at h
    · simp only [Bool.and_eq_true, decide_eq_true_eq] at h
      obtain ⟨hcl, ⟨⟨⟨h1, h2⟩, h3⟩, h4⟩, h5⟩ := h
      obtain ⟨q1, q2, q3⟩ := glB_ok ft h3
      obtain ⟨rfl, xk2, xk3⟩ := xk
      obtain ⟨R, hr⟩ := xk2 _ h1
      exact ss_rse g.ck (ft.cal hcl) tk R (List.mem_map.mpr ⟨_, h1, rfl⟩) (hr (ft.cal hcl)) h2 q1 q2 (chkE_ok e X I W _ g tk ft h5).1 h4
    · cases h
  | .tri body cs bs, X, I, W, st, g, tk, ft, hk, hp, xk, h => by
    unfold chkS at h
    split at h
    · rename_i us h0 hs pos
      simp only [Bool.and_eq_true] at h
      obtain ⟨hcl, h1, h2⟩ := h
      obtain ⟨l1, l2, l3⟩ := chkHs_ok bs X I W cs (h0 :: hs) g tk ft hk xk h2
      have hb : ∀ (W : WX) (pn : List (Addr × Obj)) (xe : Value → Shared → Prop), L2N.Takes (X.tr pn xe) W → PassesOwn (model X.prog X.w) X.A X.env xe → PSs (X.tr pn xe) us (tSs X.K RX W c body) := fun W pn xe tk' hp' =>
        chkSs_ok body (X.tr pn xe) I W us ⟨g.rm, g.room, g.ck, g.fn, g.blt, g.gl⟩ tk' ⟨ft.hN, ft.nd, ft.sc, ft.asg, ft.cal⟩ hk (fun _ => ⟨hp', (hp hcl).2.1, (hp hcl).2.2⟩) ⟨xk.1, xk.2.1, xk.2.2⟩ h1
      have hp1 := (hp hcl).2.1
      have hp2 := (hp hcl).2.2
      obtain ⟨e, xk2, xk3⟩ := xk
      rw [e] at hb ⊢
      exact ss_tri xk3 l1 l2 hp1 hp2 tk hb l3
    · cases h
theorem chkSs_ok : ∀ (ss : List S) (X : L2.Cx) (I : Info) (W : WX) (l : List Stmt), Gs X RX c ar gl j → L2N.Takes X W → Fit X I → X.env.scope.kind = .function → (I.cl = true → PassesOwn (model X.prog X.w) X.A X.env X.xe ∧ X.stack = X.env :: X.outer ∧ X.env.frame = some X.env.locals) → Xk X RX xs → chkSs ar gl xs I ss l = true → PSs X l (tSs X.K RX W c ss)
  | [], X, I, W, l, g, tk, ft, hk, hp, xk, h => by
    cases l with
    | nil => exact sss_nil
    | cons a l => simp [chkSs] at h
  | s :: ss, X, I, W, l, g, tk, ft, hk, hp, xk, h => by
    cases l with
    | nil => simp [chkSs] at h
    | cons a l =>
      simp only [chkSs, Bool.and_eq_true] at h
      exact sss_cons (chkS_ok s X I W a g tk ft hk hp xk h.1) (chkSs_ok ss X I W l g tk ft hk hp xk h.2)
theorem chkHs_ok : ∀ (bs : List (List S)) (X : L2.Cx) (I : Info) (W : WX) (cs : List (String × Option Nat)) (hs : List ExceptHandler), Gs X RX c ar gl j → L2N.Takes X W → Fit X I → X.env.scope.kind = .function → Xk X RX xs → chkHs ar gl xs I bs cs hs = true →
    cs.length = bs.length ∧ (∀ q ∈ cs, q.1 ∈ xs.map (·.1)) ∧ HdsA X hs (clzs X.K (xs.map (·.1)) c cs bs)
  | [], X, I, W, cs, hs, g, tk, ft, hk, xk, h => by
    unfold chkHs at h
    rw [Bool.and_eq_true] at h
    have e1 := List.isEmpty_iff.mp h.1
    have e2 := List.isEmpty_iff.mp h.2
    subst e1 e2
    exact ⟨rfl, fun q hq => (by cases hq), .nil⟩
  | b :: bs, X, I, W, cs, hs, g, tk, ft, hk, xk, h => by
    unfold chkHs at h
    split at h
    · rename_i q cs x np nm b0 us pos' hs
      simp only [Bool.and_eq_true, decide_eq_true_eq] at h
      obtain ⟨⟨⟨⟨⟨h1, h2⟩, h3⟩, h4⟩, h5⟩, h6⟩ := h
      obtain ⟨l1, l2, l3⟩ := chkHs_ok bs X I W cs hs g tk ft hk xk h6
      obtain ⟨e0, xk2, xk3⟩ := id xk
      obtain ⟨q1, q2, q3⟩ := glB_ok ft h2
      obtain ⟨r, hr, e⟩ := List.mem_map.mp h3
      have hn : Names X x (.ref (He.ga X.K (Str.ofString q.1))) := ⟨q1, q2, .inl (by rw [h1, ← e]; exact (xk2 r hr).1.glo)⟩
      have hsu : SuiteOk X (b0 :: us) (tSs X.K (RXK X.K (xs.map (·.1))) W0 c b) := fun a pn => by
        rw [← e0]
        exact chkSs_ok b (X.suite a pn) { I with cl := false } W0 (b0 :: us) ⟨g.rm, fun z => absurd (show false = true from z) Bool.false_ne_true, g.ck, g.fn, g.blt, g.gl⟩ (fun u s' x => by
          obtain ⟨a, B, sI, pins, σ, H, cls, d, e, I, nb, up, sky, na, os, ag, w⟩ := x
          exact w.elim) ⟨ft.hN, ft.nd, ft.sc, ft.asg, fun z => by cases z⟩ hk (fun z => by cases z) ⟨e0, fun q hq => ⟨(xk2 q hq).1, fun z => absurd (show false = true from z) Bool.false_ne_true⟩, xk3⟩ h5
      refine ⟨by simp [l1], fun z hz => ?_, ?_⟩
      · rcases List.mem_cons.mp hz with rfl | hz
        · exact h3
        · exact l2 z hz
      · obtain ⟨qc, qn⟩ := q
        cases qn with
        | none =>
          cases nm with
          | none => exact .plain hn hsu l3
          | some n => cases h4
        | some i =>
          cases nm with
          | none => cases h4
          | some n =>
            simp only [Bool.and_eq_true, decide_eq_true_eq] at h4
            exact .named hn ft.nd (by rw [ft.hN]; exact h4.1) (by show X.env.scope.names.lookup n = _; rw [ft.sc]; exact h4.2) hsu l3
    · cases h
end
end
end Sk
end
section
set_option Elab.async false
set_option linter.all false
set_option autoImplicit false
set_option maxRecDepth 100000
set_option maxHeartbeats 4000000
/-! SkX4: what is looked up of exception classes. -/
namespace Sk
open PySem PySem.Spec PyProof.Rows L2

theorem zip_look : ∀ {ps : List Str} {us : List Value}, ps.Nodup → us.length = ps.length → (ps.filter fun n => ((ps.zip us).lookup n).isNone) = [] ∧ (ps.filterMap fun n => ((ps.zip us).lookup n).map (n, ·)) = ps.zip us
  | [], us, _, _ => by simp
  | p :: ps, [], _, h => by simp at h
  | p :: ps, u :: us, nd, h => by
    obtain ⟨n1, n2⟩ := List.nodup_cons.mp nd
    obtain ⟨g1, g2⟩ := zip_look n2 (show us.length = ps.length by simpa using h)
    have e : ∀ n ∈ ps, (((p, u) :: ps.zip us).lookup n) = (ps.zip us).lookup n := fun n hn => by
      rw [List.lookup_cons]
      have : (n == p) = false := by
        rw [beq_eq_false_iff_ne]
        rintro rfl
        exact n1 hn
      rw [this]
    refine ⟨?_, ?_⟩
    · rw [List.zip_cons_cons, List.filter_cons, List.lookup_cons, beq_self_eq_true]
      simp only [Option.isNone_some, Bool.false_eq_true, if_false]
      rw [← g1]
      exact List.filter_congr fun n hn => by rw [e n hn]
    · rw [List.zip_cons_cons, List.filterMap_cons, List.lookup_cons, beq_self_eq_true]
      simp only [Option.map_some]
      have key : ∀ l : List Str, (∀ n ∈ l, n ∈ ps) → (l.filterMap fun n => (((p, u) :: ps.zip us).lookup n).map (n, ·)) = l.filterMap fun n => ((ps.zip us).lookup n).map (n, ·) := fun l => by
        induction l with
        | nil => intro _; rfl
        | cons a l ih =>
          intro hl
          rw [List.filterMap_cons, List.filterMap_cons, e a (hl a List.mem_cons_self), ih fun n hn => hl n (List.mem_cons_of_mem _ hn)]
      rw [key ps fun n hn => hn, g2]
theorem bind_plain {fd : FuncData} {ps : List Str} {us : List Value} (h1 : fd.params.posonlyargs = []) (h2 : fd.params.vararg = none) (h3 : fd.params.kwonlyargs = []) (h4 : fd.params.kwarg = none) (h5 : fd.defaults = .none) (hp : fd.params.args.map (·.arg) = ps) (nd : ps.Nodup) (hl : us.length = ps.length) :
    bindArgs fd ⟨us, []⟩ = pure (ps.zip us) := by
  obtain ⟨g1, g2⟩ := zip_look nd hl
  unfold bindArgs
  simp only [h1, h2, h3, h4, h5, hp, hl, List.map_nil, List.nil_append, List.append_nil, List.forIn_nil, pure_bind, seqItems?, Option.getD_none, List.length_nil, Nat.sub_zero, List.drop_nil, List.take_length, List.drop_length, List.zip_nil_right, gt_iff_lt, Nat.lt_irrefl, decide_false, Bool.false_and, Bool.false_eq_true, if_false, g1, g2, List.isEmpty_nil, Bool.not_true]
  have e : notAStandIn Value.none = pure () := rfl
  rw [e]
  simp only [pure_bind, Option.getD_none, List.toList_toArray, List.drop_nil, List.length_nil, Nat.sub_zero, List.take_length, g1, List.isEmpty_nil, Bool.not_true, Bool.false_eq_true, if_false, List.zip_nil_right, List.forIn_nil, g2]
/-! ### exception classes -/
theorem ba2 {a b : Bool} (h : (a && b) = true) : a = true ∧ b = true := by
  rw [Bool.and_eq_true] at h
  exact h
def oexB (K : PySem.W.Frag) (C : Addr) : Bool := (match K.lookup C with
  | some ⟨.type t, _, .cls cd, sl⟩ => decide (t = "type") && ((match cd.mro with
      | .ref D :: bm => decide (D = C) && PySem.HandSPX.refsVE bm
      | _ => false) && (cd.hasDict && (!cd.hasDel && (match sl.toList with
      | [_, _, _, _, some (.builtin n), _] => decide (n = "ValueError.__new__")
      | _ => false))))
  | _ => false) && (decide (PySem.W.findIn K (.ref C) "__setattr__" = some (some (.builtin "object.__setattr__"))) && (decide (PySem.W.subIn K (.ref C) (.type "BaseException") = some true) && (decide (PySem.W.typeIn K (.ref C) = some (.type "type")) && PySem.W.keepIn K (.ref C))))
theorem oexB_ok {K : PySem.W.Frag} {C : Addr} (h : oexB K C = true) : OexC K C := by
  unfold oexB at h
  obtain ⟨h1, h⟩ := ba2 h
  obtain ⟨h2, h⟩ := ba2 h
  obtain ⟨h3, h⟩ := ba2 h
  obtain ⟨h4, h5⟩ := ba2 h
  refine ⟨?_, of_decide_eq_true h2, of_decide_eq_true h3, of_decide_eq_true h4, h5⟩
  split at h1
  · rename_i t dd cd sl e
    obtain ⟨a1, h1⟩ := ba2 h1
    obtain ⟨a2, h1⟩ := ba2 h1
    obtain ⟨a3, h1⟩ := ba2 h1
    obtain ⟨a4, a5⟩ := ba2 h1
    clear h1
    rw [decide_eq_true_eq] at a1
    subst a1
    obtain ⟨nm, bs, mro, N, qn, hd, sn, sub, ab, col, hdel⟩ := cd
    simp only at a2 a3 a4
    cases mro with
    | nil => cases a2
    | cons v bm =>
    cases v with
    | ref D =>
      obtain ⟨b1, b2⟩ := ba2 a2
      rw [decide_eq_true_eq] at b1
      subst b1
      rw [Bool.not_eq_true'] at a4
      subst a3 a4
      split at a5
      · rename_i k0 k1 k2 k3 n k5 el
        rw [decide_eq_true_eq] at a5
        subst a5
        have es : sl = #[k0, k1, k2, k3, some (.builtin "ValueError.__new__"), k5] := by
          rw [← Array.toList_inj, el]
        subst es
        exact ⟨nm, qn, N, bs, bm, sn, sub, ab, col, dd, k0, k1, k2, k3, k5, e, b2⟩
      · cases a5
    | _ => cases a2
  · cases h1
/-- an __init__ that says super().__init__('..'); sv.f = x -/
def initB (P : Program) (K : PySem.W.Frag) (C fI : Addr) (f : Str) : Bool := match K.lookup fI with
  | some ⟨_, _, .func ⟨_, qual, params, .stmts [.Expr (.Call (.Attribute (.Call (.Name s1 _) [] [] _) n1 p2) [.Constant (.str _) _ _] [] p4) _, .Assign [.Attribute (.Name sv _) g _] (.Name x _) _], scope, glb, [(c1, cc)], .none, _, _, _, _, .ref cda, _, bl⟩, _⟩ =>
    decide (s1 = ("super" : Str)) && (decide (n1 = ("__init__" : Str)) && ((p2.endLine == p4.line) && (decide (g = f) && (decide (sv ≠ x) && (!(sv == ("__debug__" : Str)) && (!(x == ("__debug__" : Str)) && (decide (glb = mainGlobals) && (decide (bl = builtinsNs) && (decide (c1 = ("__class__" : Str)) &&
    (params.posonlyargs.isEmpty && (params.vararg.isNone && (params.kwonlyargs.isEmpty && (params.kwarg.isNone && (decide (params.args.map (·.arg) = [sv, x]) &&
    ((match K.lookup cc with
      | some ⟨_, _, .cell (some (.ref D)), _⟩ => decide (D = C)
      | _ => false) && (PySem.W.codeIn K (.ref cda) qual && ((match K.lookup cda with
      | some ⟨_, _, .fields vs, _⟩ => (match (vs[2]? : Option Value) with
        | some (Value.str file _) => (P.main.file : Str) == file
        | _ => false)
      | _ => false) &&
    (decide (scope.names.lookup ("super" : Str) = some .globalImplicit) && (decide (scope.names.lookup ("__class__" : Str) = some .free) && (decide (scope.names.lookup sv = some .local) && (decide (scope.names.lookup x = some .local) && (decide (scope.kind = .function) &&
    (scope.names.all (fun y => decide (y.2 ≠ .cell)) && (!scope.isCoroutine && !scope.isGenerator))))))))))))))))))))))))
  | _ => false
def clsB (P : Program) (K : PySem.W.Frag) (q : String × String) : Bool :=
  let C := He.ga K (Str.ofString q.1)
  let fI := He.ma K C "__init__"
  let f := Str.ofString q.2
  oexB K C && (xfB K C && (decide (PySem.W.findIn K (.ref C) f = some none) && (decide (PySem.W.findIn K (.ref C) "__init__" = some (some (.ref fI))) && (decide (PySem.W.typeIn K (.ref fI) = some (.type "function")) && (initB P K C fI f && (!(P.main.scope.names.lookup ("super" : Str)).isSome &&
  (decide (PySem.W.mroIn K C (.ref C) = some true) && (decide (PySem.W.ks_superIn K C C "__init__" = some (some (.builtin "ValueError.__init__"))) && (decide (PySem.W.subIn K (.ref C) (.type "ValueError") = some true) && (decide (PySem.W.nsIn K cStatics "thirdparty.any" = some none) &&
  PySem.W.excInitIn K C [.type "ValueError", .type "Exception", .type "BaseException", .type "object"] "ValueError.__new__"))))))))))
def exsB (P : Program) (xs : List (String × String)) (K : PySem.W.Frag) : Bool := xs.all (clsB P K) && xs.all fun q => xs.all fun r => decide (PySem.W.exmOne K (.ref (He.ga K (Str.ofString q.1))) (.ref (He.ga K (Str.ofString r.1))) = some (decide (r.1 = q.1)))
theorem init_ok {P : Program} {w : World} {K : PySem.W.Frag} {mg : Str → Option Value} {base : Heap} {q : String × String} (h : clsB P K q = true) (hg : mg (Str.ofString q.1) = some (.ref (He.ga K (Str.ofString q.1)))) (hms : mg "super" = none) : Raisable P w K mg base q.1 q.2 := by
  obtain ⟨cls, fs⟩ := q
  unfold clsB at h
  simp only at h hg ⊢
  simp only [Bool.and_eq_true] at h
  obtain ⟨h1, h2, h3, h4, h5, h6, h7, h8, h9, h10, h11, h12⟩ := h
  have T := oexB_ok h1
  refine ⟨hg, ?_, xfB_ok h2, of_decide_eq_true h3⟩
  unfold initB at h6
  split at h6
  rotate_left
  · cases h6
  rename_i oc od nm qual params s1 p0 p1 n1 p2 m j p3 p4 p5 sv q0 g q1 x q2 q3 scope glb c1 cc kV doc pm an cda ct bl osl lk
  simp only [Bool.and_eq_true] at h6
  obtain ⟨a1, a2, a3, a4, a5, a6, a7, a8, a9, a10, b1, b2, b3, b4, b5, c1', c2', c3', d1, d2, d3, d4, d5, d6, d7, d8⟩ := h6
  rw [decide_eq_true_eq] at a1 a2 a4 a5 a8 a9 a10 b5 d1 d2 d3 d4 d5
  rw [Bool.not_eq_true'] at a6 a7 d7 d8 h7
  rw [List.isEmpty_iff] at b1 b3
  rw [Option.isNone_iff_eq_none] at b2 b4
  subst a1 a2 a4 a8 a9 a10
  split at c1'
  rotate_left
  · cases c1'
  rename_i cl cld D csl lkc
  rw [decide_eq_true_eq] at c1'
  subst c1'
  split at c3'
  rotate_left
  · cases c3'
  rename_i ccl cdd vs ccs lkd
  split at c3'
  rotate_left
  · cases c3'
  rename_i file tf ev
  obtain ⟨ar, rst, ea⟩ : ∃ ar rst, params.args = ar :: rst := by
    cases e : params.args with
    | nil => rw [e] at b5; cases b5
    | cons ar rst => exact ⟨ar, rst, rfl⟩
  have ear : ar.arg = sv := by
    rw [ea] at b5
    simp only [List.map_cons, List.cons.injEq] at b5
    exact b5.1
  have S : SupI P K mg (He.ga K (Str.ofString cls)) (He.ma K (He.ga K (Str.ofString cls)) "__init__") (Str.ofString fs) sv x (PySem.W.ksFn nm qual params [.Expr (.Call (.Attribute (.Call (.Name "super" p0) [] [] p1) "__init__" p2) [.Constant (.str m) j p3] [] p4) p5, .Assign [.Attribute (.Name sv q0) (Str.ofString fs) q1] (.Name x q2) q3] scope .none kV doc pm an (.ref cda) ct cc) :=
    ⟨T, ⟨nm, qual, params, scope, .none, kV, doc, pm, ct, oc, an, od, osl, cc, cda, m, p0, p1, p2, p3, p4, p5, q0, q1, q2, q3, j, vs, tf, file, ccl, cl, cdd, cld, ccs, csl, ar, rfl, lk, c2', by rw [b1, ea]; rfl, ear, lkd, ev, c3', lkc, d1, d2, d3, d4, d5,
      fun y hy => of_decide_eq_true (List.all_eq_true.mp d6 y hy), d7, d8, a3⟩, a5, h7, hms, of_decide_eq_true h8, of_decide_eq_true h9, of_decide_eq_true h10, of_decide_eq_true h11, h12, of_decide_eq_true h3, a6, a7⟩
  exact ⟨_, _, sv, x, T, of_decide_eq_true h4, of_decide_eq_true h5, sup_fn S, .all fun us hl => bind_plain b1 b2 b3 b4 rfl b5 (by simp [a5]) hl⟩
theorem exs_ok {P : Program} {xs : List (String × String)} {K : PySem.W.Frag} (h : exsB P xs K = true) : (∀ q ∈ xs, clsB P K q = true) ∧ ClOk K (xs.map (·.1)) := by
  unfold exsB at h
  rw [Bool.and_eq_true] at h
  refine ⟨fun q hq => List.all_eq_true.mp h.1 q hq, ⟨fun x hx y hy => ?_⟩⟩
  obtain ⟨q, hq, rfl⟩ := List.mem_map.mp hx
  obtain ⟨r, hr, rfl⟩ := List.mem_map.mp hy
  exact of_decide_eq_true (List.all_eq_true.mp (List.all_eq_true.mp h.2 q hq) r hr)
/-! ### what is looked at behind the top: names, defs, classes -/
def asS (g : Addr → Option Obj) (n : Nat) : List Addr := He.asD g n ++ [cStatics]
abbrev AlS : Type := He.AlD × Bool
def obsS (fa : List He.Fa) (fn : List He.DefD) (ex : PySem.W.Frag → Bool) (K : PySem.W.Frag) : AlS := (He.obsD fa fn K, ex K)
def obsSG (n : Nat) (fa : List He.Fa) (fn : List He.DefD) (ex : PySem.W.Frag → Bool) (g : Addr → Option Obj) : AlS := obsS fa fn ex (He.frG g (asS g n))
def hookS (n : Nat) (fa : List He.Fa) (fn : List He.DefD) (ex : PySem.W.Frag → Bool) : PySem.W.Hook where
  α := AlS
  obs := fun s => obsSG n fa fn ex s.heap.get?
  val := fun _ => (He.valD fn, true)
  says := fun _ h => ∃ K : PySem.W.Frag, K.In h ∧ He.SaysD fa fn K ∧ ex K = true
  of := fun _ _ e => ⟨_, He.frG_in, congrArg (fun z : AlS => z.1) e, congrArg (fun z : AlS => z.2) e⟩
  keeps := fun _ _ _ ⟨K, hK, c⟩ k => ⟨K, PySem.W.Frag.In.keeps hK k, c⟩
theorem obsSG_eq {n : Nat} {fa : List He.Fa} {fn : List He.DefD} {ex : PySem.W.Frag → Bool} {g : Addr → Option Obj} {s : Shared} (h : ∀ a, g a = s.heap.get? a) : obsSG n fa fn ex g = (hookS n fa fn ex).obs s := by
  have e : g = s.heap.get? := funext h
  rw [e] <;> rfl
end Sk
end
section
set_option Elab.async false
set_option linter.all false
set_option autoImplicit false
set_option maxRecDepth 100000
set_option maxHeartbeats 4000000
/-! SkG: defs keep their promises; the end. -/
namespace Sk
open PySem PySem.Spec PyProof.Rows L2

/-- the end of a call -/
theorem leave_wp {K : PySem.W.Frag} {RX : Exc → Value → Option Addr → Hp → Prop} {Ex : Value → Option Addr → Hp → Prop} {ι : List Addr} {H : Hp} {M : Store} {Q : VK} {o : Out} (sr : SR K ι H M) (kp : KpO M.length M o) (h : Wp K RX Ex ι H (PD K Q) (leave M.length o)) :
    WpO K RX (fun cls d _ H => Ex cls d H) ι H { nx := fun _ H' => Q .non H', rt := Q } o := by
  cases o with
  | nx ρ M' =>
    intro ι' H' σ' st s1 re
    obtain ⟨c1, c2⟩ := cut_here sr st s1 (KeptB.kept kp)
    exact h ι H' c1 c2 .non .nons
  | rt d M' =>
    intro ι' H' v st s1 rv
    have h : Wp K RX Ex ι H (PD K Q) (gc M.length d M') := h
    rcases gc_pack st sr.len sr.pos s1 ((KeptB.kept kp).bel _ (Nat.le_refl _) sr.belowAll) rv with e | ⟨ι2, d2, M2, e, st2, s2, r2⟩
    · rw [e] at h; exact h.elim
    · rw [e] at h
      exact h ι2 H' st2 s2 v r2
  | exc x ρ M' =>
    intro ι' H' σ' cls d st s1 re rx
    exact exc_cut sr (KeptB.kept kp) h ι' H' cls d st s1 rx
  | bk ρ M' => exact h.elim
  | ct ρ M' => exact h.elim
  | bad => exact h.elim
theorem init_env {K : PySem.W.Frag} {ι : List Addr} {H : Hp} {d : Def} {ds : List D} {vs : List V} {N : List Str} (r : RelDs K ι H ds vs) (hN : N.length = d.names.length) : REnv K ι H (init d ds) (L2.start N vs) := by
  unfold init L2.start
  refine ⟨by simp [r.length, hN], fun i x e => ?_⟩
  by_cases hi : i < ds.length
  · rw [List.getElem?_append_left (by simpa using hi), List.getElem?_map] at e
    rw [List.getElem?_append_left (by rw [List.length_map, ← r.length]; exact hi), List.getElem?_map]
    cases q : ds[i]? with
    | none => rw [q] at e; cases e
    | some y =>
      rw [q] at e
      cases e
      obtain ⟨v, hv, rv⟩ := r.get q
      exact ⟨v, by rw [hv]; rfl, rv⟩
  · rw [List.getElem?_append_right (by simpa using hi), List.getElem?_replicate] at e
    split at e <;> cases e

/-! ### a program -/
structure Pg where
  tab : List (String × Def)
  cs : List (String × D)
  xs : List (String × String)
def Pg.T (p : Pg) : String → Option Def := fun f => p.tab.lookup f
def Pg.G (p : Pg) : String → Option D := fun f => p.cs.lookup f
def Pg.ar (p : Pg) : String → Option Nat := fun f => (p.T f).map (·.params)
def Pg.gl (p : Pg) : String → Bool := fun f => (p.G f).isSome
def csFa (x : String × D) : He.Fa := match x.2 with
  | .int i => .int (Str.ofString x.1) i
  | .str s => .str (Str.ofString x.1) s
  | _ => .free (Str.ofString x.1)
def csOk : D → Bool
  | .int _ => true
  | .str s => (constV (.str s)).isSome
  | _ => false
def Pg.fa (p : Pg) : List He.Fa := p.tab.map (fun x => .glo (Str.ofString x.1)) ++ (p.cs.map csFa ++ (bltNames.map .free ++ (.free "super" :: p.xs.map (fun x => .glo (Str.ofString x.1)))))
def asgOf (N : List Str) (sc : Scope) : List Str := N.filter fun x => match sc.names.lookup x with
  | some .local => true
  | some .cell => true
  | _ => false
def plainA (a : Arguments) : Bool := a.posonlyargs.isEmpty && a.vararg.isNone && a.kwonlyargs.isEmpty && a.kwarg.isNone
def parN (a : Arguments) : List Str := a.args.map (·.arg)
def chkD (ar : String → Option Nat) (gl : String → Bool) (xs : List (String × String)) (x : String × Def) (q : He.DefD) : Bool :=
  let N := x.2.names.map Str.ofString
  decide (q.at_ = (Str.ofString x.1, none)) && q.dfl.isEmpty && q.kwd.isEmpty && plainA q.params && decide ((parN q.params).length = x.2.params) && C8.scC N (parN q.params) q.scope && chkSs ar gl xs ⟨N, q.scope, asgOf N q.scope, true⟩ x.2.body q.body
def all2 {α β : Type} (f : α → β → Bool) : List α → List β → Bool
  | [], [] => true
  | a :: as, b :: bs => f a b && all2 f as bs
  | _, _ => false
def Pg.chk (p : Pg) (fn : List He.DefD) : Bool := all2 (chkD p.ar p.gl p.xs) p.tab fn && p.cs.all fun x => csOk x.2
theorem all2_mem {α β : Type} {f : α → β → Bool} : ∀ {as : List α} {bs : List β}, all2 f as bs = true → ∀ a ∈ as, ∃ b ∈ bs, f a b = true
  | [], [], _, a, h => by cases h
  | a :: as, b :: bs, h, x, hx => by
    simp only [all2, Bool.and_eq_true] at h
    rcases List.mem_cons.mp hx with rfl | hx
    · exact ⟨b, List.mem_cons_self, h.1⟩
    · obtain ⟨y, hy, e⟩ := all2_mem h.2 x hx
      exact ⟨y, List.mem_cons_of_mem _ hy, e⟩
  | [], _ :: _, h, _, _ => by cases h
  | _ :: _, [], h, _, _ => by cases h
theorem lookup_mem {α : Type} : ∀ {l : List (String × α)} {f : String} {d : α}, l.lookup f = some d → (f, d) ∈ l
  | [], f, d, h => by cases h
  | (k, v) :: l, f, d, h => by
    rw [List.lookup_cons] at h
    split at h
    · rename_i e
      cases h
      have := eq_of_beq e
      subst this
      exact List.mem_cons_self
    · exact List.mem_cons_of_mem _ (lookup_mem h)
section
variable {P : Program} {w : World} {K : PySem.W.Frag} {mg : Str → Option Value} {h base : Heap} {p : Pg} {fn : List He.DefD} {RX : Exc → Value → Option Addr → Hp → Prop}
theorem glo_at (X : K.In h) (G : h.Ns mainGlobals mg) (cf : ∀ f ∈ p.fa, f.ok K = true) {f : String} {d : Def} (e : p.T f = some d) : mg (Str.ofString f) = some (.ref (He.ga K (Str.ofString f))) := by
  refine He.glo_ok X G (cf _ ?_)
  unfold Pg.fa
  exact List.mem_append_left _ (List.mem_map.mpr ⟨(f, d), lookup_mem e, rfl⟩)
theorem blt_none (X : K.In h) (G : h.Ns mainGlobals mg) (cf : ∀ f ∈ p.fa, f.ok K = true) : ∀ x ∈ bltNames, mg x = none := fun x hx => by
  refine He.free_ok X G (cf _ ?_)
  unfold Pg.fa
  exact List.mem_append_right _ (List.mem_append_right _ (List.mem_append_left _ (List.mem_map.mpr ⟨x, hx, rfl⟩)))
theorem sup_none (X : K.In h) (G : h.Ns mainGlobals mg) (cf : ∀ f ∈ p.fa, f.ok K = true) : mg "super" = none := by
  refine He.free_ok X G (cf _ ?_)
  unfold Pg.fa
  exact List.mem_append_right _ (List.mem_append_right _ (List.mem_append_right _ List.mem_cons_self))
theorem cls_at (X : K.In h) (G : h.Ns mainGlobals mg) (cf : ∀ f ∈ p.fa, f.ok K = true) {q : String × String} (hq : q ∈ p.xs) : mg (Str.ofString q.1) = some (.ref (He.ga K (Str.ofString q.1))) := by
  refine He.glo_ok X G (cf _ ?_)
  unfold Pg.fa
  exact List.mem_append_right _ (List.mem_append_right _ (List.mem_append_right _ (List.mem_cons_of_mem _ (List.mem_map.mpr ⟨q, hq, rfl⟩))))
theorem cs_at (X : K.In h) (G : h.Ns mainGlobals mg) (cf : ∀ f ∈ p.fa, f.ok K = true) (hc : p.chk fn = true) {f : String} (e : p.gl f = true) : ∃ d v u, p.G f = some d ∧ mg (Str.ofString f) = some u ∧ RelV v u ∧ ∀ ι H, RelD K ι H d v := by
  obtain ⟨d, hd⟩ := Option.isSome_iff_exists.mp e
  have hm := lookup_mem hd
  unfold Pg.chk at hc
  rw [Bool.and_eq_true] at hc
  have ok := List.all_eq_true.mp hc.2 _ hm
  have fact := cf (csFa (f, d)) (by unfold Pg.fa; exact List.mem_append_right _ (List.mem_append_left _ (List.mem_map.mpr ⟨_, hm, rfl⟩)))
  cases d with
  | int i =>
    obtain ⟨t, ht⟩ := He.int_ok X G fact
    exact ⟨_, .int i, _, hd, ht, ⟨t, rfl⟩, fun _ _ => .ints⟩
  | str s =>
    obtain ⟨t, ht⟩ := He.str_ok X G fact
    have ok : (constV (.str s)).isSome = true := ok
    obtain ⟨v, hv⟩ := Option.isSome_iff_exists.mp ok
    have e2 : v = .str s := by
      simp only [constV] at hv
      split at hv
      · cases hv; rfl
      · cases hv
    subst e2
    exact ⟨_, .str s, _, hd, ht, ⟨t, rfl⟩, fun _ _ => constV_rel hv⟩
  | _ => cases ok
/-- what the checker says of one def -/
structure OneDef (P : Program) (w : World) (K : PySem.W.Frag) (mg : Str → Option Value) (base : Heap) (p : Pg) (f : String) (d : Def) (q : He.DefD) (fd : FuncData) : Prop where
  F : FunD K q.name q.qual q.params q.body q.scope [] [] (He.ga K (Str.ofString f)) fd
  sc : FnScope (d.names.map Str.ofString) (parN q.params) q.scope
  len : (parN q.params).length = d.params
  bind : ∀ (s : Shared) (us : List Value), us.length = (parN q.params).length → BindsTo s fd ⟨us, []⟩ ((parN q.params).zip us)
  binds : Binds K fd (parN q.params) []
  chk : chkSs p.ar p.gl p.xs ⟨d.names.map Str.ofString, q.scope, asgOf (d.names.map Str.ofString) q.scope, true⟩ d.body q.body = true
theorem one_def (c : He.SaysD p.fa fn K) (hc : p.chk fn = true) {f : String} {d : Def} (e : p.T f = some d) : ∃ q fd, OneDef P w K mg base p f d q fd := by
  unfold Pg.chk at hc
  rw [Bool.and_eq_true] at hc
  obtain ⟨q, hq, e1⟩ := all2_mem hc.1 _ (lookup_mem e)
  unfold chkD at e1
  simp only [Bool.and_eq_true, decide_eq_true_eq] at e1
  obtain ⟨⟨⟨⟨⟨⟨a1, a2⟩, a3⟩, a4⟩, a5⟩, a6⟩, a7⟩ := e1
  obtain ⟨i, hi, ei⟩ := List.mem_iff_getElem.mp hq
  obtain ⟨fd, F⟩ := c.def_ i (d := q) (by rw [List.getElem?_eq_getElem hi, ei])
  rw [a1] at F
  have hdv : q.dvs K = [] := by unfold He.DefD.dvs; rw [List.isEmpty_iff.mp a2]; rfl
  have hkw : q.kws K = [] := by unfold He.DefD.kws; rw [List.isEmpty_iff.mp a3]; rfl
  rw [hdv, hkw] at F
  have S := C8.fnScope_by a6
  have nd : (parN q.params).Nodup := by rw [← S.pre]; exact S.nd.sublist (List.take_sublist _ _)
  unfold plainA at a4
  simp only [Bool.and_eq_true, List.isEmpty_iff, Option.isNone_iff_eq_none] at a4
  obtain ⟨⟨⟨b1, b2⟩, b3⟩, b4⟩ := a4
  have hb : ∀ (kV doc pm : Value) (an : Option Addr) (cdv ct : Value) (us : List Value), us.length = (parN q.params).length → bindArgs (PySem.W.fnOf q.name q.qual q.params q.body q.scope .none kV doc pm an cdv ct) ⟨us, []⟩ = pure ((parN q.params).zip us) :=
    fun kV doc pm an cdv ct us hl => bind_plain b1 b2 b3 b4 rfl rfl nd hl
  exact ⟨q, fd, F, S, a5, fun s us hl => FunD.bindsA F hb s us hl, FunD.bindsN F hb, a7⟩
theorem asgOf_ok {N : List Str} {sc : Scope} {x : Str} (h : x ∈ asgOf N sc) : Loc sc x := by
  unfold asgOf at h
  have := (List.mem_filter.mp h).2
  split at this
  · exact .inl (by assumption)
  · exact .inr (by assumption)
  · cases this
/-- a def of the program: its promise at one level more -/
theorem one_step {f : String} {d : Def} {q : He.DefD} {fd : FuncData} {k : Nat} (O : OneDef P w K mg base p f d q fd) (e : p.T f = some d) (hb : ∀ x ∈ bltNames, mg x = none) (hg : ∀ f, p.gl f = true → ∃ d v u, p.G f = some d ∧ mg (Str.ofString f) = some u ∧ RelV v u ∧ ∀ ι H, RelD K ι H d v)
    (hx1 : ∀ q ∈ p.xs, Raisable P w K mg base q.1 q.2) (hx2 : ClOk K (p.xs.map (·.1))) (h2 : 2 ≤ k) (hRX : RX = RXK K (p.xs.map (·.1))) {kr : Nat}
    (ih : ∀ f n, p.ar f = some n → ∃ (k' : Nat) (q : Addr) (fd : FuncData) (ps : List Str), FnOk P w K mg base (L2N.CX P w) k' q fd ps (spC K RX (run p.T p.G kr f) n) ∧ k' ≤ k ∧ mg (Str.ofString f) = some (.ref q) ∧ PySem.W.keepIn K (.ref q) = true ∧ Binds K fd ps []) :
    FnOk P w K mg base (L2N.CX P w) (k + 1) (He.ga K (Str.ofString f)) fd (parN q.params) (spC K RX (run p.T p.G (kr + 1) f) d.params) := by
  refine O.F.ok O.sc (fun vs H Q E hs => by rw [hs.1, O.len]) fun cdv A outer s H vs Q E hr hs => ?_
  obtain ⟨hl, ι, M, ds, sr, rd, hw⟩ := hs
  have hx : (cxOf (L2N.CX P w) P w K mg base (d.names.map Str.ofString) q.qual q.scope (He.ga K (Str.ofString f)) cdv A outer s H E).xe = fun e s' => wpAny (model P w) (A.deeper (envOfC q.qual q.scope s.heap.objs.size (He.ga K (Str.ofString f)) cdv)) (leaving (envOfC q.qual q.scope s.heap.objs.size (He.ga K (Str.ofString f)) cdv) e) (fun _ s'' => L2N.CX P w outer H s E e s'') (fun e' s'' => L2N.CX P w outer H s E e' s'') s' := rfl
  generalize hX : cxOf (L2N.CX P w) P w K mg base (d.names.map Str.ofString) q.qual q.scope (He.ga K (Str.ofString f)) cdv A outer s H E = X at hx
  have ck : CK ⟨run p.T p.G kr, p.G, M.length⟩ := fun f ds M => kp_run kr f ds M
  have g : Gs X RX ⟨run p.T p.G kr, p.G, M.length⟩ p.ar p.gl k := by
    subst hX
    exact ⟨by have := hr.un; show (A.deeper (envOfC q.qual q.scope s.heap.objs.size (He.ga K (Str.ofString f)) cdv)).units + 200 < cLine; omega, fun _ => hr, ck, ih, hb, hg⟩
  have tk : L2N.Takes X (fun cls d _ H => E cls d H) := by
    subst hX
    exact L2N.takes_of (E₁ := fun e' s'' => L2N.CX P w outer H s E e' s'') rfl rfl rfl rfl
  have ft : Fit X ⟨d.names.map Str.ofString, q.scope, asgOf (d.names.map Str.ofString) q.scope, true⟩ := by
    subst hX
    exact ⟨rfl, O.sc.nd, rfl, fun x hx => ⟨asgOf_ok hx, .inl rfl⟩, fun _ => rfl⟩
  have hp : PassesOwn (model X.prog X.w) X.A X.env X.xe := by
    subst hX
    exact L2.passes_of (K := fun e s'' => L2N.CX P w outer H s E e s'') (E₁ := fun e' s'' => L2N.CX P w outer H s E e' s'') rfl
  have hst : X.stack = X.env :: X.outer ∧ X.env.frame = some X.env.locals := by subst hX; exact ⟨rfl, rfl⟩
  have xk : Xk X RX p.xs := by
    subst hX
    exact ⟨hRX, fun q hq => ⟨hx1 q hq, fun _ => hr.mono h2⟩, hx2⟩
  have hK : X.K = K := by subst hX; rfl
  have hkind : X.env.scope.kind = .function := by subst hX; exact O.sc.kind
  refine ⟨tSs X.K RX (fun cls d _ H => E cls d H) ⟨run p.T p.G kr, p.G, M.length⟩ d.body, chkSs_ok d.body X _ _ q.body g tk ft hkind (fun _ => ⟨hp, hst.1, hst.2⟩) xk O.chk, ?_⟩
  rw [hK]
  refine ⟨init d ds, M, ι, init_env rd (by simp), sr, ?_⟩
  have hds : ds.length = d.params := by rw [rd.length, hl]
  have hrun : run p.T p.G (kr + 1) f ds M = leave M.length (exs ⟨run p.T p.G kr, p.G, M.length⟩ d.body (init d ds) M) := by
    conv => lhs; unfold run
    rw [e]
    simp only [hds, if_true]
  rw [hrun] at hw
  exact leave_wp sr (kp_exs (c := ⟨run p.T p.G kr, p.G, M.length⟩) ck d.body _ M) hw
/-- THE PROGRAM: every def does what the evaluator says -/
theorem fns_ok (X : K.In h) (G : h.Ns mainGlobals mg) (c : He.SaysD p.fa fn K) (hc : p.chk fn = true) (hex : exsB P p.xs K = true) : ∀ (k : Nat) (f : String) (d : Def) (q : He.DefD) (fd : FuncData), p.T f = some d → OneDef P w K mg base p f d q fd →
    FnOk P w K mg base (L2N.CX P w) (k + 2) (He.ga K (Str.ofString f)) fd (parN q.params) (spC K (RXK K (p.xs.map (·.1))) (run p.T p.G k f) d.params) := by
  have cf : ∀ f ∈ p.fa, f.ok K = true := fun f hf => by
    obtain ⟨i, hi, e⟩ := List.mem_iff_getElem.mp hf
    exact c.fact i (f := f) (by rw [List.getElem?_eq_getElem hi, e])
  intro k
  induction k with
  | zero =>
    intro f d q fd e O
    refine ⟨fun vs H Q E hs => by rw [hs.1, O.len], fun A outer s H args us vs Q E hr e0 hb r hs => ?_⟩
    obtain ⟨_, ι, M, ds, _, _, hw⟩ := hs
    unfold run at hw
    exact hw.elim
  | succ k ih =>
    intro f d q fd e O
    refine one_step (k := k + 2) (kr := k) O e (blt_none X G cf) (fun f hf => cs_at X G cf hc hf) (fun q hq => init_ok ((exs_ok hex).1 q hq) (cls_at X G cf hq) (sup_none X G cf)) (exs_ok hex).2 (by omega) rfl fun f' n hn => ?_
    obtain ⟨d', hd', rfl⟩ := Option.map_eq_some_iff.mp (show (p.T f').map (·.params) = some n from hn)
    obtain ⟨q', fd', O'⟩ := one_def (P := P) (w := w) (mg := mg) (base := base) c hc hd'
    exact ⟨k + 2, _, fd', _, ih f' d' q' fd' hd' O', Nat.le_refl _, glo_at X G cf hd', O'.F.kp, O'.binds⟩
/-- no exception is let out -/
theorem fnok_noex {k : Nat} {f : Addr} {fd : FuncData} {ps : List Str} {sp : Sp} (F : FnOk P w K mg base (L2N.CX P w) k f fd ps sp) : FnOk P w K mg base C8.CX0 k f fd ps (fun vs H Q _ => sp vs H Q fun _ _ _ => False) := by
  refine ⟨fun vs H Q E hs => F.len vs H Q _ hs, fun A outer s H args us vs Q E hr e0 hb r hs => codeAny_mono (F.run A outer s H args us vs Q _ hr e0 hb r hs) fun r s' q => ?_⟩
  cases r with
  | ok fl => cases fl <;> exact q
  | error e =>
    obtain ⟨_, _, _, _, _, _, _, _, _, _, _, _, z⟩ := q
    exact z.elim
/-- the law's promise at its call -/
theorem law_end {k : Nat} {fa : Addr} {d : Def} (X : K.In h) (G : h.Ns mainGlobals mg) (c : He.SaysD p.fa fn K) (hc : p.chk fn = true) (hex : exsB P p.xs K = true) (hfa : mg ("law" : Str) = some (.ref fa)) (hT : p.T "law" = some d) (hd : d.params = 1) (hn : d.names.take 1 = ["script"])
    (hlaw : ∀ ns : List Int, ns.length ≤ 63 → ∃ M', run p.T p.G k "law" [.ref 0] [.ro (ns.map D.int)] = .ok (.bl true) M') :
    ∃ (fd : FuncData) (sp : Sp), (∀ (s : Shared) (u : Value), BindsTo s fd ⟨[u], []⟩ [(("script" : Str), u)]) ∧
      (∀ (H : Hp) (a : Addr) (ns : List Int), ns.length ≤ 63 → Only H → SqL K H a (ns.map V.int) → sp [.ref a] H (fun v _ => v = .bl true) fun _ _ _ => False) ∧
      ∀ base : Heap, K.In base → base.Ns mainGlobals mg → FnOk P w K mg base C8.CX0 (k + 2) fa fd [("script" : Str)] sp := by
  have cf : ∀ f ∈ p.fa, f.ok K = true := fun f hf => by
    obtain ⟨i, hi, e⟩ := List.mem_iff_getElem.mp hf
    exact c.fact i (f := f) (by rw [List.getElem?_eq_getElem hi, e])
  obtain ⟨q, fd, O⟩ := one_def (P := P) (w := w) (mg := mg) (base := h) c hc hT
  have e := hfa.symm.trans (glo_at X G cf hT)
  cases e
  have hps : parN q.params = [("script" : Str)] := by
    rw [← O.sc.pre, O.len, hd, ← List.map_take, hn]
    rfl
  refine ⟨fd, fun vs H Q _ => spC K (RXK K (p.xs.map (·.1))) (run p.T p.G k "law") 1 vs H Q fun _ _ _ => False, fun s u => ?_, fun H a ns hl hO hS => ?_, fun base KB GB => ?_⟩
  · have := O.bind s [u] (by rw [hps]; rfl)
    rw [hps] at this
    exact this
  · obtain ⟨M', hM⟩ := hlaw ns hl
    have ro : RoL K H a (ns.map V.int) := by
      rcases hS with (h1 | h1) | h1
      · rcases hO a with z | ⟨o, xs, z⟩
        · rw [h1] at z; cases z
        · rw [h1] at z; cases z
      · exact .inl h1
      · exact .inr h1
    refine ⟨rfl, [a], [.ro (ns.map D.int)], [.ref 0], ⟨rfl, fun i o x e1 e2 => ?_, fun i j x o o' e1 e2 e3 e4 m1 m2 => ?_, by simp, fun i o e1 => ?_⟩, ?_, ?_⟩
    · cases i with
      | zero =>
        simp at e1 e2
        subst e1 e2
        exact ⟨_, ro, relDs_ints ns⟩
      | succ i => simp at e1
    · cases i with
      | zero => simp at e3; subst e3; cases m1
      | succ i => simp at e3
    · cases i with
      | zero => simp at e1; subst e1; exact ⟨fun z => (by cases z), fun z => absurd rfl z⟩
      | succ i => simp at e1
    · simp only [RelDs, RelD]
      exact ⟨_, _, rfl, ⟨a, rfl, rfl⟩, rfl⟩
    · rw [hM]
      intro ι' H' st s1 v rv
      exact relD_bl rv
  · have F := fns_ok (P := P) (w := w) KB GB c hc hex k "law" d q fd hT (by
      obtain ⟨a1, a2, a3, a4, a5, a6⟩ := O
      exact ⟨a1, a2, a3, a4, a5, a6⟩ : OneDef P w K mg base p "law" d q fd)
    rw [hps, hd] at F
    exact fnok_noex F
end
end Sk
end
section
set_option Elab.async false
set_option linter.all false
set_option autoImplicit false
set_option maxRecDepth 100000
/-! SkV1: values by structure; what in a store stands for them. -/
namespace Sk
open PySem (Str)
inductive Vl where
  | non | bl (b : Bool) | int (i : Int) | str (s : Str) | tup (xs : List Vl) | lst (xs : List Vl) | ro (xs : List Vl) | dk (ks : List Ky) (vs : List Vl) | xo (f : String) (k : Ky)
  deriving Inhabited
mutual
/-- as plain data -/
def Vl.dn : Vl → Option D
  | .non => some .non
  | .bl b => some (.bl b)
  | .int i => some (.int i)
  | .str s => some (.str s)
  | .tup xs => (Vl.dns xs).map .tup
  | .lst _ => none
  | .ro _ => none
  | .dk _ _ => none
  | .xo _ _ => none
def Vl.dns : List Vl → Option (List D)
  | [] => some []
  | x :: xs => match Vl.dn x, Vl.dns xs with
    | some d, some ds => some (d :: ds)
    | _, _ => none
end
mutual
def D.up : D → Vl
  | .non => .non
  | .bl b => .bl b
  | .int i => .int i
  | .str s => .str s
  | .tup xs => .tup (D.ups xs)
  | .ref _ => .non
  | .xo _ _ => .non
def D.ups : List D → List Vl
  | [] => []
  | x :: xs => x.up :: D.ups xs
end
mutual
theorem D.up_dn : ∀ {d : D}, d.pure = true → d.up.dn = some d
  | .non, _ => by simp only [D.up, Vl.dn]
  | .bl b, _ => by simp only [D.up, Vl.dn]
  | .int i, _ => by simp only [D.up, Vl.dn]
  | .str s, _ => by simp only [D.up, Vl.dn]
  | .tup xs, h => by
    simp only [D.pure] at h
    simp only [D.up, Vl.dn, D.ups_dns h, Option.map_some]
  | .ref _, h => by simp [D.pure] at h
  | .xo _ _, h => by simp [D.pure] at h
theorem D.ups_dns : ∀ {ds : List D}, D.pures ds = true → Vl.dns (D.ups ds) = some ds
  | [], _ => by simp only [D.ups, Vl.dns]
  | x :: xs, h => by
    simp only [D.pures, Bool.and_eq_true] at h
    simp only [D.ups, Vl.dns, D.up_dn h.1, D.ups_dns h.2]
end
mutual
theorem Vl.dn_pure : ∀ {v : Vl} {d : D}, v.dn = some d → d.pure = true ∧ d.up = v
  | .non, d, h => by simp only [Vl.dn, Option.some.injEq] at h; subst h; simp only [D.pure, D.up, and_self]
  | .bl b, d, h => by simp only [Vl.dn, Option.some.injEq] at h; subst h; simp only [D.pure, D.up, and_self]
  | .int i, d, h => by simp only [Vl.dn, Option.some.injEq] at h; subst h; simp only [D.pure, D.up, and_self]
  | .str s, d, h => by simp only [Vl.dn, Option.some.injEq] at h; subst h; simp only [D.pure, D.up, and_self]
  | .tup xs, d, h => by
    simp only [Vl.dn] at h
    cases e : Vl.dns xs with
    | none => rw [e] at h; cases h
    | some ds =>
      rw [e] at h
      cases h
      obtain ⟨a, b⟩ := Vl.dns_pure e
      simp only [D.pure, D.up, a, b, and_self]
  | .lst _, d, h => by simp [Vl.dn] at h
  | .ro _, d, h => by simp [Vl.dn] at h
  | .dk _ _, d, h => by simp [Vl.dn] at h
  | .xo _ _, d, h => by simp [Vl.dn] at h
theorem Vl.dns_pure : ∀ {vs : List Vl} {ds : List D}, Vl.dns vs = some ds → D.pures ds = true ∧ D.ups ds = vs
  | [], ds, h => by simp only [Vl.dns, Option.some.injEq] at h; subst h; simp only [D.pures, D.ups, and_self]
  | v :: vs, ds, h => by
    simp only [Vl.dns] at h
    cases e1 : Vl.dn v with
    | none => rw [e1] at h; cases h
    | some d =>
      cases e2 : Vl.dns vs with
      | none => rw [e1, e2] at h; cases h
      | some r =>
        rw [e1, e2] at h
        cases h
        obtain ⟨a, b⟩ := Vl.dn_pure e1
        obtain ⟨a2, b2⟩ := Vl.dns_pure e2
        simp only [D.pures, D.ups, a, b, a2, b2, Bool.and_self, and_self]
end
mutual
/-- refs below n -/
def D.bw (n : Nat) : D → Prop
  | .tup xs => D.bws n xs
  | .ref i => i < n
  | .xo _ _ => True
  | .non => True
  | .bl _ => True
  | .int _ => True
  | .str _ => True
def D.bws (n : Nat) : List D → Prop
  | [] => True
  | x :: xs => D.bw n x ∧ D.bws n xs
end
def O.bw (n : Nat) : O → Prop
  | .lst xs => D.bws n xs
  | .ro xs => D.bws n xs
  | .dk kvs => D.bws n (kvs.map (·.2))
  | .dt kvs => D.bws n (kvs.map (·.2))
  | .ins _ fs => D.bws n (fs.map (·.2))
mutual
theorem D.bw_mono {n m : Nat} (hn : n ≤ m) : ∀ {d : D}, d.bw n → d.bw m
  | .tup xs, h => by simp only [D.bw] at h ⊢; exact D.bws_mono hn h
  | .ref i, h => by simp only [D.bw] at h ⊢; omega
  | .xo _ _, _ => by simp only [D.bw]
  | .non, _ => by simp only [D.bw]
  | .bl _, _ => by simp only [D.bw]
  | .int _, _ => by simp only [D.bw]
  | .str _, _ => by simp only [D.bw]
theorem D.bws_mono {n m : Nat} (hn : n ≤ m) : ∀ {ds : List D}, D.bws n ds → D.bws m ds
  | [], _ => by simp only [D.bws]
  | x :: xs, h => by
    simp only [D.bws] at h ⊢
    exact ⟨D.bw_mono hn h.1, D.bws_mono hn h.2⟩
end
mutual
theorem D.pure_bw {n : Nat} : ∀ {d : D}, d.pure = true → d.bw n
  | .tup xs, h => by simp only [D.pure] at h; simp only [D.bw]; exact D.pures_bw h
  | .ref i, h => by simp [D.pure] at h
  | .xo _ _, h => by simp [D.pure] at h
  | .non, _ => by simp only [D.bw]
  | .bl _, _ => by simp only [D.bw]
  | .int _, _ => by simp only [D.bw]
  | .str _, _ => by simp only [D.bw]
theorem D.pures_bw {n : Nat} : ∀ {ds : List D}, D.pures ds = true → D.bws n ds
  | [], _ => by simp only [D.bws]
  | x :: xs, h => by
    simp only [D.pures, Bool.and_eq_true] at h
    simp only [D.bws]
    exact ⟨D.pure_bw h.1, D.pures_bw h.2⟩
end
theorem O.bw_mono {n m : Nat} (hn : n ≤ m) {o : O} (h : o.bw n) : o.bw m := by
  cases o <;> exact D.bws_mono hn h
theorem D.bws_mem {n : Nat} : ∀ {ds : List D}, D.bws n ds ↔ ∀ d ∈ ds, d.bw n
  | [] => by simp [D.bws]
  | x :: xs => by simp [D.bws, @D.bws_mem n xs]
theorem D.pures_iff : ∀ {ds : List D}, D.pures ds = true ↔ ∀ d ∈ ds, d.pure = true
  | [] => by simp [D.pures]
  | x :: xs => by simp [D.pures, @D.pures_iff xs]
/-- nothing in the store names what is not there -/
def Clo (M : Store) : Prop := ∀ (i : Nat) (o : O), M[i]? = some o → o.bw M.length
theorem Clo.snoc {M : Store} {o : O} (h : Clo M) (ho : o.bw (M.length + 1)) : Clo (M ++ [o]) := fun i p e => by
  rw [List.length_append, List.length_singleton]
  by_cases hi : i < M.length
  · rw [List.getElem?_append_left hi] at e
    exact O.bw_mono (by omega) (h i p e)
  · rw [List.getElem?_append_right (by omega)] at e
    have : i - M.length = 0 := by
      have := (List.getElem?_eq_some_iff.mp e).1
      simp at this
      omega
    rw [this] at e
    cases e
    exact ho
theorem Clo.set {M : Store} {i : Nat} {o : O} (h : Clo M) (ho : o.bw M.length) : Clo (M.set i o) := fun j p e => by
  rw [List.length_set]
  by_cases hij : i = j
  · subst hij
    have hl := (List.getElem?_eq_some_iff.mp e).1
    rw [List.length_set] at hl
    rw [List.getElem?_set_self hl] at e
    cases e
    exact ho
  · rw [List.getElem?_set_ne hij] at e
    exact h j p e
mutual
/-- d of the store M stands for the value, and nothing of F is part of it -/
def Rep (M : Store) (F : Nat → Prop) : Vl → D → Prop
  | .non, d => d = .non
  | .bl b, d => d = .bl b
  | .int i, d => d = .int i
  | .str s, d => d = .str s
  | .tup vs, d => ∃ ds, d = .tup ds ∧ Reps M F vs ds
  | .lst vs, d => ∃ i ds, d = .ref i ∧ ¬ F i ∧ M[i]? = some (.lst ds) ∧ Reps M F vs ds
  | .ro vs, d => ∃ i ds, d = .ref i ∧ ¬ F i ∧ M[i]? = some (.ro ds) ∧ Reps M F vs ds
  | .dk ks vs, d => ∃ i es, d = .ref i ∧ ¬ F i ∧ M[i]? = some (.dk es) ∧ es.map (·.1) = ks ∧ Reps M F vs (es.map (·.2))
  | .xo f k, d => d = .xo f k
def Reps (M : Store) (F : Nat → Prop) : List Vl → List D → Prop
  | [], ds => ds = []
  | v :: vs, ds => ∃ d r, ds = d :: r ∧ Rep M F v d ∧ Reps M F vs r
end
/-- .. its own place apart -/
def RepT (M : Store) (F : Nat → Prop) (v : Vl) (d : D) : Prop := match v with
  | .lst vs => ∃ i ds, d = .ref i ∧ M[i]? = some (.lst ds) ∧ Reps M F vs ds
  | .ro vs => ∃ i ds, d = .ref i ∧ M[i]? = some (.ro ds) ∧ Reps M F vs ds
  | .dk ks vs => ∃ i es, d = .ref i ∧ M[i]? = some (.dk es) ∧ es.map (·.1) = ks ∧ Reps M F vs (es.map (·.2))
  | v => Rep M F v d
section
variable {M M' : Store} {F F' : Nat → Prop}
theorem Rep.top {v : Vl} {d : D} (h : Rep M F v d) : RepT M F v d := by
  cases v with
  | lst vs => simp only [Rep] at h; obtain ⟨i, ds, a, _, b, c⟩ := h; exact ⟨i, ds, a, b, c⟩
  | ro vs => simp only [Rep] at h; obtain ⟨i, ds, a, _, b, c⟩ := h; exact ⟨i, ds, a, b, c⟩
  | dk ks vs => simp only [Rep] at h; obtain ⟨i, ds, a, _, b, c⟩ := h; exact ⟨i, ds, a, b, c⟩
  | _ => exact h
theorem RepT.rep {v : Vl} {d : D} (h : RepT M F v d) (hn : ∀ i, d = .ref i → ¬ F i) : Rep M F v d := by
  cases v with
  | lst vs => obtain ⟨i, ds, a, b, c⟩ := h; simp only [Rep]; exact ⟨i, ds, a, hn i a, b, c⟩
  | ro vs => obtain ⟨i, ds, a, b, c⟩ := h; simp only [Rep]; exact ⟨i, ds, a, hn i a, b, c⟩
  | dk ks vs => obtain ⟨i, ds, a, b, c⟩ := h; simp only [Rep]; exact ⟨i, ds, a, hn i a, b, c⟩
  | _ => exact h
theorem Rep.nf {v : Vl} {i : Nat} (h : Rep M F v (.ref i)) : ¬ F i := by
  cases v <;> simp only [Rep] at h <;> first
    | (cases h; done)
    | (obtain ⟨_, e, _⟩ := h; cases e; done)
    | (obtain ⟨j, _, e, f, _⟩ := h; cases e; exact f)
theorem RepT.lt {v : Vl} {i : Nat} (h : RepT M F v (.ref i)) : i < M.length := by
  cases v <;> simp only [RepT, Rep] at h <;> first
    | (cases h; done)
    | (obtain ⟨_, e, _⟩ := h; cases e; done)
    | (obtain ⟨j, _, e, f, _⟩ := h; cases e; exact (List.getElem?_eq_some_iff.mp f).1)
mutual
theorem Rep.mono (hm : ∀ i, i < M.length → ¬ F i → M'[i]? = M[i]?) (hf : ∀ i, i < M.length → F' i → F i) : ∀ {v : Vl} {d : D}, Rep M F v d → Rep M' F' v d
  | .non, d, h => by simp only [Rep] at h ⊢; exact h
  | .bl b, d, h => by simp only [Rep] at h ⊢; exact h
  | .int b, d, h => by simp only [Rep] at h ⊢; exact h
  | .str b, d, h => by simp only [Rep] at h ⊢; exact h
  | .xo _ _, d, h => by simp only [Rep] at h ⊢; exact h
  | .tup vs, d, h => by
    simp only [Rep] at h ⊢
    obtain ⟨ds, a, b⟩ := h
    exact ⟨ds, a, Reps.mono hm hf b⟩
  | .lst vs, d, h => by
    simp only [Rep] at h ⊢
    obtain ⟨i, ds, a, b, c, e⟩ := h
    have hi := (List.getElem?_eq_some_iff.mp c).1
    exact ⟨i, ds, a, fun q => b (hf i hi q), by rw [hm i hi b, c], Reps.mono hm hf e⟩
  | .ro vs, d, h => by
    simp only [Rep] at h ⊢
    obtain ⟨i, ds, a, b, c, e⟩ := h
    have hi := (List.getElem?_eq_some_iff.mp c).1
    exact ⟨i, ds, a, fun q => b (hf i hi q), by rw [hm i hi b, c], Reps.mono hm hf e⟩
  | .dk ks vs, d, h => by
    simp only [Rep] at h ⊢
    obtain ⟨i, ds, a, b, c, g, e⟩ := h
    have hi := (List.getElem?_eq_some_iff.mp c).1
    exact ⟨i, ds, a, fun q => b (hf i hi q), by rw [hm i hi b, c], g, Reps.mono hm hf e⟩
theorem Reps.mono (hm : ∀ i, i < M.length → ¬ F i → M'[i]? = M[i]?) (hf : ∀ i, i < M.length → F' i → F i) : ∀ {vs : List Vl} {ds : List D}, Reps M F vs ds → Reps M' F' vs ds
  | [], ds, h => by simp only [Reps] at h ⊢; exact h
  | v :: vs, ds, h => by
    simp only [Reps] at h ⊢
    obtain ⟨d, r, a, b, c⟩ := h
    exact ⟨d, r, a, Rep.mono hm hf b, Reps.mono hm hf c⟩
end
theorem RepT.mono (hm : ∀ i, i < M.length → ¬ F i → M'[i]? = M[i]?) (hf : ∀ i, i < M.length → F' i → F i) {v : Vl} {d : D} (h : RepT M F v d) (ht : ∀ i, d = .ref i → M'[i]? = M[i]?) : RepT M' F' v d := by
  cases v with
  | lst vs => obtain ⟨i, ds, a, b, c⟩ := h; exact ⟨i, ds, a, by rw [ht i a, b], Reps.mono hm hf c⟩
  | ro vs => obtain ⟨i, ds, a, b, c⟩ := h; exact ⟨i, ds, a, by rw [ht i a, b], Reps.mono hm hf c⟩
  | dk ks vs => obtain ⟨i, ds, a, b, g, c⟩ := h; exact ⟨i, ds, a, by rw [ht i a, b], g, Reps.mono hm hf c⟩
  | _ => exact Rep.mono (F := F) hm hf h
theorem Rep.app {t : Store} {v : Vl} {d : D} (h : Rep M F v d) : Rep (M ++ t) F v d := Rep.mono (fun i hi _ => List.getElem?_append_left hi) (fun _ _ q => q) h
theorem Reps.app {t : Store} {v : List Vl} {d : List D} (h : Reps M F v d) : Reps (M ++ t) F v d := Reps.mono (fun i hi _ => List.getElem?_append_left hi) (fun _ _ q => q) h
theorem RepT.app {t : Store} {v : Vl} {d : D} (h : RepT M F v d) : RepT (M ++ t) F v d := RepT.mono (fun i hi _ => List.getElem?_append_left hi) (fun _ _ q => q) h fun i e => List.getElem?_append_left (by subst e; exact h.lt)
theorem Rep.less {v : Vl} {d : D} (hf : ∀ i, F' i → F i) (h : Rep M F v d) : Rep M F' v d := Rep.mono (fun _ _ _ => rfl) (fun i _ q => hf i q) h
theorem Reps.less {v : List Vl} {d : List D} (hf : ∀ i, F' i → F i) (h : Reps M F v d) : Reps M F' v d := Reps.mono (fun _ _ _ => rfl) (fun i _ q => hf i q) h
mutual
theorem Rep.bw : ∀ {v : Vl} {d : D}, Rep M F v d → d.bw M.length
  | .non, d, h => by simp only [Rep] at h; subst h; simp only [D.bw]
  | .bl b, d, h => by simp only [Rep] at h; subst h; simp only [D.bw]
  | .int b, d, h => by simp only [Rep] at h; subst h; simp only [D.bw]
  | .str b, d, h => by simp only [Rep] at h; subst h; simp only [D.bw]
  | .xo _ _, d, h => by simp only [Rep] at h; subst h; simp only [D.bw]
  | .tup vs, d, h => by
    simp only [Rep] at h
    obtain ⟨ds, a, b⟩ := h
    subst a
    simp only [D.bw]
    exact Reps.bws b
  | .lst vs, d, h => by
    simp only [Rep] at h
    obtain ⟨i, ds, a, b, c, e⟩ := h
    subst a
    simp only [D.bw]
    exact (List.getElem?_eq_some_iff.mp c).1
  | .ro vs, d, h => by
    simp only [Rep] at h
    obtain ⟨i, ds, a, b, c, e⟩ := h
    subst a
    simp only [D.bw]
    exact (List.getElem?_eq_some_iff.mp c).1
  | .dk ks vs, d, h => by
    simp only [Rep] at h
    obtain ⟨i, ds, a, b, c, e⟩ := h
    subst a
    simp only [D.bw]
    exact (List.getElem?_eq_some_iff.mp c).1
theorem Reps.bws : ∀ {vs : List Vl} {ds : List D}, Reps M F vs ds → D.bws M.length ds
  | [], ds, h => by simp only [Reps] at h; subst h; simp only [D.bws]
  | v :: vs, ds, h => by
    simp only [Reps] at h
    obtain ⟨d, r, a, b, c⟩ := h
    subst a
    simp only [D.bws]
    exact ⟨Rep.bw b, Reps.bws c⟩
end
theorem Clo.bws {i : Nat} {ds : List D} (h : Clo M) (e : M[i]? = some (.lst ds)) : D.bws M.length ds := h i _ e
mutual
/-- what stands in an older part alone -/
theorem Rep.cut {t : Store} (hc : Clo M) : ∀ {v : Vl} {d : D}, Rep (M ++ t) F v d → d.bw M.length → Rep M F v d
  | .non, d, h, _ => by simp only [Rep] at h ⊢; exact h
  | .bl b, d, h, _ => by simp only [Rep] at h ⊢; exact h
  | .int b, d, h, _ => by simp only [Rep] at h ⊢; exact h
  | .str b, d, h, _ => by simp only [Rep] at h ⊢; exact h
  | .xo _ _, d, h, _ => by simp only [Rep] at h ⊢; exact h
  | .tup vs, d, h, w => by
    simp only [Rep] at h ⊢
    obtain ⟨ds, a, b⟩ := h
    subst a
    simp only [D.bw] at w
    exact ⟨ds, rfl, Reps.cut hc b w⟩
  | .lst vs, d, h, w => by
    simp only [Rep] at h ⊢
    obtain ⟨i, ds, a, b, c, e⟩ := h
    subst a
    simp only [D.bw] at w
    rw [List.getElem?_append_left w] at c
    exact ⟨i, ds, rfl, b, c, Reps.cut hc e (hc i _ c)⟩
  | .ro vs, d, h, w => by
    simp only [Rep] at h ⊢
    obtain ⟨i, ds, a, b, c, e⟩ := h
    subst a
    simp only [D.bw] at w
    rw [List.getElem?_append_left w] at c
    exact ⟨i, ds, rfl, b, c, Reps.cut hc e (hc i _ c)⟩
  | .dk ks vs, d, h, w => by
    simp only [Rep] at h ⊢
    obtain ⟨i, ds, a, b, c, g, e⟩ := h
    subst a
    simp only [D.bw] at w
    rw [List.getElem?_append_left w] at c
    exact ⟨i, ds, rfl, b, c, g, Reps.cut hc e (hc i _ c)⟩
theorem Reps.cut {t : Store} (hc : Clo M) : ∀ {vs : List Vl} {ds : List D}, Reps (M ++ t) F vs ds → D.bws M.length ds → Reps M F vs ds
  | [], ds, h, _ => by simp only [Reps] at h ⊢; exact h
  | v :: vs, ds, h, w => by
    simp only [Reps] at h ⊢
    obtain ⟨d, r, a, b, c⟩ := h
    subst a
    simp only [D.bws] at w
    exact ⟨d, r, rfl, Rep.cut hc b w.1, Reps.cut hc c w.2⟩
end
mutual
theorem Rep.dn : ∀ {v : Vl} {d e : D}, Rep M F v d → v.dn = some e → d = e
  | .non, d, e, h, q => by simp only [Rep] at h; simp only [Vl.dn, Option.some.injEq] at q; rw [h, q]
  | .bl b, d, e, h, q => by simp only [Rep] at h; simp only [Vl.dn, Option.some.injEq] at q; rw [h, q]
  | .int b, d, e, h, q => by simp only [Rep] at h; simp only [Vl.dn, Option.some.injEq] at q; rw [h, q]
  | .str b, d, e, h, q => by simp only [Rep] at h; simp only [Vl.dn, Option.some.injEq] at q; rw [h, q]
  | .xo _ _, d, e, h, q => by simp [Vl.dn] at q
  | .tup vs, d, e, h, q => by
    simp only [Rep] at h
    obtain ⟨ds, a, b⟩ := h
    simp only [Vl.dn] at q
    cases z : Vl.dns vs with
    | none => rw [z] at q; cases q
    | some es =>
      rw [z] at q
      cases q
      rw [a, Reps.dns b z]
  | .lst vs, d, e, h, q => by simp [Vl.dn] at q
  | .ro vs, d, e, h, q => by simp [Vl.dn] at q
  | .dk ks vs, d, e, h, q => by simp [Vl.dn] at q
theorem Reps.dns : ∀ {vs : List Vl} {ds es : List D}, Reps M F vs ds → Vl.dns vs = some es → ds = es
  | [], ds, es, h, q => by simp only [Reps] at h; simp only [Vl.dns, Option.some.injEq] at q; rw [h, q]
  | v :: vs, ds, es, h, q => by
    simp only [Reps] at h
    obtain ⟨d, r, a, b, c⟩ := h
    simp only [Vl.dns] at q
    cases e1 : Vl.dn v with
    | none => rw [e1] at q; cases q
    | some d' =>
      cases e2 : Vl.dns vs with
      | none => rw [e1, e2] at q; cases q
      | some r' =>
        rw [e1, e2] at q
        cases q
        rw [a, Rep.dn b e1, Reps.dns c e2]
end
mutual
theorem Rep.of_dn : ∀ {v : Vl} {d : D}, v.dn = some d → Rep M F v d
  | .non, d, q => by simp only [Vl.dn, Option.some.injEq] at q; simp only [Rep]; exact q.symm
  | .bl b, d, q => by simp only [Vl.dn, Option.some.injEq] at q; simp only [Rep]; exact q.symm
  | .int b, d, q => by simp only [Vl.dn, Option.some.injEq] at q; simp only [Rep]; exact q.symm
  | .str b, d, q => by simp only [Vl.dn, Option.some.injEq] at q; simp only [Rep]; exact q.symm
  | .xo _ _, d, q => by simp [Vl.dn] at q
  | .tup vs, d, q => by
    simp only [Vl.dn] at q
    cases z : Vl.dns vs with
    | none => rw [z] at q; cases q
    | some es =>
      rw [z] at q
      cases q
      simp only [Rep]
      exact ⟨es, rfl, Reps.of_dns z⟩
  | .lst vs, d, q => by simp [Vl.dn] at q
  | .ro vs, d, q => by simp [Vl.dn] at q
  | .dk ks vs, d, q => by simp [Vl.dn] at q
theorem Reps.of_dns : ∀ {vs : List Vl} {es : List D}, Vl.dns vs = some es → Reps M F vs es
  | [], es, q => by simp only [Vl.dns, Option.some.injEq] at q; simp only [Reps]; exact q.symm
  | v :: vs, es, q => by
    simp only [Vl.dns] at q
    cases e1 : Vl.dn v with
    | none => rw [e1] at q; cases q
    | some d' =>
      cases e2 : Vl.dns vs with
      | none => rw [e1, e2] at q; cases q
      | some r' =>
        rw [e1, e2] at q
        cases q
        simp only [Reps]
        exact ⟨d', r', rfl, Rep.of_dn e1, Reps.of_dns e2⟩
end
mutual
theorem Rep.pure : ∀ {v : Vl} {d : D}, Rep M F v d → d.pure = true → v.dn = some d
  | .non, d, h, _ => by simp only [Rep] at h; subst h; simp only [Vl.dn]
  | .bl b, d, h, _ => by simp only [Rep] at h; subst h; simp only [Vl.dn]
  | .int b, d, h, _ => by simp only [Rep] at h; subst h; simp only [Vl.dn]
  | .str b, d, h, _ => by simp only [Rep] at h; subst h; simp only [Vl.dn]
  | .xo _ _, d, h, p => by simp only [Rep] at h; subst h; simp [D.pure] at p
  | .tup vs, d, h, p => by
    simp only [Rep] at h
    obtain ⟨ds, a, b⟩ := h
    subst a
    simp only [D.pure] at p
    simp only [Vl.dn, Reps.pures b p, Option.map_some]
  | .lst vs, d, h, p => by simp only [Rep] at h; obtain ⟨i, ds, a, _⟩ := h; subst a; simp [D.pure] at p
  | .ro vs, d, h, p => by simp only [Rep] at h; obtain ⟨i, ds, a, _⟩ := h; subst a; simp [D.pure] at p
  | .dk ks vs, d, h, p => by simp only [Rep] at h; obtain ⟨i, ds, a, _⟩ := h; subst a; simp [D.pure] at p
theorem Reps.pures : ∀ {vs : List Vl} {ds : List D}, Reps M F vs ds → D.pures ds = true → Vl.dns vs = some ds
  | [], ds, h, _ => by simp only [Reps] at h; subst h; simp only [Vl.dns]
  | v :: vs, ds, h, p => by
    simp only [Reps] at h
    obtain ⟨d, r, a, b, c⟩ := h
    subst a
    simp only [D.pures, Bool.and_eq_true] at p
    simp only [Vl.dns, Rep.pure b p.1, Reps.pures c p.2]
end
theorem Reps.length : ∀ {vs : List Vl} {ds : List D}, Reps M F vs ds → ds.length = vs.length
  | [], ds, h => by simp only [Reps] at h; rw [h]; rfl
  | v :: vs, ds, h => by
    simp only [Reps] at h
    obtain ⟨d, r, a, b, c⟩ := h
    rw [a, List.length_cons, Reps.length c, List.length_cons]
theorem Reps.get : ∀ {vs : List Vl} {ds : List D}, Reps M F vs ds → ∀ {i : Nat} {v : Vl}, vs[i]? = some v → ∃ d, ds[i]? = some d ∧ Rep M F v d
  | [], ds, h, i, v, e => by simp at e
  | u :: vs, ds, h, i, v, e => by
    simp only [Reps] at h
    obtain ⟨d, r, a, b, c⟩ := h
    cases i with
    | zero =>
      rw [List.getElem?_cons_zero] at e
      cases e
      exact ⟨d, by rw [a]; rfl, b⟩
    | succ i =>
      rw [List.getElem?_cons_succ] at e
      obtain ⟨d', h1, h2⟩ := Reps.get c e
      exact ⟨d', by rw [a, List.getElem?_cons_succ]; exact h1, h2⟩
theorem Reps.mk : ∀ {vs : List Vl} {ds : List D}, ds.length = vs.length → (∀ (i : Nat) (v : Vl) (d : D), vs[i]? = some v → ds[i]? = some d → Rep M F v d) → Reps M F vs ds
  | [], [], _, _ => by simp only [Reps]
  | [], _ :: _, h, _ => by simp at h
  | _ :: _, [], h, _ => by simp at h
  | v :: vs, d :: ds, h, f => by
    simp only [Reps]
    exact ⟨d, ds, rfl, f 0 v d rfl rfl, Reps.mk (by simpa using h) fun i v d a b => f (i + 1) v d (by simpa using a) (by simpa using b)⟩
theorem Reps.append {vs us : List Vl} {ds es : List D} (h : Reps M F vs ds) (g : Reps M F us es) : Reps M F (vs ++ us) (ds ++ es) := by
  induction vs generalizing ds with
  | nil => simp only [Reps] at h; subst h; exact g
  | cons v vs ih =>
    simp only [Reps] at h
    obtain ⟨d, r, a, b, c⟩ := h
    subst a
    simp only [List.cons_append, Reps]
    exact ⟨d, r ++ es, rfl, b, ih c⟩
theorem Reps.one {v : Vl} {d : D} (h : Rep M F v d) : Reps M F [v] [d] := by
  simp only [Reps]
  exact ⟨d, [], rfl, h, rfl⟩
theorem Reps.drop : ∀ (n : Nat) {vs : List Vl} {ds : List D}, Reps M F vs ds → Reps M F (vs.drop n) (ds.drop n)
  | 0, vs, ds, h => h
  | n + 1, [], ds, h => by simp only [Reps] at h; subst h; simp [Reps]
  | n + 1, v :: vs, ds, h => by
    simp only [Reps] at h
    obtain ⟨d, r, a, b, c⟩ := h
    subst a
    simp only [List.drop_succ_cons]
    exact Reps.drop n c
theorem Reps.take : ∀ (n : Nat) {vs : List Vl} {ds : List D}, Reps M F vs ds → Reps M F (vs.take n) (ds.take n)
  | 0, vs, ds, h => by simp [Reps]
  | n + 1, [], ds, h => by simp only [Reps] at h; subst h; simp [Reps]
  | n + 1, v :: vs, ds, h => by
    simp only [Reps] at h
    obtain ⟨d, r, a, b, c⟩ := h
    subst a
    simp only [List.take_succ_cons, Reps]
    exact ⟨d, _, rfl, b, Reps.take n c⟩
theorem Reps.cut3 {vs : List Vl} {ds : List D} (lo hi : Option Int) (h : Reps M F vs ds) : Reps M F (Sk.cut vs lo hi) (Sk.cut ds lo hi) := by
  unfold Sk.cut
  rw [h.length]
  exact Reps.take _ (Reps.drop _ h)
theorem Reps.reverse {vs : List Vl} {ds : List D} (h : Reps M F vs ds) : Reps M F vs.reverse ds.reverse := by
  induction vs generalizing ds with
  | nil => simp only [Reps] at h; subst h; simp [Reps]
  | cons v vs ih =>
    simp only [Reps] at h
    obtain ⟨d, r, a, b, c⟩ := h
    subst a
    rw [List.reverse_cons, List.reverse_cons]
    exact (ih c).append (.one b)
theorem Reps.set {vs : List Vl} {ds : List D} {v : Vl} {d : D} (h : Reps M F vs ds) (g : Rep M F v d) (i : Nat) : Reps M F (vs.set i v) (ds.set i d) := by
  induction vs generalizing ds i with
  | nil => simp only [Reps] at h; subst h; simp [Reps]
  | cons u vs ih =>
    simp only [Reps] at h
    obtain ⟨e, r, a, b, c⟩ := h
    subst a
    cases i with
    | zero => simp only [List.set_cons_zero, Reps]; exact ⟨d, r, rfl, g, c⟩
    | succ i => simp only [List.set_cons_succ, Reps]; exact ⟨e, _, rfl, b, ih c i⟩
theorem Reps.eraseIdx {vs : List Vl} {ds : List D} (h : Reps M F vs ds) (i : Nat) : Reps M F (vs.eraseIdx i) (ds.eraseIdx i) := by
  induction vs generalizing ds i with
  | nil => simp only [Reps] at h; subst h; simp [Reps]
  | cons u vs ih =>
    simp only [Reps] at h
    obtain ⟨e, r, a, b, c⟩ := h
    subst a
    cases i with
    | zero => simpa using c
    | succ i => simp only [List.eraseIdx_cons_succ, Reps]; exact ⟨e, _, rfl, b, ih c i⟩
theorem Reps.cons {vs : List Vl} {ds : List D} {v : Vl} {d : D} (g : Rep M F v d) (h : Reps M F vs ds) : Reps M F (v :: vs) (d :: ds) := by
  simp only [Reps]
  exact ⟨d, ds, rfl, g, h⟩
theorem Reps.nil : Reps M F [] [] := by simp only [Reps]
theorem Reps.flatRep {vs : List Vl} {ds : List D} (h : Reps M F vs ds) : ∀ n, Reps M F (List.replicate n vs).flatten (List.replicate n ds).flatten
  | 0 => by simp [Reps]
  | n + 1 => by
    simp only [List.replicate_succ, List.flatten_cons]
    exact h.append (h.flatRep n)
end
end Sk
end
section
set_option Elab.async false
set_option linter.all false
set_option autoImplicit false
set_option maxRecDepth 100000
/-! SkV2: operations on values, and that the store's ones do the same. -/
namespace Sk
open PySem (Str)
inductive VR (α : Type) where
  | ok (a : α)
  | exc (x : Exc)
  | bad
def VR.bind {α β : Type} : VR α → (α → VR β) → VR β
  | .ok a, f => f a
  | .exc x, _ => .exc x
  | .bad, _ => .bad
abbrev VF := Vl × Bool
structure St (H : Nat → Prop) (M : Store) : Prop where
  clo : Clo M
  lt : ∀ i, H i → i < M.length
def Exc.pur (_ : Exc) : Prop := True
def RE (H : Nat → Prop) (M : Store) : VR VF → Res D → Prop
  | .ok p, r => ∃ d t, r = .ok d (M ++ t) ∧ Clo (M ++ t) ∧ Rep (M ++ t) H p.1 d ∧ (p.2 = true → ∀ i, d = .ref i → M.length ≤ i ∧ RepT (M ++ t) (fun j => H j ∨ j = i) p.1 d)
  | .exc x, r => x.pur ∧ ∃ t, r = .exc x (M ++ t) ∧ Clo (M ++ t)
  | .bad, _ => True
def REs (H : Nat → Prop) (M : Store) : VR (List Vl) → Res (List D) → Prop
  | .ok p, r => ∃ d t, r = .ok d (M ++ t) ∧ Clo (M ++ t) ∧ Reps (M ++ t) H p d
  | .exc x, r => x.pur ∧ ∃ t, r = .exc x (M ++ t) ∧ Clo (M ++ t)
  | .bad, _ => True
def REb (M : Store) : VR Bool → Res Bool → Prop
  | .ok b, r => ∃ t, r = .ok b (M ++ t) ∧ Clo (M ++ t)
  | .exc x, r => x.pur ∧ ∃ t, r = .exc x (M ++ t) ∧ Clo (M ++ t)
  | .bad, _ => True
section
variable {H : Nat → Prop} {M t : Store}
theorem St.app (h : St H M) (hc : Clo (M ++ t)) : St H (M ++ t) := ⟨hc, fun i q => by have := h.lt i q; simp; omega⟩
theorem RE.pure {v : Vl} {d : D} (hc : Clo M) (h : v.dn = some d) : RE H M (.ok (v, false)) (.ok d M) :=
  ⟨d, [], by rw [List.append_nil], by rw [List.append_nil]; exact hc, Rep.of_dn h, fun q => by cases q⟩
theorem RE.old {v : Vl} {d : D} (hc : Clo M) (h : Rep M H v d) : RE H M (.ok (v, false)) (.ok d M) :=
  ⟨d, [], by rw [List.append_nil], by rw [List.append_nil]; exact hc, by rw [List.append_nil]; exact h, fun q => by cases q⟩
theorem new_get {M : Store} {o : O} : (M ++ [o])[M.length]? = some o := by simp
theorem RE.new {vs : List Vl} {ds : List D} (s : St H M) (h : Reps M H vs ds) : RE H M (.ok (.lst vs, true)) (alloc M (.lst ds)) := by
  have hc : Clo (M ++ [.lst ds]) := s.clo.snoc (D.bws_mono (Nat.le_succ _) h.bws)
  have hn : ¬ H M.length := fun q => absurd (s.lt _ q) (Nat.lt_irrefl _)
  refine ⟨.ref M.length, [.lst ds], rfl, hc, ?_, ?_⟩
  · simp only [Rep]
    exact ⟨_, ds, rfl, hn, new_get, h.app⟩
  · intro _ i e
    cases e
    refine ⟨Nat.le_refl _, _, ds, rfl, new_get, ?_⟩
    refine Reps.mono (M := M) (F := H) (fun i hi _ => List.getElem?_append_left hi) (fun i hi q => ?_) h
    rcases q with q | q
    · exact q
    · omega
theorem RE.newK {ks : List Ky} {vs : List Vl} {es : List (Ky × D)} (s : St H M) (h : Reps M H vs (es.map (·.2))) (hk : es.map (·.1) = ks) : RE H M (.ok (.dk ks vs, true)) (alloc M (.dk es)) := by
  have hc : Clo (M ++ [.dk es]) := s.clo.snoc (D.bws_mono (Nat.le_succ _) h.bws)
  have hn : ¬ H M.length := fun q => absurd (s.lt _ q) (Nat.lt_irrefl _)
  refine ⟨.ref M.length, [.dk es], rfl, hc, ?_, ?_⟩
  · simp only [Rep]
    exact ⟨_, es, rfl, hn, new_get, hk, h.app⟩
  · intro _ i e
    cases e
    refine ⟨Nat.le_refl _, _, es, rfl, new_get, hk, ?_⟩
    refine Reps.mono (M := M) (F := H) (fun i hi _ => List.getElem?_append_left hi) (fun i hi q => ?_) h
    rcases q with q | q
    · exact q
    · omega
theorem RE.wide {x : VR VF} {r : Res D} (h : RE H (M ++ t) x r) : RE H M x r := by
  cases x with
  | ok p =>
    obtain ⟨d, u, a, b, c, e⟩ := h
    rw [List.append_assoc] at a b c e
    exact ⟨d, t ++ u, a, b, c, fun q i z => ⟨by have := (e q i z).1; simp at this; omega, (e q i z).2⟩⟩
  | exc x =>
    obtain ⟨p, u, a, b⟩ := h
    rw [List.append_assoc] at a b
    exact ⟨p, t ++ u, a, b⟩
  | bad => trivial
theorem REs.wide {x : VR (List Vl)} {r : Res (List D)} (h : REs H (M ++ t) x r) : REs H M x r := by
  cases x with
  | ok p =>
    obtain ⟨d, u, a, b, c⟩ := h
    rw [List.append_assoc] at a b c
    exact ⟨d, t ++ u, a, b, c⟩
  | exc x =>
    obtain ⟨p, u, a, b⟩ := h
    rw [List.append_assoc] at a b
    exact ⟨p, t ++ u, a, b⟩
  | bad => trivial
theorem REb.wide {x : VR Bool} {r : Res Bool} (h : REb (M ++ t) x r) : REb M x r := by
  cases x with
  | ok p =>
    obtain ⟨u, a, b⟩ := h
    rw [List.append_assoc] at a b
    exact ⟨t ++ u, a, b⟩
  | exc x =>
    obtain ⟨p, u, a, b⟩ := h
    rw [List.append_assoc] at a b
    exact ⟨p, t ++ u, a, b⟩
  | bad => trivial
theorem RE.bind {x : VR VF} {r : Res D} {f : VF → VR VF} {g : D → Store → Res D} (s : St H M) (h : RE H M x r) (hf : ∀ p d t, x = .ok p → St H (M ++ t) → Rep (M ++ t) H p.1 d → RE H (M ++ t) (f p) (g d (M ++ t))) : RE H M (x.bind f) (r.bind g) := by
  cases x with
  | ok p =>
    obtain ⟨d, t, a, b, c, e⟩ := h
    subst a
    exact (hf p d t rfl (s.app b) c).wide
  | exc x =>
    obtain ⟨p, t, a, b⟩ := h
    subst a
    exact ⟨p, t, rfl, b⟩
  | bad => trivial
theorem RE.binds {x : VR (List Vl)} {r : Res (List D)} {f : List Vl → VR VF} {g : List D → Store → Res D} (s : St H M) (h : REs H M x r) (hf : ∀ vs ds t, x = .ok vs → St H (M ++ t) → Reps (M ++ t) H vs ds → RE H (M ++ t) (f vs) (g ds (M ++ t))) : RE H M (x.bind f) (r.bind g) := by
  cases x with
  | ok p =>
    obtain ⟨d, t, a, b, c⟩ := h
    subst a
    exact (hf p d t rfl (s.app b) c).wide
  | exc x =>
    obtain ⟨p, t, a, b⟩ := h
    subst a
    exact ⟨p, t, rfl, b⟩
  | bad => trivial
theorem RE.binds0 {x : VR (List Vl)} {r : Res (List D)} {f : List Vl → VR VF} {g : List D → Store → Res D} (s : St H M) (h : REs H M x r) (hf : ∀ vs ds t, x = .ok vs → St H (M ++ t) → Reps (M ++ t) H vs ds → RE H M (f vs) (g ds (M ++ t))) : RE H M (x.bind f) (r.bind g) := by
  cases x with
  | ok p =>
    obtain ⟨d, t, a, b, c⟩ := h
    subst a
    exact hf p d t rfl (s.app b) c
  | exc x =>
    obtain ⟨p, t, a, b⟩ := h
    subst a
    exact ⟨p, t, rfl, b⟩
  | bad => trivial
theorem rbind_ok {α β : Type} {a : α} {M : Store} {f : α → Store → Res β} : (Res.ok a M).bind f = f a M := rfl
theorem RE.bindb {x : VR Bool} {r : Res Bool} {f : Bool → VR VF} {g : Bool → Store → Res D} (s : St H M) (h : REb M x r) (hf : ∀ b t, St H (M ++ t) → RE H (M ++ t) (f b) (g b (M ++ t))) : RE H M (x.bind f) (r.bind g) := by
  cases x with
  | ok p =>
    obtain ⟨t, a, b⟩ := h
    subst a
    exact (hf p t (s.app b)).wide
  | exc x =>
    obtain ⟨p, t, a, b⟩ := h
    subst a
    exact ⟨p, t, rfl, b⟩
  | bad => trivial
theorem REs.bind {x : VR VF} {r : Res D} {f : VF → VR (List Vl)} {g : D → Store → Res (List D)} (s : St H M) (h : RE H M x r) (hf : ∀ p d t, x = .ok p → St H (M ++ t) → Rep (M ++ t) H p.1 d → REs H (M ++ t) (f p) (g d (M ++ t))) : REs H M (x.bind f) (r.bind g) := by
  cases x with
  | ok p =>
    obtain ⟨d, t, a, b, c, e⟩ := h
    subst a
    exact (hf p d t rfl (s.app b) c).wide
  | exc x =>
    obtain ⟨p, t, a, b⟩ := h
    subst a
    exact ⟨p, t, rfl, b⟩
  | bad => trivial
theorem REs.binds {x : VR (List Vl)} {r : Res (List D)} {f : List Vl → VR (List Vl)} {g : List D → Store → Res (List D)} (s : St H M) (h : REs H M x r) (hf : ∀ vs ds t, x = .ok vs → St H (M ++ t) → Reps (M ++ t) H vs ds → REs H (M ++ t) (f vs) (g ds (M ++ t))) : REs H M (x.bind f) (r.bind g) := by
  cases x with
  | ok p =>
    obtain ⟨d, t, a, b, c⟩ := h
    subst a
    exact (hf p d t rfl (s.app b) c).wide
  | exc x =>
    obtain ⟨p, t, a, b⟩ := h
    subst a
    exact ⟨p, t, rfl, b⟩
  | bad => trivial
theorem REb.bind {x : VR VF} {r : Res D} {f : VF → VR Bool} {g : D → Store → Res Bool} (s : St H M) (h : RE H M x r) (hf : ∀ p d t, x = .ok p → St H (M ++ t) → Rep (M ++ t) H p.1 d → REb (M ++ t) (f p) (g d (M ++ t))) : REb M (x.bind f) (r.bind g) := by
  cases x with
  | ok p =>
    obtain ⟨d, t, a, b, c, e⟩ := h
    subst a
    exact (hf p d t rfl (s.app b) c).wide
  | exc x =>
    obtain ⟨p, t, a, b⟩ := h
    subst a
    exact ⟨p, t, rfl, b⟩
  | bad => trivial
end
/-! ### truth -/
def vtruth : Vl → Option Bool
  | .non => some false
  | .bl b => some b
  | .int i => some (i != 0)
  | .str s => some ((s.length : Int) != 0)
  | .tup xs => some (!xs.isEmpty)
  | .lst xs => some (!xs.isEmpty)
  | .ro xs => some (!xs.isEmpty)
  | .dk ks _ => some (!ks.isEmpty)
  | .xo _ _ => none
def vtr (v : Vl) : VR Bool := match vtruth v with
  | some b => .ok b
  | none => .bad
section
variable {H : Nat → Prop} {M : Store}
theorem len_empty {α β : Type} {a : List α} {b : List β} (h : a.length = b.length) : a.isEmpty = b.isEmpty := by
  cases a <;> cases b <;> simp_all
theorem truth_of {v : Vl} {d : D} (h : Rep M H v d) : truth M d = vtruth v := by
  cases v <;> simp only [Rep] at h
  case tup vs => obtain ⟨ds, rfl, h⟩ := h; simp only [truth, vtruth, len_empty h.length]
  case lst vs => obtain ⟨i, ds, rfl, _, e, h⟩ := h; simp only [truth, vtruth, e, len_empty h.length]
  case ro vs => obtain ⟨i, ds, rfl, _, e, h⟩ := h; simp only [truth, vtruth, e, len_empty h.length]
  case dk ks vs => obtain ⟨i, es, rfl, _, e, g, h⟩ := h; subst g; simp only [truth, vtruth, e]; rw [len_empty (a := es) (b := es.map (·.1)) (by simp)]
  all_goals (subst h; rfl)
theorem re_truth {v : Vl} {d : D} (hc : Clo M) (h : Rep M H v d) : REb M (vtr v) (truthR d M) := by
  unfold vtr truthR
  rw [truth_of h]
  cases vtruth v with
  | none => trivial
  | some b => exact ⟨[], by rw [List.append_nil], by rw [List.append_nil]; exact hc⟩
end
/-! ### operators -/
def vadd (a b : Vl) : VR VF := match a, b with
  | .int i, .int j => .ok (.int (i + j), false)
  | .str s, .str t => if s.length + t.length ≤ lim then .ok (.str (s ++ t), false) else .bad
  | .tup xs, .tup ys => if xs.length + ys.length ≤ lim then .ok (.tup (xs ++ ys), false) else .bad
  | .lst xs, .lst ys => if xs.length + ys.length ≤ lim then .ok (.lst (xs ++ ys), true) else .bad
  | _, _ => .bad
def vmul (a b : Vl) : VR VF := match a, b with
  | .int i, .int j => if okMul i j = true then .ok (.int (i * j), false) else .bad
  | .tup xs, .int k => if xs ≠ [] ∧ 2 ≤ k ∧ k ≤ 1000 ∧ xs.length ≤ 1000 then .ok (.tup (List.replicate k.toNat xs).flatten, false) else .bad
  | .lst xs, .int k => if -(2 ^ 63) ≤ k ∧ k < 2 ^ 63 ∧ xs.length * k.toNat ≤ lim then .ok (.lst (List.replicate k.toNat xs).flatten, true) else .bad
  | .str s, .int k => if k ≤ 1000000 ∧ -1000000 ≤ k ∧ s.length ≤ 16 then .ok (.str (strRep s k), false) else .bad
  | _, _ => .bad
def vbin (o : BOp) (a b : Vl) : VR VF := match o with
  | .add => vadd a b
  | .mul => vmul a b
  | .sub => (match a, b with
    | .int i, .int j => .ok (.int (i - j), false)
    | _, _ => .bad)
  | .fdiv => (match a, b with
    | .int i, .int j => if okDiv j = true then .ok (.int (i / j), false) else .bad
    | _, _ => .bad)
  | .mod => (match a, b with
    | .int i, .int j => if 0 < j then .ok (.int (i % j), false) else .bad
    | _, _ => .bad)
  | .pow => (match a, b with
    | .int i, .int j => if okPow i j = true then .ok (.int (i ^ j.toNat), false) else .bad
    | _, _ => .bad)
/-- as it is compared -/
def Vl.lp : Vl → Option (Bool × D)
  | .lst xs => (Vl.dns xs).map fun ds => (true, .tup ds)
  | v => v.dn.map fun d => (false, d)
def okd (p : Bool × D) : Bool := match p with
  | (true, .tup ds) => D.dles ds 50
  | (_, d) => d.dle 50
def veq (a b : Vl) : Option Bool := match a.lp, b.lp with
  | some p, some q => if (okd p && okd q) = true then some (p.1 == q.1 && D.eqv p.2 q.2) else none
  | _, _ => none
/-- a key's value -/
def getV : List Ky → List Vl → Ky → Option Vl
  | q :: ks, vs, k => match vs with
    | v :: vs => if q = k then some v else getV ks vs k
    | [] => none
  | [], _, _ => none
def setV : List Ky → List Vl → Ky → Vl → List Vl
  | q :: ks, vs, k, x => match vs with
    | v :: vs => (if q = k then x else v) :: setV ks vs k x
    | [] => []
  | [], _, _, _ => []
def putV (ks : List Ky) (vs : List Vl) (k : Ky) (x : Vl) : List Ky × List Vl := match getV ks vs k with
  | some _ => (ks, setV ks vs k x)
  | none => (ks ++ [k], vs ++ [x])
def anyIn (a : Vl) (ys : List Vl) : Option Bool := match a.dn, Vl.dns ys with
  | some d, some es => if (d.dle 50 && D.dles es 50) = true then some (es.any fun y => D.eqv y d) else none
  | _, _ => none
def vkey (v : Vl) : Option Ky := match v with
  | .int i => some (.inl i)
  | .str s => some (.inr s)
  | _ => none
def vin (a b : Vl) : Option Bool := match b with
  | .str t => (match a with
    | .str s => if s.length = 1 then some (decide (s.cps.getD 0 0 ∈ t.cps.toList)) else none
    | _ => none)
  | .tup ys => anyIn a ys
  | .lst ys => anyIn a ys
  | .ro ys => anyIn a ys
  | .dk ks vs => (vkey a).map fun q => (getV ks vs q).isSome
  | _ => none
def voptB : Option Bool → VR VF
  | some b => .ok (.bl b, false)
  | none => .bad
def vlt (a b : Vl) (f : D → D → Bool) : VR VF := match a.dn, b.dn with
  | some d, some e => if okLt d e = true then .ok (.bl (f d e), false) else .bad
  | _, _ => .bad
def Vl.isNon : Vl → Bool
  | .non => true
  | _ => false
def vcmp (o : COp) (a b : Vl) : VR VF := match o with
  | .eq => voptB (veq a b)
  | .ne => voptB ((veq a b).map fun c => !c)
  | .lt => vlt a b fun d e => D.lt d e
  | .le => vlt a b fun d e => !D.lt e d
  | .gt => vlt a b fun d e => D.lt e d
  | .ge => vlt a b fun d e => !D.lt d e
  | .is => (match b with
    | .non => .ok (.bl a.isNon, false)
    | .bl y => (match a with
      | .bl x => .ok (.bl (x == y), false)
      | _ => .bad)
    | _ => .bad)
  | .isnot => (match b with
    | .non => .ok (.bl (!a.isNon), false)
    | .bl y => (match a with
      | .bl x => .ok (.bl (!(x == y)), false)
      | _ => .bad)
    | _ => .bad)
  | .in => voptB (vin a b)
  | .notin => voptB ((vin a b).map fun c => !c)
def vixL (xs : List Vl) (b : Vl) : VR VF := match b with
  | .int i => (match atI xs i with
    | some d => .ok (d, false)
    | none => .bad)
  | _ => .bad
def vix (a b : Vl) : VR VF := match a with
  | .str s => (match b with
    | .int i => (match atI s.cps.toList i with
      | some c => .ok (.str ⟨#[c]⟩, false)
      | none => .bad)
    | _ => .bad)
  | .tup xs => vixL xs b
  | .lst xs => vixL xs b
  | .ro xs => vixL xs b
  | .dk ks vs => (match (vkey b).bind fun q => getV ks vs q with
    | some d => .ok (d, false)
    | none => .bad)
  | _ => .bad
def vslc (a : Vl) (lo hi : Option Int) : VR VF := match a with
  | .str s => .ok (.str ⟨(cut s.cps.toList lo hi).toArray⟩, false)
  | .tup xs => .ok (.tup (cut xs lo hi), false)
  | .lst xs => .ok (.lst (cut xs lo hi), true)
  | .ro xs => .ok (.lst (cut xs lo hi), true)
  | _ => .bad
section
variable {H : Nat → Prop} {M : Store} {a b : Vl} {x y : D}
theorem re_bin {o : BOp} (s : St H M) (ha : Rep M H a x) (hb : Rep M H b y) : RE H M (vbin o a b) (binD o x y M) := by
  cases a <;> try (cases o <;> exact trivial)
  case int i =>
    cases b <;> try (cases o <;> exact trivial)
    case int j =>
      simp only [Rep] at ha hb
      subst ha hb
      cases o <;> simp only [vbin, binD, vadd, addD, vmul, mulD] <;> first
        | exact RE.pure s.clo (by simp only [Vl.dn])
        | (split
           · exact RE.pure s.clo (by simp only [Vl.dn])
           · exact trivial)
  case str p =>
    cases b <;> try (cases o <;> exact trivial)
    case int j =>
      simp only [Rep] at ha hb
      subst ha hb
      cases o <;> simp only [vbin, binD, vadd, addD, vmul, mulD] <;> first
        | exact trivial
        | (split
           · exact RE.pure s.clo (by simp only [Vl.dn])
           · exact trivial)
    case str j =>
      simp only [Rep] at ha hb
      subst ha hb
      cases o <;> simp only [vbin, binD, vadd, addD, vmul, mulD] <;> first
        | exact trivial
        | (split
           · exact RE.pure s.clo (by simp only [Vl.dn])
           · exact trivial)
  case tup p =>
    cases b <;> try (cases o <;> exact trivial)
    case int j =>
      simp only [Rep] at ha hb
      obtain ⟨ds, rfl, ha⟩ := ha
      subst hb
      cases o <;> simp only [vbin, binD, vadd, addD, vmul, mulD] <;> first
        | exact trivial
        | skip
      by_cases h : p ≠ [] ∧ 2 ≤ j ∧ j ≤ 1000 ∧ p.length ≤ 1000
      · have h2 : ds ≠ [] ∧ 2 ≤ j ∧ j ≤ 1000 ∧ ds.length ≤ 1000 := ⟨fun e => h.1 (by have := ha.length; rw [e] at this; exact List.eq_nil_of_length_eq_zero this.symm), h.2.1, h.2.2.1, by rw [ha.length]; exact h.2.2.2⟩
        rw [if_pos h, if_pos h2]
        exact RE.old s.clo (by simp only [Rep]; exact ⟨_, rfl, ha.flatRep _⟩)
      · rw [if_neg h]; exact trivial
    case tup q =>
      simp only [Rep] at ha hb
      obtain ⟨ds, rfl, ha⟩ := ha
      obtain ⟨es, rfl, hb⟩ := hb
      cases o <;> simp only [vbin, binD, vadd, addD, vmul, mulD] <;> first
        | exact trivial
        | skip
      rw [ha.length, hb.length]
      split
      · exact RE.old s.clo (by simp only [Rep]; exact ⟨_, rfl, ha.append hb⟩)
      · exact trivial
  case lst p =>
    cases b <;> try (cases o <;> exact trivial)
    case int j =>
      simp only [Rep] at ha hb
      obtain ⟨i, ds, rfl, _, e, ha⟩ := ha
      subst hb
      cases o <;> simp only [vbin, binD, vadd, addD, vmul, mulD, e] <;> first
        | exact trivial
        | skip
      rw [ha.length]
      split
      · exact RE.new s (ha.flatRep _)
      · exact trivial
    case lst q =>
      simp only [Rep] at ha hb
      obtain ⟨i, ds, rfl, _, e, ha⟩ := ha
      obtain ⟨j, es, rfl, _, e2, hb⟩ := hb
      cases o <;> simp only [vbin, binD, vadd, addD, vmul, mulD, e, e2] <;> first
        | exact trivial
        | skip
      rw [ha.length, hb.length]
      split
      · exact RE.new s (ha.append hb)
      · exact trivial
theorem lp_of {p : Bool × D} (ha : Rep M H a x) (h : a.lp = some p) : (p.1 = false ∧ x = p.2 ∧ p.2.pure = true) ∨ (p.1 = true ∧ ∃ i ds, x = .ref i ∧ M[i]? = some (.lst ds) ∧ p.2 = .tup ds ∧ D.pures ds = true) := by
  have go : ∀ v : Vl, Rep M H v x → (v.dn.map fun d => (false, d)) = some p → (p.1 = false ∧ x = p.2 ∧ p.2.pure = true) := fun v hv h => by
    cases e : v.dn with
    | none => rw [e] at h; cases h
    | some d =>
      rw [e] at h
      cases h
      exact ⟨rfl, hv.dn e, (Vl.dn_pure e).1⟩
  cases a with
  | lst vs =>
    simp only [Vl.lp] at h
    cases e : Vl.dns vs with
    | none => rw [e] at h; cases h
    | some ds =>
      rw [e] at h
      cases h
      simp only [Rep] at ha
      obtain ⟨i, es, rfl, _, e1, ha⟩ := ha
      have := ha.dns e
      subst this
      exact .inr ⟨rfl, i, es, rfl, e1, rfl, (Vl.dns_pure e).1⟩
  | _ => exact .inl (go _ ha h)
theorem eqv_lst {d e : D} (hd : d.pure = true) (he : e.pure = true) (h1 : d.dle 50 = true) (h2 : e.dle 50 = true) : eqM M d e = some (D.eqv d e) := by
  cases d <;> cases e <;> first
    | (simp [D.pure] at hd; done)
    | (simp [D.pure] at he; done)
    | (simp only [eqM]; rw [if_pos ⟨hd, he, h1, h2⟩])
theorem eq_of {r : Bool} (ha : Rep M H a x) (hb : Rep M H b y) (h : veq a b = some r) : eqM M x y = some r := by
  unfold veq at h
  cases e1 : a.lp with
  | none => rw [e1] at h; cases h
  | some p =>
    cases e2 : b.lp with
    | none => rw [e1, e2] at h; cases h
    | some q =>
      rw [e1, e2] at h
      simp only at h
      split at h
      rotate_left
      · cases h
      rename_i hk
      rw [Bool.and_eq_true] at hk
      obtain ⟨k1, k2⟩ := hk
      cases h
      obtain ⟨p1, p2⟩ := p
      obtain ⟨q1, q2⟩ := q
      rcases lp_of ha e1 with ⟨rfl, rfl, hp⟩ | ⟨rfl, i, ds, rfl, ei, rfl, hp⟩
      · rcases lp_of hb e2 with ⟨rfl, rfl, hq⟩ | ⟨rfl, j, es, rfl, ej, rfl, hq⟩
        · simp only [okd] at k1 k2
          rw [eqv_lst hp hq k1 k2]
          rfl
        · simp only [okd] at k1 k2
          have hj : listAt M j = some es := by simp only [listAt, ej]
          cases x <;> first
            | (simp [D.pure] at hp; done)
            | (simp only [eqM, hj]; rw [if_pos ⟨hp, hq, k1, k2⟩]; rfl)
      · have hi : listAt M i = some ds := by simp only [listAt, ei]
        rcases lp_of hb e2 with ⟨rfl, rfl, hq⟩ | ⟨rfl, j, es, rfl, ej, rfl, hq⟩
        · simp only [okd] at k1 k2
          cases y <;> first
            | (simp [D.pure] at hq; done)
            | (simp only [eqM, hi]; rw [if_pos ⟨hp, hq, k1, k2⟩]; rfl)
        · simp only [okd] at k1 k2
          have hj : listAt M j = some es := by simp only [listAt, ej]
          simp only [eqM, hi, hj]
          rw [if_pos ⟨hp, hq, k1, k2⟩]
          simp [D.eqv]
theorem getV_of {ks : List Ky} : ∀ {es : List (Ky × D)} {vs : List Vl} {k : Ky}, es.map (·.1) = ks → Reps M H vs (es.map (·.2)) → (match getV ks vs k with
    | some v => ∃ d, getK es k = some d ∧ Rep M H v d
    | none => getK es k = none) := by
  induction ks with
  | nil =>
    intro es vs k h1 h2
    have : es = [] := by simpa using h1
    subst this
    simp only [getV, getK]
  | cons q ks ih =>
    intro es vs k h1 h2
    cases es with
    | nil => simp at h1
    | cons e es =>
      simp only [List.map_cons, List.cons.injEq] at h1
      obtain ⟨h1, h3⟩ := h1
      cases vs with
      | nil => simp [Reps] at h2
      | cons v vs =>
        simp only [List.map_cons, Reps, List.cons.injEq] at h2
        obtain ⟨d, r, ⟨a, b⟩, c, f⟩ := h2
        subst b
        subst h1
        simp only [getV, getK]
        by_cases hk : e.1 = k
        · rw [if_pos hk, if_pos hk]
          exact ⟨_, rfl, by rw [a]; exact c⟩
        · rw [if_neg hk, if_neg hk]
          exact ih h3 f
theorem vkey_of {v : Vl} {d : D} (h : Rep M H v d) : keyOf d = vkey v := by
  cases v <;> simp only [Rep] at h
  case tup vs => obtain ⟨ds, rfl, h⟩ := h; rfl
  case lst vs => obtain ⟨i, ds, rfl, _, e, h⟩ := h; rfl
  case ro vs => obtain ⟨i, ds, rfl, _, e, h⟩ := h; rfl
  case dk ks vs => obtain ⟨i, es, rfl, _, e, g, h⟩ := h; rfl
  all_goals (subst h; rfl)
theorem anyIn_of {vs : List Vl} {ds : List D} {r : Bool} (ha : Rep M H a x) (hs : Reps M H vs ds) (h : anyIn a vs = some r) : (if x.pure = true ∧ D.pures ds = true ∧ x.dle 50 = true ∧ D.dles ds 50 = true then some (ds.any fun y => D.eqv y x) else none) = some r := by
  unfold anyIn at h
  cases e1 : a.dn with
  | none => rw [e1] at h; cases h
  | some d =>
    cases e2 : Vl.dns vs with
    | none => rw [e1, e2] at h; cases h
    | some es =>
      rw [e1, e2] at h
      simp only [Bool.and_eq_true] at h
      have h3 := ha.dn e1
      have h4 := hs.dns e2
      subst h3 h4
      split at h
      · rename_i hk
        rw [if_pos ⟨(Vl.dn_pure e1).1, (Vl.dns_pure e2).1, hk⟩]
        exact h
      · cases h
theorem in_of {r : Bool} (ha : Rep M H a x) (hb : Rep M H b y) (h : vin a b = some r) : inM M x y = some r := by
  cases b <;> simp only [vin] at h <;> try (cases h; done)
  case str t =>
    simp only [Rep] at hb
    subst hb
    cases a <;> try (cases h; done)
    simp only [Rep] at ha
    subst ha
    exact h
  case tup ys =>
    simp only [Rep] at hb
    obtain ⟨ds, rfl, hb⟩ := hb
    exact anyIn_of ha hb h
  case lst ys =>
    simp only [Rep] at hb
    obtain ⟨i, ds, rfl, _, e, hb⟩ := hb
    simp only [inM, e]
    exact anyIn_of ha hb h
  case ro ys =>
    simp only [Rep] at hb
    obtain ⟨i, ds, rfl, _, e, hb⟩ := hb
    simp only [inM, e]
    exact anyIn_of ha hb h
  case dk ks vs =>
    simp only [Rep] at hb
    obtain ⟨i, es, rfl, _, e, g, hb⟩ := hb
    simp only [inM, e, dictGet, vkey_of ha]
    cases q : vkey a with
    | none => rw [q] at h; cases h
    | some k =>
      rw [q] at h
      cases h
      have := getV_of (k := k) g hb
      cases z : getV ks vs k with
      | none => rw [z] at this; simp only at this; simp [this, z]
      | some v => rw [z] at this; obtain ⟨d, h1, _⟩ := this; simp [h1, z]
theorem re_optB {o : Option Bool} {p : Option Bool} (hc : Clo M) (h : ∀ r, o = some r → p = some r) : RE H M (voptB o) (optB M p) := by
  cases o with
  | none => exact trivial
  | some b => rw [h b rfl]; exact RE.pure hc (by simp only [Vl.dn])
theorem re_lt {f : D → D → Bool} (hc : Clo M) (ha : Rep M H a x) (hb : Rep M H b y) : RE H M (vlt a b f) (if okLt x y = true then .ok (.bl (f x y)) M else .bad) := by
  unfold vlt
  cases e1 : a.dn with
  | none => exact trivial
  | some d =>
    cases e2 : b.dn with
    | none => exact trivial
    | some e =>
      have h3 := ha.dn e1
      have h4 := hb.dn e2
      subst h3 h4
      simp only
      split
      · exact RE.pure hc (by simp only [Vl.dn])
      · exact trivial
theorem isNon_of {v : Vl} {d : D} (h : Rep M H v d) : d.isNon = v.isNon := by
  cases v <;> simp only [Rep] at h
  case tup vs => obtain ⟨ds, rfl, h⟩ := h; rfl
  case lst vs => obtain ⟨i, ds, rfl, _, e, h⟩ := h; rfl
  case ro vs => obtain ⟨i, ds, rfl, _, e, h⟩ := h; rfl
  case dk ks vs => obtain ⟨i, es, rfl, _, e, g, h⟩ := h; rfl
  all_goals (subst h; rfl)
theorem re_cmp {o : COp} (hc : Clo M) (ha : Rep M H a x) (hb : Rep M H b y) : RE H M (vcmp o a b) (cmpD o x y M) := by
  cases o <;> simp only [vcmp, cmpD]
  case eq => exact re_optB hc fun r h => eq_of ha hb h
  case ne =>
    refine re_optB hc fun r h => ?_
    cases e : veq a b with
    | none => rw [e] at h; cases h
    | some q => rw [e] at h; rw [eq_of ha hb e]; exact h
  case lt => exact re_lt hc ha hb
  case le => exact re_lt hc ha hb
  case gt => exact re_lt hc ha hb
  case ge => exact re_lt hc ha hb
  case is =>
    cases b <;> try exact trivial
    case non =>
      simp only [Rep] at hb
      subst hb
      simp only [isNon_of ha]
      exact RE.pure hc (by simp only [Vl.dn])
    case bl y =>
      simp only [Rep] at hb
      subst hb
      cases a <;> try exact trivial
      simp only [Rep] at ha
      subst ha
      exact RE.pure hc (by simp only [Vl.dn])
  case isnot =>
    cases b <;> try exact trivial
    case non =>
      simp only [Rep] at hb
      subst hb
      simp only [isNon_of ha]
      exact RE.pure hc (by simp only [Vl.dn])
    case bl y =>
      simp only [Rep] at hb
      subst hb
      cases a <;> try exact trivial
      simp only [Rep] at ha
      subst ha
      exact RE.pure hc (by simp only [Vl.dn])
  case «in» => exact re_optB hc fun r h => in_of ha hb h
  case notin =>
    refine re_optB hc fun r h => ?_
    cases e : vin a b with
    | none => rw [e] at h; cases h
    | some q => rw [e] at h; rw [in_of ha hb e]; exact h
theorem atI_of_reps {vs : List Vl} {ds : List D} {i : Int} {v : Vl} (h : Reps M H vs ds) (e : atI vs i = some v) : ∃ d, atI ds i = some d ∧ Rep M H v d := by
  unfold atI at e ⊢
  rw [h.length]
  cases q : ixN vs.length i with
  | none => rw [q] at e; cases e
  | some j => rw [q] at e; exact h.get e
theorem re_ixL {vs : List Vl} {ds : List D} (hc : Clo M) (h : Reps M H vs ds) (hb : Rep M H b y) : RE H M (vixL vs b) (ixL ds y M) := by
  cases b <;> try exact trivial
  case int i =>
    simp only [Rep] at hb
    subst hb
    simp only [vixL, ixL]
    cases q : atI vs i with
    | none => exact trivial
    | some v =>
      obtain ⟨d, h1, h2⟩ := atI_of_reps h q
      rw [h1]
      exact RE.old hc h2
theorem re_ix (hc : Clo M) (ha : Rep M H a x) (hb : Rep M H b y) : RE H M (vix a b) (ixD x y M) := by
  cases a <;> try exact trivial
  case str s =>
    simp only [Rep] at ha
    subst ha
    cases b <;> try exact trivial
    simp only [Rep] at hb
    subst hb
    simp only [vix, ixD]
    cases q : atI s.cps.toList ‹Int› with
    | none => exact trivial
    | some c => exact RE.pure (d := .str _) hc rfl
  case tup vs =>
    simp only [Rep] at ha
    obtain ⟨ds, rfl, ha⟩ := ha
    have := re_ixL hc ha hb
    simp only [vix]
    cases b <;> try exact trivial
    simp only [Rep] at hb
    subst hb
    exact this
  case lst vs =>
    simp only [Rep] at ha
    obtain ⟨i, ds, rfl, _, e, ha⟩ := ha
    have := re_ixL hc ha hb
    simp only [vix, ixD, e]
    exact this
  case ro vs =>
    simp only [Rep] at ha
    obtain ⟨i, ds, rfl, _, e, ha⟩ := ha
    have := re_ixL hc ha hb
    simp only [vix, ixD, e]
    exact this
  case dk ks vs =>
    simp only [Rep] at ha
    obtain ⟨i, es, rfl, _, e, g, ha⟩ := ha
    simp only [vix, ixD, e, dictGet, vkey_of hb]
    cases q : vkey b with
    | none => exact trivial
    | some k =>
      have := getV_of (k := k) g ha
      cases z : getV ks vs k with
      | none => simp only [Option.bind_some, z]; exact trivial
      | some v => rw [z] at this; obtain ⟨d, h1, h2⟩ := this; simp only [Option.bind_some, Option.map_some, z, h1]; exact RE.old hc h2
theorem re_slc {lo hi : Option Int} (s : St H M) (ha : Rep M H a x) : RE H M (vslc a lo hi) (slcD x lo hi M) := by
  cases a <;> try exact trivial
  case str s' =>
    simp only [Rep] at ha
    subst ha
    exact RE.pure s.clo (by simp only [Vl.dn])
  case tup vs =>
    simp only [Rep] at ha
    obtain ⟨ds, rfl, ha⟩ := ha
    exact RE.old s.clo (by simp only [Rep]; exact ⟨_, rfl, ha.cut3 _ _⟩)
  case lst vs =>
    simp only [Rep] at ha
    obtain ⟨i, ds, rfl, _, e, ha⟩ := ha
    simp only [vslc, slcD, listAt, e]
    exact RE.new s (ha.cut3 _ _)
  case ro vs =>
    simp only [Rep] at ha
    obtain ⟨i, ds, rfl, _, e, ha⟩ := ha
    simp only [vslc, slcD, listAt, e]
    exact RE.new s (ha.cut3 _ _)
end
end Sk
end
section
set_option Elab.async false
set_option linter.all false
set_option autoImplicit false
set_option maxRecDepth 100000
/-! SkV3: built-in functions, walks, expressions on values. -/
namespace Sk
open PySem (Str)
def vseq : Vl → Option (List Vl)
  | .tup xs => some xs
  | .lst xs => some xs
  | .ro xs => some xs
  | _ => none
def vlen : Vl → Option Nat
  | .str s => some s.length
  | .tup xs => some xs.length
  | .lst xs => some xs.length
  | .ro xs => some xs.length
  | .dk ks _ => some ks.length
  | _ => none
def kfit (ks : List Ky) : Bool := ks.all fun k => match k with
  | .inl _ => true
  | .inr s => strFit s
def vsorted (v : Vl) : VR VF := match v with
  | .lst xs => (match Vl.dns xs with
    | some ds => if okSrt ds = true then .ok (.lst (D.ups (sortD ds)), true) else .bad
    | none => .bad)
  | .dk ks _ => if okSort (ks.map kD) = true ∧ kfit ks = true then .ok (.lst (D.ups (sortD (ks.map kD))), true) else .bad
  | _ => .bad
def vbest (f : D → List D → D) (v : Vl) : VR VF := match (vseq v).bind Vl.dns with
  | some (x :: xs) => if okOrd (x :: xs) = true then .ok ((f x xs).up, false) else .bad
  | _ => .bad
def vsum (v : Vl) : VR VF := match v with
  | .tup xs => (match (Vl.dns xs).bind intsOf with
    | some ns => .ok (.int ns.sum, false)
    | none => .bad)
  | .lst xs => (match (Vl.dns xs).bind intsOf with
    | some ns => .ok (.int ns.sum, false)
    | none => .bad)
  | .ro xs => (match (Vl.dns xs).bind intsOf with
    | some ns => .ok (.int ns.sum, false)
    | none => .bad)
  | _ => .bad
def vrng (lo : Int) (n : Nat) : List Vl := (List.range n).map fun (i : Nat) => Vl.int (lo + (i : Int))
def vrngs : List Vl → Option (List Vl)
  | [.int j] => if okR j = true ∧ j.toNat ≤ lim then some (vrng 0 j.toNat) else none
  | [.int i, .int j] => if okR i = true ∧ okR j = true ∧ (j - i).toNat ≤ lim then some (vrng i (j - i).toNat) else none
  | _ => none
def vbools (v : Vl) : Option (List Bool) := match v with
  | .lst xs => (Vl.dns xs).bind boolsOf
  | .ro xs => (Vl.dns xs).bind boolsOf
  | _ => none
def vminD (v z : Vl) : VR VF := match (vseq v).bind Vl.dns with
  | some [] => .ok (z, false)
  | some (x :: xs) => if okOrd (x :: xs) = true then .ok ((bestMin x xs).up, false) else .bad
  | none => .bad
def vblt (f : Blt) (vs : List Vl) : VR VF := match f with
  | .len => (match vs with
    | [v] => (match vlen v with
      | some n => .ok (.int (n : Nat), false)
      | none => .bad)
    | _ => .bad)
  | .tuple => (match vs with
    | [v] => (match vseq v with
      | some xs => .ok (.tup xs, false)
      | none => .bad)
    | _ => .bad)
  | .list => (match vs with
    | [v] => (match vseq v with
      | some xs => .ok (.lst xs, true)
      | none => .bad)
    | _ => .bad)
  | .sorted => (match vs with
    | [v] => vsorted v
    | _ => .bad)
  | .min => (match vs with
    | [v] => vbest bestMin v
    | [.int i, .int j] => .ok (.int (if j < i then j else i), false)
    | [.int i, .int j, .int k] => .ok (.int (if j < i then (if k < j then k else j) else (if k < i then k else i)), false)
    | _ => .bad)
  | .max => (match vs with
    | [v] => vbest bestMax v
    | [.int i, .int j] => .ok (.int (if j > i then j else i), false)
    | _ => .bad)
  | .sum => (match vs with
    | [v] => vsum v
    | _ => .bad)
  | .abs => (match vs with
    | [.int i] => .ok (.int (if i < 0 then -i else i), false)
    | _ => .bad)
  | .int => (match vs with
    | [.int i] => .ok (.int i, false)
    | [.bl b] => .ok (.int (if b then 1 else 0), false)
    | _ => .bad)
  | .minD => (match vs with
    | [v, z] => vminD v z
    | _ => .bad)
  | .any => (match vs with
    | [v] => (match vbools v with
      | some bs => .ok (.bl (bs.any id), false)
      | none => .bad)
    | _ => .bad)
  | .all => (match vs with
    | [v] => (match vbools v with
      | some bs => .ok (.bl (bs.all id), false)
      | none => .bad)
    | _ => .bad)
  | .rngT => (match vrngs vs with
    | some xs => .ok (.tup xs, false)
    | none => .bad)
  | .rngL => (match vrngs vs with
    | some xs => .ok (.lst xs, true)
    | none => .bad)
  | _ => .bad
def visi (v : Vl) (T : String) : Option Bool := match v with
  | .non => some (T == "NoneType")
  | .bl _ => some (T == "bool" || T == "int")
  | .int _ => some (T == "int")
  | .str _ => some (T == "str")
  | .tup _ => some (T == "tuple")
  | .lst _ => some (T == "list")
  | .ro _ => some (T == "list")
  | .dk _ _ => none
  | .xo _ _ => none
def vty (m : Mth) (v : Vl) : Bool := match m with
  | .get => (match v with
    | .dk _ _ => true
    | _ => false)
  | _ => false
def vmth (m : Mth) (o : Vl) (vs : List Vl) : VR VF := match m with
  | .get => (match o with
    | .dk ks us => (match vs with
      | [k, x] => (match vkey k with
        | some q => (match getV ks us q with
          | some v => .ok (v, false)
          | none => .ok (x, false))
        | none => .bad)
      | _ => .bad)
    | _ => .bad)
  | _ => .bad
section
variable {H : Nat → Prop} {M : Store}
theorem seq_of {v : Vl} {d : D} {xs : List Vl} (h : Rep M H v d) (e : vseq v = some xs) : ∃ ds, seqOf M d = some ds ∧ Reps M H xs ds := by
  cases v <;> simp only [vseq] at e <;> try (cases e; done)
  case tup vs =>
    cases e
    simp only [Rep] at h
    obtain ⟨ds, rfl, h⟩ := h
    exact ⟨ds, rfl, h⟩
  case lst vs =>
    cases e
    simp only [Rep] at h
    obtain ⟨i, ds, rfl, _, e, h⟩ := h
    exact ⟨ds, by simp only [seqOf, listAt, e], h⟩
  case ro vs =>
    cases e
    simp only [Rep] at h
    obtain ⟨i, ds, rfl, _, e, h⟩ := h
    exact ⟨ds, by simp only [seqOf, listAt, e], h⟩
theorem len_of {v : Vl} {d : D} {n : Nat} (h : Rep M H v d) (e : vlen v = some n) : lenM M d = some n := by
  cases v <;> simp only [vlen] at e <;> try (cases e; done)
  case str s => simp only [Rep] at h; subst h; exact e
  case tup vs =>
    cases e
    simp only [Rep] at h
    obtain ⟨ds, rfl, h⟩ := h
    simp only [lenM, h.length]
  case lst vs =>
    cases e
    simp only [Rep] at h
    obtain ⟨i, ds, rfl, _, e, h⟩ := h
    simp only [lenM, e, h.length]
  case ro vs =>
    cases e
    simp only [Rep] at h
    obtain ⟨i, ds, rfl, _, e, h⟩ := h
    simp only [lenM, e, h.length]
  case dk ks vs =>
    cases e
    simp only [Rep] at h
    obtain ⟨i, es, rfl, _, e, g, h⟩ := h
    subst g
    simp only [lenM, e, List.length_map]
theorem Reps.one_of {v : Vl} {ds : List D} (h : Reps M H [v] ds) : ∃ d, ds = [d] ∧ Rep M H v d := by
  simp only [Reps] at h
  obtain ⟨d, r, a, b, c⟩ := h
  exact ⟨d, by rw [a, c], b⟩
theorem Reps.two_of {v u : Vl} {ds : List D} (h : Reps M H [v, u] ds) : ∃ d e, ds = [d, e] ∧ Rep M H v d ∧ Rep M H u e := by
  simp only [Reps] at h
  obtain ⟨d, r, a, b, d2, r2, a2, b2, c⟩ := h
  exact ⟨d, d2, by rw [a, a2, c], b, b2⟩
theorem Reps.three_of {v u w : Vl} {ds : List D} (h : Reps M H [v, u, w] ds) : ∃ d e f, ds = [d, e, f] ∧ Rep M H v d ∧ Rep M H u e ∧ Rep M H w f := by
  simp only [Reps] at h
  obtain ⟨d, r, a, b, d2, r2, a2, b2, d3, r3, a3, b3, c⟩ := h
  exact ⟨d, d2, d3, by rw [a, a2, a3, c], b, b2, b3⟩
theorem sortD_pures {ds : List D} (h : D.pures ds = true) : D.pures (sortD ds) = true := D.pures_iff.mpr fun d hd => D.pures_iff.mp h d (by unfold sortD at hd; exact List.mem_mergeSort.mp hd)
theorem kD_pures (ks : List Ky) : D.pures (ks.map kD) = true := D.pures_iff.mpr fun d hd => by
  obtain ⟨k, _, rfl⟩ := List.mem_map.mp hd
  cases k <;> simp only [kD, D.pure]
theorem re_sorted {v : Vl} {d : D} (s : St H M) (h : Rep M H v d) : RE H M (vsorted v) (bltD .sorted [d] M) := by
  cases v <;> try exact trivial
  case lst vs =>
    simp only [Rep] at h
    obtain ⟨i, ds, rfl, _, e, h⟩ := h
    simp only [vsorted]
    cases q : Vl.dns vs with
    | none => exact trivial
    | some es =>
      have := h.dns q
      subst this
      simp only [bltD, e]
      split
      · exact RE.new s (Reps.of_dns (D.ups_dns (sortD_pures (Vl.dns_pure q).1)))
      · exact trivial
  case dk ks vs =>
    simp only [Rep] at h
    obtain ⟨i, es, rfl, _, e, g, h⟩ := h
    subst g
    simp only [vsorted, bltD, e, List.map_map]
    have e2 : keysFit es = kfit (es.map (·.1)) := by unfold keysFit kfit; rw [List.all_map]; rfl
    rw [e2]
    have e3 : (kD ∘ fun x : Ky × D => x.fst) = fun p => kD p.1 := rfl
    rw [e3]
    split
    · refine RE.new s (Reps.of_dns (D.ups_dns (sortD_pures ?_)))
      have := kD_pures (es.map (·.1))
      rw [List.map_map] at this
      exact this
    · exact trivial
theorem best_mem (f : D → D → D) (hf : ∀ a b, f a b = a ∨ f a b = b) : ∀ (xs : List D) (x : D), xs.foldl f x ∈ x :: xs
  | [], x => List.mem_cons_self
  | y :: ys, x => by
    rw [List.foldl_cons]
    rcases List.mem_cons.mp (best_mem f hf ys (f x y)) with h | h
    · rw [h]
      rcases hf x y with e | e <;> rw [e] <;> simp
    · exact List.mem_cons_of_mem _ (List.mem_cons_of_mem _ h)
theorem bestMin_mem (x : D) (xs : List D) : bestMin x xs ∈ x :: xs := best_mem _ (fun a b => by split <;> simp) xs x
theorem bestMax_mem (x : D) (xs : List D) : bestMax x xs ∈ x :: xs := best_mem _ (fun a b => by split <;> simp) xs x
theorem re_best {f : D → List D → D} {v : Vl} {d : D} (hc : Clo M) (hf : ∀ x xs, f x xs ∈ x :: xs) (h : Rep M H v d) : RE H M (vbest f v) (match seqOf M d with
      | some (x :: xs) => if okOrd (x :: xs) = true then .ok (f x xs) M else .bad
      | _ => .bad) := by
  unfold vbest
  cases e : vseq v with
  | none => exact trivial
  | some xs =>
    obtain ⟨ds, h1, h2⟩ := seq_of h e
    simp only [Option.bind_some, h1]
    cases q : Vl.dns xs with
    | none => exact trivial
    | some es =>
      have := h2.dns q
      subst this
      cases ds with
      | nil => exact trivial
      | cons x r =>
        simp only
        split
        · have p := D.pures_iff.mp (Vl.dns_pure q).1 _ (hf x r)
          exact RE.pure hc (D.up_dn p)
        · exact trivial
theorem re_sum {v : Vl} {d : D} (hc : Clo M) (h : Rep M H v d) : RE H M (vsum v) (bltD .sum [d] M) := by
  cases v <;> try exact trivial
  case tup vs =>
    simp only [Rep] at h
    obtain ⟨ds, rfl, h⟩ := h
    simp only [vsum]
    cases q : Vl.dns vs with
    | none => exact trivial
    | some es =>
      have := h.dns q
      subst this
      simp only [bltD, Option.bind_some]
      cases z : intsOf ds with
      | none => exact trivial
      | some ns => exact RE.pure hc (by simp only [Vl.dn])
  case lst vs =>
    simp only [Rep] at h
    obtain ⟨i, ds, rfl, _, e, h⟩ := h
    simp only [vsum]
    cases q : Vl.dns vs with
    | none => exact trivial
    | some es =>
      have := h.dns q
      subst this
      simp only [bltD, listAt, e, Option.bind_some]
      cases z : intsOf ds with
      | none => exact trivial
      | some ns => exact RE.pure hc (by simp only [Vl.dn])
  case ro vs =>
    simp only [Rep] at h
    obtain ⟨i, ds, rfl, _, e, h⟩ := h
    simp only [vsum]
    cases q : Vl.dns vs with
    | none => exact trivial
    | some es =>
      have := h.dns q
      subst this
      simp only [bltD, listAt, e, Option.bind_some]
      cases z : intsOf ds with
      | none => exact trivial
      | some ns => exact RE.pure hc (by simp only [Vl.dn])
theorem vrng_dns (lo : Int) (n : Nat) : Vl.dns (vrng lo n) = some (rngD lo n) := by
  unfold vrng rngD
  generalize List.range n = l
  induction l with
  | nil => rfl
  | cons a l ih => simp only [List.map_cons, Vl.dns, Vl.dn, ih]
theorem bools_of {v : Vl} {d : D} {bs : List Bool} (h : Rep M H v d) (e : vbools v = some bs) : ∃ i, d = .ref i ∧ (listAt M i).bind boolsOf = some bs := by
  cases v <;> simp only [vbools] at e <;> try (cases e; done)
  case lst vs =>
    simp only [Rep] at h
    obtain ⟨i, ds, rfl, _, q, h⟩ := h
    obtain ⟨es, e1, e2⟩ := Option.bind_eq_some_iff.mp e
    have := h.dns e1
    subst this
    exact ⟨i, rfl, by simp only [listAt, q, Option.bind_some, e2]⟩
  case ro vs =>
    simp only [Rep] at h
    obtain ⟨i, ds, rfl, _, q, h⟩ := h
    obtain ⟨es, e1, e2⟩ := Option.bind_eq_some_iff.mp e
    have := h.dns e1
    subst this
    exact ⟨i, rfl, by simp only [listAt, q, Option.bind_some, e2]⟩
theorem rngs_of {vs xs : List Vl} {ds : List D} (h : Reps M H vs ds) (e : vrngs vs = some xs) : ∃ es, rngs ds = some es ∧ Vl.dns xs = some es := by
  unfold vrngs at e
  split at e
  · obtain ⟨d, rfl, h1⟩ := h.one_of
    simp only [Rep] at h1
    subst h1
    split at e
    · rename_i q
      cases e
      exact ⟨_, by simp only [rngs]; rw [if_pos q], vrng_dns _ _⟩
    · cases e
  · obtain ⟨d, e', rfl, h1, h2⟩ := h.two_of
    simp only [Rep] at h1 h2
    subst h1 h2
    split at e
    · rename_i q
      cases e
      exact ⟨_, by simp only [rngs]; rw [if_pos q], vrng_dns _ _⟩
    · cases e
  · cases e
theorem re_blt {f : Blt} {vs : List Vl} {ds : List D} (s : St H M) (h : Reps M H vs ds) : RE H M (vblt f vs) (bltD f ds M) := by
  cases f <;> simp only [vblt] <;> try exact trivial
  case len =>
    split
    · obtain ⟨d, rfl, g⟩ := h.one_of
      split
      · rename_i e
        simp only [bltD, len_of g e]
        exact RE.pure s.clo (by simp only [Vl.dn])
      · exact trivial
    · exact trivial
  case tuple =>
    split
    · obtain ⟨d, rfl, g⟩ := h.one_of
      split
      · rename_i e
        obtain ⟨ds, h1, h2⟩ := seq_of g e
        simp only [bltD, h1]
        exact RE.old s.clo (by simp only [Rep]; exact ⟨ds, rfl, h2⟩)
      · exact trivial
    · exact trivial
  case list =>
    split
    · obtain ⟨d, rfl, g⟩ := h.one_of
      split
      · rename_i e
        obtain ⟨ds, h1, h2⟩ := seq_of g e
        simp only [bltD, h1]
        exact RE.new s h2
      · exact trivial
    · exact trivial
  case sorted =>
    split
    · obtain ⟨d, rfl, g⟩ := h.one_of
      exact re_sorted s g
    · exact trivial
  case min =>
    split
    · obtain ⟨d, rfl, g⟩ := h.one_of
      exact re_best s.clo bestMin_mem g
    · obtain ⟨d, e, rfl, h1, h2⟩ := h.two_of
      simp only [Rep] at h1 h2
      subst h1 h2
      exact RE.pure s.clo rfl
    · obtain ⟨d, e, g, rfl, h1, h2, h3⟩ := h.three_of
      simp only [Rep] at h1 h2 h3
      subst h1 h2 h3
      exact RE.pure s.clo rfl
    · exact trivial
  case max =>
    split
    · obtain ⟨d, rfl, g⟩ := h.one_of
      exact re_best s.clo bestMax_mem g
    · obtain ⟨d, e, rfl, h1, h2⟩ := h.two_of
      simp only [Rep] at h1 h2
      subst h1 h2
      exact RE.pure s.clo rfl
    · exact trivial
  case sum =>
    split
    · obtain ⟨d, rfl, g⟩ := h.one_of
      exact re_sum s.clo g
    · exact trivial
  case abs =>
    split
    · obtain ⟨d, rfl, h1⟩ := h.one_of
      simp only [Rep] at h1
      subst h1
      exact RE.pure s.clo rfl
    · exact trivial
  case int =>
    split
    · obtain ⟨d, rfl, h1⟩ := h.one_of
      simp only [Rep] at h1
      subst h1
      exact RE.pure s.clo rfl
    · obtain ⟨d, rfl, h1⟩ := h.one_of
      simp only [Rep] at h1
      subst h1
      exact RE.pure s.clo rfl
    · exact trivial
  case minD =>
    split
    · obtain ⟨d, e, rfl, h1, h2⟩ := h.two_of
      unfold vminD
      rename_i v z
      cases q : vseq v with
      | none => exact trivial
      | some xs =>
        obtain ⟨ds, g1, g2⟩ := seq_of h1 q
        simp only [Option.bind_some, bltD, g1]
        cases q2 : Vl.dns xs with
        | none => exact trivial
        | some es =>
          have := g2.dns q2
          subst this
          cases ds with
          | nil => exact RE.old s.clo h2
          | cons x r =>
            simp only
            split
            · have p := D.pures_iff.mp (Vl.dns_pure q2).1 _ (bestMin_mem x r)
              exact RE.pure s.clo (D.up_dn p)
            · exact trivial
    · exact trivial
  case any =>
    split
    · obtain ⟨d, rfl, h1⟩ := h.one_of
      split
      · rename_i e
        obtain ⟨i, rfl, g⟩ := bools_of h1 e
        simp only [bltD, g]
        exact RE.pure s.clo rfl
      · exact trivial
    · exact trivial
  case all =>
    split
    · obtain ⟨d, rfl, h1⟩ := h.one_of
      split
      · rename_i e
        obtain ⟨i, rfl, g⟩ := bools_of h1 e
        simp only [bltD, g]
        exact RE.pure s.clo rfl
      · exact trivial
    · exact trivial
  case rngT =>
    split
    · rename_i e
      obtain ⟨es, g1, g2⟩ := rngs_of h e
      simp only [bltD, g1]
      exact RE.pure s.clo (by simp only [Vl.dn, g2, Option.map_some])
    · exact trivial
  case rngL =>
    split
    · rename_i e
      obtain ⟨es, g1, g2⟩ := rngs_of h e
      simp only [bltD, g1]
      exact RE.new s (Reps.of_dns g2)
    · exact trivial
theorem isi_of {v : Vl} {d : D} {T : String} {b : Bool} (h : Rep M H v d) (e : visi v T = some b) : isiD M d T = some b := by
  cases v <;> simp only [Rep] at h
  case tup vs => obtain ⟨ds, rfl, h⟩ := h; exact e
  case lst vs => obtain ⟨i, ds, rfl, _, q, h⟩ := h; simp only [isiD, q]; exact e
  case ro vs => obtain ⟨i, ds, rfl, _, q, h⟩ := h; simp only [isiD, q]; exact e
  case dk ks vs => cases e
  all_goals (subst h; exact e)
theorem re_mth {m : Mth} {v : Vl} {d : D} {vs : List Vl} {ds : List D} (hc : Clo M) (h : Rep M H v d) (hs : Reps M H vs ds) : RE H M (vmth m v vs) (mthD m d ds M) := by
  cases m <;> simp only [vmth] <;> try exact trivial
  split
  · rename_i ks us
    split
    · rename_i k x
      obtain ⟨dk, dx, rfl, h1, h2⟩ := hs.two_of
      simp only [Rep] at h
      obtain ⟨i, es, rfl, _, e, g, h⟩ := h
      cases q : vkey k with
      | none => exact trivial
      | some q' =>
        have hg := getV_of (k := q') g h
        simp only [mthD, dictGet, e, vkey_of h1, q, Option.map_some]
        cases z : getV ks us q' with
        | none =>
          rw [z] at hg
          simp only at hg
          rw [hg]
          exact RE.old hc h2
        | some v =>
          rw [z] at hg
          obtain ⟨d, h3, h4⟩ := hg
          rw [h3]
          exact RE.old hc h4
    · exact trivial
  · exact trivial
theorem ty_of {m : Mth} {v : Vl} {d : D} (h : Rep M H v d) (e : vty m v = true) : tyM m M d = true := by
  cases m <;> simp only [vty, Bool.false_eq_true] at e
  cases v <;> simp only [Bool.false_eq_true] at e
  simp only [Rep] at h
  obtain ⟨i, es, rfl, _, q, g, h⟩ := h
  simp only [tyM, q]
end
/-! ### walks -/
def vchars (s : Str) : List Vl := s.cps.toList.map fun c => .str ⟨#[c]⟩
def vwalk (k : Ik) (vs : List Vl) : Option (List Vl) := match k with
  | .val => (match vs with
    | [.tup xs] => some xs
    | [.str s] => some (vchars s)
    | [.lst xs] => some xs
    | [.ro xs] => some xs
    | _ => none)
  | .rng => (match vs with
    | [.int j] => if okR j = true then some (vrng 0 j.toNat) else none
    | [.int i, .int j] => if okR i = true ∧ okR j = true then some (vrng i (j - i).toNat) else none
    | _ => none)
  | .zip => (match vs with
    | [.tup xs, .tup ys] => some (List.zipWith (fun x y => Vl.tup [x, y]) xs ys)
    | _ => none)
  | _ => none
theorem zip_reps {H : Nat → Prop} {M : Store} : ∀ {xs ys : List Vl} {ds es : List D}, Reps M H xs ds → Reps M H ys es → Reps M H (List.zipWith (fun x y => Vl.tup [x, y]) xs ys) (List.zipWith (fun x y => D.tup [x, y]) ds es)
  | [], _, _, _, h, _ => by
    simp only [Reps] at h
    subst h
    simp only [List.zipWith_nil_left, Reps]
  | x :: xs, [], _, _, h, g => by
    simp only [Reps] at g
    subst g
    simp only [List.zipWith_nil_right, Reps]
  | x :: xs, y :: ys, _, _, h, g => by
    simp only [Reps] at h g
    obtain ⟨d, r, rfl, h1, h2⟩ := h
    obtain ⟨e, q, rfl, g1, g2⟩ := g
    simp only [List.zipWith_cons_cons, Reps]
    refine ⟨_, _, rfl, ?_, zip_reps h2 g2⟩
    simp only [Rep]
    refine ⟨_, rfl, ?_⟩
    simp only [Reps]
    exact ⟨_, _, rfl, h1, _, _, rfl, g1, rfl⟩
theorem vchars_dns (s : Str) : Vl.dns (vchars s) = some (chars s) := by
  unfold vchars chars
  generalize s.cps.toList = l
  induction l with
  | nil => rfl
  | cons a l ih => simp only [List.map_cons, Vl.dns, Vl.dn, ih]
section
variable {H : Nat → Prop} {M t : Store}
theorem re_walk {k : Ik} {vs xs : List Vl} {ds : List D} (s : St H M) (hc : Clo (M ++ t)) (h : Reps (M ++ t) H vs ds) (e : vwalk k vs = some xs) :
    ∃ ys w t2, walkG M.length k ds (M ++ t) = .ok (ys, w) (M ++ t2) ∧ Clo (M ++ t2) ∧ Reps (M ++ t2) H xs ys ∧ (∀ i, w = some i → ds = [.ref i] ∧ (M ++ t2)[i]? = some (.lst ys) ∧ ¬ H i ∧ (i < M.length ∨ Vl.dns xs = none)) := by
  have base : ∀ {ys : List D}, walkD k ds (M ++ t) = some (ys, none) → Reps (M ++ t) H xs ys → ∃ ys w t2, walkG M.length k ds (M ++ t) = .ok (ys, w) (M ++ t2) ∧ Clo (M ++ t2) ∧ Reps (M ++ t2) H xs ys ∧ (∀ i, w = some i → ds = [.ref i] ∧ (M ++ t2)[i]? = some (.lst ys) ∧ ¬ H i ∧ (i < M.length ∨ Vl.dns xs = none)) := fun {ys} e h => by
    unfold walkG
    rw [e]
    simp only
    by_cases hp : D.pures ys = true
    · rw [if_pos hp]
      refine ⟨ys, none, [], by rw [List.append_nil, List.take_left'  rfl], by rw [List.append_nil]; exact s.clo, ?_, fun i q => by cases q⟩
      exact Reps.of_dns (h.pures hp)
    · rw [if_neg hp]
      exact ⟨ys, none, t, rfl, hc, h, fun i q => by cases q⟩
  cases k <;> simp only [vwalk] at e <;> try (cases e; done)
  case rng =>
    split at e
    · rename_i j
      obtain ⟨d, rfl, g⟩ := h.one_of
      simp only [Rep] at g
      subst g
      split at e
      · rename_i hj
        cases e
        exact base (ys := rngD 0 j.toNat) (by simp only [walkD, hj, if_true]) (Reps.of_dns (vrng_dns _ _))
      · cases e
    · rename_i i j
      obtain ⟨d, d2, rfl, h1, h2⟩ := h.two_of
      simp only [Rep] at h1 h2
      subst h1 h2
      split at e
      · rename_i hj
        cases e
        exact base (ys := rngD i (j - i).toNat) (by simp only [walkD, hj, and_self, if_true]) (Reps.of_dns (vrng_dns _ _))
      · cases e
    · cases e
  case zip =>
    split at e
    · cases e
      obtain ⟨d, d2, rfl, h1, h2⟩ := h.two_of
      simp only [Rep] at h1 h2
      obtain ⟨ds, rfl, h1⟩ := h1
      obtain ⟨es, rfl, h2⟩ := h2
      exact base rfl (zip_reps h1 h2)
    · cases e
  case val =>
    split at e
    · cases e
      obtain ⟨d, rfl, g⟩ := h.one_of
      simp only [Rep] at g
      obtain ⟨ds, rfl, g⟩ := g
      exact base rfl g
    · cases e
      obtain ⟨d, rfl, g⟩ := h.one_of
      simp only [Rep] at g
      subst g
      exact base rfl (Reps.of_dns (vchars_dns _))
    · cases e
      obtain ⟨d, rfl, g⟩ := h.one_of
      simp only [Rep] at g
      obtain ⟨i, ds, rfl, hn, q, g⟩ := g
      unfold walkG
      simp only [walkD, q]
      by_cases hi : M.length ≤ i
      · rw [if_pos hi]
        by_cases hp : D.pures ds = true
        · rw [if_pos hp]
          refine ⟨ds, none, [], by rw [List.append_nil, List.take_left' rfl], by rw [List.append_nil]; exact s.clo, ?_, fun i q => by cases q⟩
          exact Reps.of_dns (g.pures hp)
        · rw [if_neg hp]
          refine ⟨ds, some i, t, rfl, hc, g, fun j z => ?_⟩
          cases z
          refine ⟨rfl, q, hn, .inr ?_⟩
          cases z : Vl.dns xs with
          | none => rfl
          | some es =>
            have := g.dns z
            subst this
            exact absurd (Vl.dns_pure z).1 hp
      · rw [if_neg hi]
        have q2 : M[i]? = some (.lst ds) := by rw [List.getElem?_append_left (by omega)] at q; exact q
        refine ⟨ds, some i, [], by rw [List.append_nil, List.take_left' rfl], by rw [List.append_nil]; exact s.clo, ?_, fun j z => ?_⟩
        · rw [List.append_nil]
          exact Reps.cut s.clo g (s.clo i _ q2)
        · cases z
          exact ⟨rfl, by rw [List.append_nil]; exact q2, hn, .inl (by omega)⟩
    · cases e
      obtain ⟨d, rfl, g⟩ := h.one_of
      simp only [Rep] at g
      obtain ⟨i, ds, rfl, hn, q, g⟩ := g
      exact base (ys := ds) (by simp only [walkD, q]) g
    · cases e
end
end Sk
end
section
set_option Elab.async false
set_option linter.all false
set_option autoImplicit false
set_option maxRecDepth 100000
/-! SkV4: expressions on values. -/
namespace Sk
open PySem (Str)
abbrev VEnv := List (Option VF)
structure VCx where
  call : String → List Vl → VR VF
  glob : String → Option Vl
def vwipe (σ : VEnv) : List Nat → VEnv
  | [] => σ
  | v :: vs => (vwipe σ vs).set v none
def vsetMany (σ : VEnv) : List Nat → List Vl → Option VEnv
  | [], [] => some σ
  | i :: is, d :: ds => vsetMany (σ.set i (some (d, false))) is ds
  | _, _ => none
def vassign (tg : Tg) (v : Vl) (σ : VEnv) : Option VEnv := match tg with
  | .one i => some (σ.set i (some (v, false)))
  | .many is => (match v with
    | .tup xs => vsetMany σ is xs
    | _ => none)
def vnoExc {α : Type} : VR α → VR α
  | .exc _ => .bad
  | r => r
def vlc (blk : Vl → VR (Option Vl)) : List Vl → VR (List Vl)
  | [] => .ok []
  | x :: xs => (blk x).bind fun o => (vlc blk xs).bind fun ys => match o with
    | some y => .ok (y :: ys)
    | none => .ok ys
def vslcL (x l : Vl) : VR VF := match l with
  | .int i => vslc x (some i) none
  | _ => .bad
def vslcU (x h : Vl) : VR VF := match h with
  | .int i => vslc x none (some i)
  | _ => .bad
def vslcLU (x l h : Vl) : VR VF := match l, h with
  | .int i, .int j => vslc x (some i) (some j)
  | _, _ => .bad
def isInt : Vl → Bool
  | .int _ => true
  | _ => false
def vneg (x : Vl) : VR VF := match x with
  | .int i => .ok (.int (-i), false)
  | _ => .bad
def vonBl {α : Type} (r : Vl) (x y : VR α) : VR α := match r with
  | .bl b => if b = true then x else y
  | _ => .bad
def visi2 (x : Vl) (ts : List String) : VR VF := match ts with
  | [t] => voptB (visi x t)
  | [t, u] => voptB (match visi x t, visi x u with
      | some p, some q => some (p || q)
      | _, _ => none)
  | _ => .bad
def vK : Ky → Vl
  | .inl i => .int i
  | .inr s => .str s
/-- a field of a caught exception -/
def vfld (x : Vl) (f : String) : VR VF := match x with
  | .xo g k => if g = f then .ok (vK k, false) else .bad
  | _ => .bad
mutual
def vev (c : VCx) : E → VEnv → VR VF
  | .var i, σ => (match σ[i]? with
    | some (some p) => .ok (p.1, false)
    | _ => .bad)
  | .cst d, _ => if d.pure = true then .ok (d.up, false) else .bad
  | .glb x, _ => (match c.glob x with
    | some v => .ok (v, false)
    | none => .bad)
  | .bin o a b, σ => (vev c a σ).bind fun x => (vev c b σ).bind fun y => vbin o x.1 y.1
  | .neg a, σ => (vev c a σ).bind fun x => vneg x.1
  | .cmp o a b, σ => (vev c a σ).bind fun x => (vev c b σ).bind fun y => vcmp o x.1 y.1
  | .chain o p a b d, σ => (vev c a σ).bind fun x => (vev c b σ).bind fun y => (vcmp o x.1 y.1).bind fun r => vonBl r.1 ((vev c d σ).bind fun z => vcmp p y.1 z.1) (.ok (.bl false, false))
  | .and a b, σ => (vev c a σ).bind fun x => (vtr x.1).bind fun t => if t = true then vev c b σ else .ok (x.1, false)
  | .or a b, σ => (vev c a σ).bind fun x => (vtr x.1).bind fun t => if t = true then .ok (x.1, false) else vev c b σ
  | .not a, σ => (vev c a σ).bind fun x => (vtr x.1).bind fun t => .ok (.bl (!t), false)
  | .ite t a b, σ => (vev c t σ).bind fun x => (vtr x.1).bind fun t => if t = true then vev c a σ else vev c b σ
  | .tup es, σ => (vevs c es σ).bind fun xs => .ok (.tup xs, false)
  | .lst es, σ => (vevs c es σ).bind fun xs => .ok (.lst xs, true)
  | .dct t, _ => if t = true then .bad else .ok (.dk [] [], true)
  | .ix a b, σ => (vev c a σ).bind fun x => (vev c b σ).bind fun y => vix x.1 y.1
  | .slc a, σ => (vev c a σ).bind fun x => vslc x.1 none none
  | .slcL a lo, σ => (vev c a σ).bind fun x => (vev c lo σ).bind fun l => vslcL x.1 l.1
  | .slcU a hi, σ => (vev c a σ).bind fun x => (vev c hi σ).bind fun h => vslcU x.1 h.1
  | .slcLU a lo hi, σ => (vev c a σ).bind fun x => (vev c lo σ).bind fun l => if isInt l.1 = true then (vev c hi σ).bind fun h => vslcLU x.1 l.1 h.1 else .bad
  | .call f es, σ => (vevs c es σ).bind fun xs => c.call f xs
  | .blt f es, σ => (vevs c es σ).bind fun xs => vblt f xs
  | .mth m o es, σ => (vev c o σ).bind fun x => if vty m x.1 = true then (vevs c es σ).bind fun xs => vmth m x.1 xs else .bad
  | .isi a ts, σ => (vev c a σ).bind fun x => visi2 x.1 ts
  | .fld a f, σ => (vev c a σ).bind fun x => vfld x.1 f
  | .lc elt tg k its ifs own, σ => (vevs c its σ).bind fun vs => match vwalk k vs with
    | some xs => if xs.length ≤ lim then (vlc (fun x => match vassign tg x (vwipe σ own) with
        | none => .bad
        | some σ1 => vnoExc ((vevt c ifs σ1).bind fun t => if t = true then (vev c elt σ1).bind fun y => .ok (some y.1) else .ok none)) xs).bind fun ys => .ok (.lst ys, true) else .bad
    | none => .bad
def vevs (c : VCx) : List E → VEnv → VR (List Vl)
  | [], _ => .ok []
  | e :: es, σ => (vev c e σ).bind fun x => (vevs c es σ).bind fun xs => .ok (x.1 :: xs)
def vevt (c : VCx) : List E → VEnv → VR Bool
  | [], _ => .ok true
  | e :: es, σ => ((vev c e σ).bind fun x => vtr x.1).bind fun t => if t = true then vevt c es σ else .ok false
end
mutual
/-- the names in an expression -/
def E.vars : E → List Nat
  | .var i => [i]
  | .cst _ => []
  | .glb _ => []
  | .bin _ a b => a.vars ++ b.vars
  | .neg a => a.vars
  | .cmp _ a b => a.vars ++ b.vars
  | .chain _ _ a b d => a.vars ++ (b.vars ++ d.vars)
  | .and a b => a.vars ++ b.vars
  | .or a b => a.vars ++ b.vars
  | .not a => a.vars
  | .ite t a b => t.vars ++ (a.vars ++ b.vars)
  | .tup es => E.varss es
  | .lst es => E.varss es
  | .dct _ => []
  | .ix a b => a.vars ++ b.vars
  | .slc a => a.vars
  | .slcL a b => a.vars ++ b.vars
  | .slcU a b => a.vars ++ b.vars
  | .slcLU a b d => a.vars ++ (b.vars ++ d.vars)
  | .call _ es => E.varss es
  | .blt _ es => E.varss es
  | .mth _ o es => o.vars ++ E.varss es
  | .isi a _ => a.vars
  | .fld a _ => a.vars
  | .lc elt _ _ its ifs _ => E.varss its ++ (E.varss ifs ++ elt.vars)
def E.varss : List E → List Nat
  | [] => []
  | e :: es => e.vars ++ E.varss es
end
structure CxOk (c : Cx) (vc : VCx) : Prop where
  call : ∀ (f : String) (vs : List Vl) (M : Store) (H : Nat → Prop) (ds : List D), St H M → Reps M H vs ds → RE H M (vc.call f vs) (c.call f ds M)
  glob : ∀ (x : String) (v : Vl), vc.glob x = some v → ∃ d, c.glob x = some d ∧ v.dn = some d
structure VE (H : Nat → Prop) (M : Store) (ρ : Env) (σ : VEnv) (X : List Nat) : Prop where
  st : St H M
  len : ρ.length = σ.length
  val : ∀ x ∈ X, ∀ (v : Vl) (fl : Bool), σ[x]? = some (some (v, fl)) → ∃ d, ρ[x]? = some (some d) ∧ Rep M H v d
section
variable {H : Nat → Prop} {M t : Store} {ρ : Env} {σ : VEnv} {X Y : List Nat}
theorem VE.sub (h : VE H M ρ σ X) (hs : ∀ x ∈ Y, x ∈ X) : VE H M ρ σ Y := ⟨h.st, h.len, fun x hx => h.val x (hs x hx)⟩
theorem VE.app (h : VE H M ρ σ X) (s : St H (M ++ t)) : VE H (M ++ t) ρ σ X := ⟨s, h.len, fun x hx v fl e => let ⟨d, a, b⟩ := h.val x hx v fl e; ⟨d, a, b.app⟩⟩
theorem VE.l (h : VE H M ρ σ (X ++ Y)) : VE H M ρ σ X := h.sub fun x hx => List.mem_append_left _ hx
theorem VE.r (h : VE H M ρ σ (X ++ Y)) : VE H M ρ σ Y := h.sub fun x hx => List.mem_append_right _ hx
theorem VE.set {i : Nat} {v : Vl} {d : D} {fl : Bool} (h : VE H M ρ σ X) (r : Rep M H v d) : VE H M (ρ.set i (some d)) (σ.set i (some (v, fl))) X := ⟨h.st, by simp [h.len], fun x hx u f e => by
  by_cases hi : i = x
  · subst hi
    have hl := (List.getElem?_eq_some_iff.mp e).1
    rw [List.length_set] at hl
    rw [List.getElem?_set_self hl] at e
    cases e
    exact ⟨d, List.getElem?_set_self (by rw [h.len]; exact hl), r⟩
  · rw [List.getElem?_set_ne hi] at e ⊢
    exact h.val x hx u f e⟩
theorem VE.none {i : Nat} (h : VE H M ρ σ X) : VE H M (ρ.set i none) (σ.set i none) X := ⟨h.st, by simp [h.len], fun x hx u f e => by
  by_cases hi : i = x
  · subst hi
    have hl := (List.getElem?_eq_some_iff.mp e).1
    rw [List.length_set] at hl
    rw [List.getElem?_set_self hl] at e
    cases e
  · rw [List.getElem?_set_ne hi] at e ⊢
    exact h.val x hx u f e⟩
theorem VE.wipe (h : VE H M ρ σ X) : ∀ ks, VE H M (wipe ρ ks) (vwipe σ ks) X
  | [] => h
  | k :: ks => (VE.wipe h ks).none
theorem VE.many : ∀ {is : List Nat} {vs : List Vl} {ds : List D} {ρ : Env} {σ σ' : VEnv}, VE H M ρ σ X → Reps M H vs ds → vsetMany σ is vs = some σ' → ∃ ρ', setMany ρ is ds = some ρ' ∧ VE H M ρ' σ' X
  | [], [], ds, ρ, σ, σ', h, r, e => by
    simp only [Reps] at r
    subst r
    cases e
    exact ⟨ρ, rfl, h⟩
  | i :: is, v :: vs, ds, ρ, σ, σ', h, r, e => by
    simp only [Reps] at r
    obtain ⟨d, r', rfl, r1, r2⟩ := r
    exact VE.many (is := is) (h.set r1) r2 e
  | [], _ :: _, _, _, _, _, _, _, e => by cases e
  | _ :: _, [], _, _, _, _, _, _, e => by cases e
theorem VE.assign {tg : Tg} {v : Vl} {d : D} {σ' : VEnv} (h : VE H M ρ σ X) (r : Rep M H v d) (e : vassign tg v σ = some σ') : ∃ ρ', assignT M tg d ρ = some ρ' ∧ VE H M ρ' σ' X := by
  cases tg with
  | one i =>
    cases e
    exact ⟨_, rfl, h.set r⟩
  | many is =>
    cases v <;> try (cases e; done)
    simp only [Rep] at r
    obtain ⟨ds, rfl, r⟩ := r
    exact VE.many h r e
theorem RE.weak {x : Vl} {fr : Bool} {r : Res D} (h : RE H M (.ok (x, fr)) r) : RE H M (.ok (x, false)) r := by
  obtain ⟨d, t, a, b, c, _⟩ := h
  exact ⟨d, t, a, b, c, fun q => by cases q⟩
theorem RE.weakB {x : Vl} {d : D} (s : St H M) (r : Rep M H x d) : RE H M (.ok (x, false)) (.ok d M) := RE.old s.clo r
/-- what is forgotten is not part of the value -/
theorem re_gc {x : VR VF} {r : Res D} (s : St H M) (h : RE H M x r) : RE H M x (r.gc M.length) := by
  cases x with
  | bad => trivial
  | exc x =>
    obtain ⟨p, t, a, b⟩ := h
    subst a
    exact ⟨p, [], by simp [Res.gc], by rw [List.append_nil]; exact s.clo⟩
  | ok p =>
    obtain ⟨v, fr⟩ := p
    obtain ⟨d, t, a, b, c, e⟩ := h
    subst a
    simp only at c e
    unfold Res.gc gc
    simp only
    by_cases hp : d.pure = true
    · rw [if_pos hp, List.take_left' rfl]
      have hd := c.pure hp
      refine ⟨d, [], by rw [List.append_nil], by rw [List.append_nil]; exact s.clo, Rep.of_dn hd, fun _ i z => ?_⟩
      subst z
      simp [D.pure] at hp
    · rw [if_neg hp]
      cases d with
      | ref j =>
        simp only
        by_cases hj : j < M.length
        · rw [if_pos hj, List.take_left' rfl]
          refine ⟨.ref j, [], by rw [List.append_nil], by rw [List.append_nil]; exact s.clo, ?_, fun q i z => ?_⟩
          · rw [List.append_nil]
            exact Rep.cut s.clo c (by simp only [D.bw]; exact hj)
          · cases z
            have := (e q j rfl).1
            omega
        · rw [if_neg hj]
          have hl : j < (M ++ t).length := c.top.lt
          rw [List.getElem?_eq_getElem hl]
          simp only
          by_cases ho : (M ++ t)[j].pure = true
          · rw [if_pos ho, List.take_left' rfl]
            have hb : (M ++ t)[j].bw (M.length + 1) := by
              cases q : (M ++ t)[j] <;> rw [q] at ho <;> simp only [O.pure] at ho <;> simp only [O.bw]
              · exact D.pures_bw ho
              · exact D.pures_bw ho
              · exact D.bws_mem.mpr fun d hd => by
                  obtain ⟨p, h1, rfl⟩ := List.mem_map.mp hd
                  exact D.pure_bw (List.all_eq_true.mp ho p h1)
              · exact D.bws_mem.mpr fun d hd => by
                  obtain ⟨p, h1, rfl⟩ := List.mem_map.mp hd
                  exact D.pure_bw (List.all_eq_true.mp ho p h1)
              · exact D.bws_mem.mpr fun d hd => by
                  obtain ⟨p, h1, rfl⟩ := List.mem_map.mp hd
                  exact D.pure_bw (List.all_eq_true.mp ho p h1)
            have hn : ¬ H M.length := fun q => absurd (s.lt _ q) (Nat.lt_irrefl _)
            have key : ∀ F : Nat → Prop, RepT (M ++ [(M ++ t)[j]]) F v (.ref M.length) := fun F => by
              cases v <;> simp only [Rep] at c <;> first
                | (cases c; done)
                | (obtain ⟨_, z, _⟩ := c; cases z; done)
                | skip
              · obtain ⟨i, ds, z, _, q, c⟩ := c
                cases z
                rw [List.getElem?_eq_getElem hl] at q
                cases q2 : (M ++ t)[j] with
                | lst es =>
                  rw [q2] at q ho
                  cases q
                  exact ⟨_, ds, rfl, new_get, Reps.of_dns (c.pures ho)⟩
                | _ => rw [q2] at q; cases q
              · obtain ⟨i, ds, z, _, q, c⟩ := c
                cases z
                rw [List.getElem?_eq_getElem hl] at q
                cases q2 : (M ++ t)[j] with
                | ro es =>
                  rw [q2] at q ho
                  cases q
                  exact ⟨_, ds, rfl, new_get, Reps.of_dns (c.pures ho)⟩
                | _ => rw [q2] at q; cases q
              · obtain ⟨i, es, z, _, q, g, c⟩ := c
                cases z
                rw [List.getElem?_eq_getElem hl] at q
                cases q2 : (M ++ t)[j] with
                | dk fs =>
                  rw [q2] at q ho
                  cases q
                  refine ⟨_, es, rfl, new_get, g, Reps.of_dns (c.pures (D.pures_iff.mpr fun d hd => ?_))⟩
                  obtain ⟨p, h1, rfl⟩ := List.mem_map.mp hd
                  exact List.all_eq_true.mp ho p h1
                | _ => rw [q2] at q; cases q
            refine ⟨.ref M.length, [(M ++ t)[j]], rfl, s.clo.snoc hb, (key H).rep fun i z => by cases z; exact hn, fun _ i z => ?_⟩
            cases z
            exact ⟨Nat.le_refl _, key _⟩
          · rw [if_neg ho]
            exact ⟨.ref j, t, rfl, b, c, e⟩
      | _ => exact ⟨_, t, rfl, b, c, e⟩
def REo (H : Nat → Prop) (M : Store) : VR (Option Vl) → Res (Option D) → Prop
  | .ok (some v), r => ∃ d t, r = .ok (some d) (M ++ t) ∧ Clo (M ++ t) ∧ Rep (M ++ t) H v d
  | .ok none, r => ∃ t, r = .ok none (M ++ t) ∧ Clo (M ++ t)
  | .exc _, _ => False
  | .bad, _ => True
theorem re_lc {vblk : Vl → VR (Option Vl)} {blk : D → Store → Res (Option D)} {w : Option (Nat × List D)} : ∀ {vs : List Vl} {ds : List D} {M : Store}, St H M → Reps M H vs ds → (∀ i l, w = some (i, l) → M[i]? = some (.lst l)) → (∀ (v : Vl) (d : D) (t : Store), St H (M ++ t) → Rep (M ++ t) H v d → REo H (M ++ t) (vblk v) (blk d (M ++ t))) →
    REs H M (vlc vblk vs) (lcW w blk ds M)
  | [], ds, M, s, h, hw, hb => by
    simp only [Reps] at h
    subst h
    unfold lcW vlc
    rw [if_pos (by
      cases w with
      | none => exact trivial
      | some p => exact hw p.1 p.2 rfl)]
    exact ⟨[], [], by rw [List.append_nil], by rw [List.append_nil]; exact s.clo, by simp only [Reps]⟩
  | v :: vs, ds, M, s, h, hw, hb => by
    simp only [Reps] at h
    obtain ⟨d, r, rfl, h1, h2⟩ := h
    unfold lcW vlc
    rw [if_pos (by
      cases w with
      | none => exact trivial
      | some p => exact hw p.1 p.2 rfl)]
    have h0 := hb v d [] (by rw [List.append_nil]; exact s) (by rw [List.append_nil]; exact h1)
    rw [List.append_nil] at h0
    cases q : vblk v with
    | bad => trivial
    | exc x => rw [q] at h0; exact h0.elim
    | ok o =>
      rw [q] at h0
      have go : ∀ (t : Store), Clo (M ++ t) → REs H (M ++ t) (vlc vblk vs) (lcW w blk r (M ++ t)) := fun t hc => by
        refine re_lc (M := M ++ t) (s.app hc) h2.app (fun i l e => ?_) fun v d u su ru => ?_
        · have := hw i l e
          rw [List.getElem?_append_left (List.getElem?_eq_some_iff.mp this).1]
          exact this
        · rw [List.append_assoc] at su ru ⊢
          exact hb v d _ su ru
      cases o with
      | none =>
        obtain ⟨t, a, b⟩ := h0
        rw [a]
        refine REs.wide (t := t) (REs.binds (s.app b) (go t b) fun vs ds u _ su ru => ?_)
        exact ⟨ds, [], by rw [List.append_nil], by rw [List.append_nil]; exact su.clo, by rw [List.append_nil]; exact ru⟩
      | some y =>
        obtain ⟨z, t, a, b, c⟩ := h0
        rw [a]
        refine REs.wide (t := t) (REs.binds (s.app b) (go t b) fun vs ds u _ su ru => ?_)
        exact ⟨z :: ds, [], by rw [List.append_nil], by rw [List.append_nil]; exact su.clo, by rw [List.append_nil]; exact Reps.cons c.app ru⟩
end
/-- a test ends with the store as it was -/
def REt (M : Store) : VR Bool → Res Bool → Prop
  | .ok b, r => r = .ok b M
  | .exc x, r => x.pur ∧ ∃ t, r = .exc x (M ++ t) ∧ Clo (M ++ t)
  | .bad, _ => True
end Sk
end
section
set_option Elab.async false
set_option linter.all false
set_option autoImplicit false
set_option maxRecDepth 100000
/-! SkV5: expressions on values say what the store's evaluator does. -/
namespace Sk
open PySem (Str)
section
variable {c : Cx} {vc : VCx} {H : Nat → Prop}
theorem visi2_ok {M : Store} {x : Vl} {d : D} {ts : List String} (hc : Clo M) (h : Rep M H x d) : RE H M (visi2 x ts) (match ts with
    | [t] => optB M (isiD M d t)
    | [t, u] => optB M (match isiD M d t, isiD M d u with
      | some p, some q => some (p || q)
      | _, _ => none)
    | _ => .bad) := by
  unfold visi2
  split
  · exact re_optB hc fun r e => isi_of h e
  · rename_i t u
    refine re_optB hc fun r e => ?_
    cases e1 : visi x t with
    | none => rw [e1] at e; cases e
    | some p =>
      cases e2 : visi x u with
      | none => rw [e1, e2] at e; cases e
      | some q => rw [e1, e2] at e; rw [isi_of h e1, isi_of h e2]; exact e
  · exact trivial
theorem vty_ok {M : Store} {m : Mth} {v : Vl} {d : D} (h : Rep M H v d) (e : vty m v = true) : tyM m M d = true := ty_of h e
theorem isInt_of {v : Vl} (h : isInt v = true) : ∃ i, v = .int i := by
  cases v <;> simp [isInt] at h
  exact ⟨_, rfl⟩
mutual
theorem vev_ok (hc : CxOk c vc) : ∀ (e : E) {M : Store} {ρ : Env} {σ : VEnv}, VE H M ρ σ e.vars → RE H M (vev vc e σ) (ev c e ρ M)
  | .var i, M, ρ, σ, h => by
    unfold vev ev
    cases q : σ[i]? with
    | none => exact trivial
    | some o =>
      cases o with
      | none => exact trivial
      | some p =>
        obtain ⟨d, h1, h2⟩ := h.val i (by simp [E.vars]) p.1 p.2 q
        rw [h1]
        exact RE.old h.st.clo h2
  | .cst d, M, ρ, σ, h => by
    unfold vev ev
    split
    · rename_i hd
      exact RE.pure h.st.clo (D.up_dn hd)
    · exact trivial
  | .glb x, M, ρ, σ, h => by
    unfold vev ev
    cases q : vc.glob x with
    | none => exact trivial
    | some v =>
      obtain ⟨d, h1, h2⟩ := hc.glob x v q
      rw [h1]
      exact RE.pure h.st.clo h2
  | .bin o a b, M, ρ, σ, h => by
    unfold vev ev
    unfold E.vars at h
    refine RE.bind h.st (vev_ok hc a h.l) fun p d t _ s r => ?_
    refine RE.bind s (vev_ok hc b (h.r.app s)) fun p2 d2 t2 _ s2 r2 => ?_
    exact re_bin s2 r.app r2
  | .neg a, M, ρ, σ, h => by
    unfold vev ev
    unfold E.vars at h
    refine RE.bind h.st (vev_ok hc a h) fun p d t _ s r => ?_
    unfold vneg
    split
    · rename_i i e
      rw [e] at r
      simp only [Rep] at r
      subst r
      exact RE.pure s.clo (by simp only [Vl.dn])
    · exact trivial
  | .cmp o a b, M, ρ, σ, h => by
    unfold vev ev
    unfold E.vars at h
    refine RE.bind h.st (vev_ok hc a h.l) fun p d t _ s r => ?_
    refine RE.bind s (vev_ok hc b (h.r.app s)) fun p2 d2 t2 _ s2 r2 => ?_
    exact re_cmp s2.clo r.app r2
  | .chain o p a b e, M, ρ, σ, h => by
    unfold vev ev
    unfold E.vars at h
    refine RE.bind h.st (vev_ok hc a h.l) fun p1 d1 t1 _ s1 r1 => ?_
    refine RE.bind s1 (vev_ok hc b (h.r.l.app s1)) fun p2 d2 t2 _ s2 r2 => ?_
    refine RE.bind s2 (re_cmp s2.clo r1.app r2) fun p3 d3 t3 _ s3 r3 => ?_
    unfold vonBl
    split
    · rename_i b e2
      rw [e2] at r3
      simp only [Rep] at r3
      subst r3
      cases b with
      | true =>
        rw [if_pos rfl]
        refine RE.bind s3 (vev_ok hc e (M := ((M ++ t1) ++ t2) ++ t3) (((h.r.r.app s1).app s2).app s3)) fun p4 d4 t4 _ s4 r4 => ?_
        exact re_cmp s4.clo r2.app.app r4
      | false =>
        rw [if_neg (by simp)]
        exact RE.pure s3.clo (by simp only [Vl.dn])
    · exact trivial
  | .and a b, M, ρ, σ, h => by
    unfold vev ev
    unfold E.vars at h
    refine RE.bind h.st (vev_ok hc a h.l) fun p d t _ s r => ?_
    refine RE.bindb s (re_truth s.clo r) fun b' t2 s2 => ?_
    split
    · exact vev_ok hc b ((h.r.app s).app s2)
    · exact RE.weakB s2 r.app
  | .or a b, M, ρ, σ, h => by
    unfold vev ev
    unfold E.vars at h
    refine RE.bind h.st (vev_ok hc a h.l) fun p d t _ s r => ?_
    refine RE.bindb s (re_truth s.clo r) fun b' t2 s2 => ?_
    split
    · exact RE.weakB s2 r.app
    · exact vev_ok hc b ((h.r.app s).app s2)
  | .not a, M, ρ, σ, h => by
    unfold vev ev
    unfold E.vars at h
    refine RE.bind h.st (vev_ok hc a h) fun p d t _ s r => ?_
    refine RE.bindb s (re_truth s.clo r) fun b' t2 s2 => ?_
    exact RE.pure s2.clo (by simp only [Vl.dn])
  | .ite x a b, M, ρ, σ, h => by
    unfold vev ev
    unfold E.vars at h
    refine RE.bind h.st (vev_ok hc x h.l) fun p d t _ s r => ?_
    refine RE.bindb s (re_truth s.clo r) fun b' t2 s2 => ?_
    split
    · exact vev_ok hc a ((h.r.l.app s).app s2)
    · exact vev_ok hc b ((h.r.r.app s).app s2)
  | .tup es, M, ρ, σ, h => by
    unfold vev ev
    unfold E.vars at h
    refine RE.binds h.st (vevs_ok hc es h) fun vs ds t _ s r => ?_
    exact RE.old s.clo (by simp only [Rep]; exact ⟨ds, rfl, r⟩)
  | .lst es, M, ρ, σ, h => by
    unfold vev ev
    unfold E.vars at h
    refine RE.binds h.st (vevs_ok hc es h) fun vs ds t _ s r => ?_
    exact RE.new s r
  | .dct t, M, ρ, σ, h => by
    unfold vev ev
    cases t with
    | true => exact trivial
    | false => exact RE.newK (es := []) h.st Reps.nil rfl
  | .ix a b, M, ρ, σ, h => by
    unfold vev ev
    unfold E.vars at h
    refine RE.bind h.st (vev_ok hc a h.l) fun p d t _ s r => ?_
    refine RE.bind s (vev_ok hc b (h.r.app s)) fun p2 d2 t2 _ s2 r2 => ?_
    exact re_ix s2.clo r.app r2
  | .slc a, M, ρ, σ, h => by
    unfold vev ev
    unfold E.vars at h
    exact RE.bind h.st (vev_ok hc a h) fun p d t _ s r => re_slc s r
  | .slcL a b, M, ρ, σ, h => by
    unfold vev ev
    unfold E.vars at h
    refine RE.bind h.st (vev_ok hc a h.l) fun p d t _ s r => ?_
    refine RE.bind s (vev_ok hc b (h.r.app s)) fun p2 d2 t2 _ s2 r2 => ?_
    unfold vslcL
    split
    · rename_i i e
      rw [e] at r2
      simp only [Rep] at r2
      subst r2
      exact re_slc s2 r.app
    · exact trivial
  | .slcU a b, M, ρ, σ, h => by
    unfold vev ev
    unfold E.vars at h
    refine RE.bind h.st (vev_ok hc a h.l) fun p d t _ s r => ?_
    refine RE.bind s (vev_ok hc b (h.r.app s)) fun p2 d2 t2 _ s2 r2 => ?_
    unfold vslcU
    split
    · rename_i i e
      rw [e] at r2
      simp only [Rep] at r2
      subst r2
      exact re_slc s2 r.app
    · exact trivial
  | .slcLU a b e, M, ρ, σ, h => by
    unfold vev ev
    unfold E.vars at h
    refine RE.bind h.st (vev_ok hc a h.l) fun p d t _ s r => ?_
    refine RE.bind s (vev_ok hc b (h.r.l.app s)) fun p2 d2 t2 _ s2 r2 => ?_
    split
    · rename_i e2
      obtain ⟨i, e2⟩ := isInt_of e2
      rw [e2] at r2 ⊢
      simp only [Rep] at r2
      subst r2
      refine RE.bind s2 (vev_ok hc e ((h.r.r.app s).app s2)) fun p3 d3 t3 _ s3 r3 => ?_
      unfold vslcLU
      split
      · rename_i i' j e4 e3
        cases e4
        rw [e3] at r3
        simp only [Rep] at r3
        subst r3
        exact re_slc s3 r.app.app
      · exact trivial
    · exact trivial
  | .call f es, M, ρ, σ, h => by
    unfold vev ev
    unfold E.vars at h
    exact RE.binds h.st (vevs_ok hc es h) fun vs ds t _ s r => hc.call f vs _ H ds s r
  | .blt f es, M, ρ, σ, h => by
    unfold vev ev
    unfold E.vars at h
    exact RE.binds h.st (vevs_ok hc es h) fun vs ds t _ s r => re_blt s r
  | .mth m o es, M, ρ, σ, h => by
    unfold vev ev
    unfold E.vars at h
    refine RE.bind h.st (vev_ok hc o h.l) fun p d t _ s r => ?_
    split
    · rename_i e
      rw [if_pos (vty_ok r e)]
      exact RE.binds s (vevs_ok hc es (h.r.app s)) fun vs ds t _ s2 r2 => re_mth s2.clo r.app r2
    · exact trivial
  | .isi a ts, M, ρ, σ, h => by
    unfold vev ev
    unfold E.vars at h
    exact RE.bind h.st (vev_ok hc a h) fun p d t _ s r => visi2_ok s.clo r
  | .fld a f, M, ρ, σ, h => by
    unfold vev ev
    unfold E.vars at h
    refine RE.bind h.st (vev_ok hc a h) fun p d t _ s r => ?_
    unfold vfld
    split
    · rename_i g k e
      rw [e] at r
      simp only [Rep] at r
      subst r
      simp only
      split
      · refine RE.pure s.clo ?_
        cases k <;> simp only [vK, kD, Vl.dn]
      · exact trivial
    · exact trivial
  | .lc elt tg k its ifs own, M, ρ, σ, h => by
    unfold vev ev
    unfold E.vars at h
    refine RE.binds0 h.st (vevs_ok hc its h.l) fun vs ds t _ s r => ?_
    split
    rotate_left
    · exact trivial
    rename_i xs ex
    split
    rotate_left
    · exact trivial
    rename_i hl
    obtain ⟨ys, w, t2, e1, c1, r1, w1⟩ := re_walk h.st s.clo r ex
    rw [e1, rbind_ok]
    show RE H M _ (if ys.length ≤ lim then _ else _)
    rw [if_pos (by rw [r1.length]; exact hl)]
    have s1 : St H (M ++ t2) := h.st.app c1
    have key : RE H (M ++ t2) ((vlc (fun x => match vassign tg x (vwipe σ own) with
        | none => .bad
        | some σ1 => vnoExc ((vevt vc ifs σ1).bind fun t => if t = true then (vev vc elt σ1).bind fun y => .ok (some y.1) else .ok none)) xs).bind fun ys => .ok (.lst ys, true)) ((lcW (w.map fun i => (i, ys)) (fun x M3 => match assignT M3 tg x (Sk.wipe ρ own) with
        | none => .bad
        | some ρ1 => noExc ((evt c ifs ρ1 M3).bind fun t M4 => if t = true then ((ev c elt ρ1 M4).gc M4.length).bind fun y M5 => .ok (some y) M5 else .ok none M4)) ys (M ++ t2)).bind fun ys M3 => alloc M3 (.lst ys)) := by
      refine RE.binds s1 (re_lc s1 r1 (fun i l q => ?_) fun v d u su ru => ?_) fun vs ds t3 _ s3 r3 => RE.new s3 r3
      · cases w with
        | none => cases q
        | some j =>
          cases q
          exact (w1 _ rfl).2.1
      · have hw : VE H ((M ++ t2) ++ u) (Sk.wipe ρ own) (vwipe σ own) (E.varss ifs ++ elt.vars) := ((h.r.app s1).app su).wipe own
        cases ea : vassign tg v (vwipe σ own) with
        | none => exact trivial
        | some σ1 =>
          obtain ⟨ρ1, a1, a2⟩ := hw.assign ru ea
          simp only [a1]
          have ht := vevt_ok hc ifs a2.l
          cases et : vevt vc ifs σ1 with
          | bad => exact trivial
          | exc x => exact trivial
          | ok b =>
            rw [et] at ht
            have ht : evt c ifs ρ1 ((M ++ t2) ++ u) = .ok b ((M ++ t2) ++ u) := ht
            rw [ht]
            simp only [VR.bind, Res.bind]
            cases b with
            | false => exact ⟨[], by rw [List.append_nil]; rfl, by rw [List.append_nil]; exact su.clo⟩
            | true =>
              simp only [if_true]
              have he := re_gc su (vev_ok hc elt a2.r)
              cases ee : vev vc elt σ1 with
              | bad => exact trivial
              | exc x => exact trivial
              | ok p =>
                rw [ee] at he
                obtain ⟨d, t4, b1, b2, b3, _⟩ := he
                rw [b1]
                exact ⟨d, t4, rfl, b2, b3⟩
    exact key.wide
theorem vevs_ok (hc : CxOk c vc) : ∀ (es : List E) {M : Store} {ρ : Env} {σ : VEnv}, VE H M ρ σ (E.varss es) → REs H M (vevs vc es σ) (evs c es ρ M)
  | [], M, ρ, σ, h => by
    unfold vevs evs
    exact ⟨[], [], by rw [List.append_nil], by rw [List.append_nil]; exact h.st.clo, Reps.nil⟩
  | e :: es, M, ρ, σ, h => by
    unfold vevs evs
    unfold E.varss at h
    refine REs.bind h.st (vev_ok hc e h.l) fun p d t _ s r => ?_
    refine REs.binds s (vevs_ok hc es (h.r.app s)) fun vs ds t2 _ s2 r2 => ?_
    exact ⟨d :: ds, [], by rw [List.append_nil], by rw [List.append_nil]; exact s2.clo, by rw [List.append_nil]; exact Reps.cons r.app r2⟩
theorem vevt_ok (hc : CxOk c vc) : ∀ (es : List E) {M : Store} {ρ : Env} {σ : VEnv}, VE H M ρ σ (E.varss es) → REt M (vevt vc es σ) (evt c es ρ M)
  | [], M, ρ, σ, h => by
    unfold vevt evt
    rfl
  | e :: es, M, ρ, σ, h => by
    unfold vevt evt
    unfold E.varss at h
    have hb : REb M ((vev vc e σ).bind fun x => vtr x.1) ((ev c e ρ M).bind truthR) := REb.bind h.st (vev_ok hc e h.l) fun p d t _ s r => re_truth s.clo r
    cases q : (vev vc e σ).bind fun x => vtr x.1 with
    | bad => exact trivial
    | exc x =>
      rw [q] at hb
      obtain ⟨p, t, a, b⟩ := hb
      rw [a]
      exact ⟨p, t, rfl, b⟩
    | ok b =>
      rw [q] at hb
      obtain ⟨t, a, _⟩ := hb
      rw [a]
      simp only [VR.bind, Res.bind, List.take_left' rfl]
      cases b with
      | true => exact vevt_ok hc es h.r
      | false => rfl
end
theorem vevb_ok (hc : CxOk c vc) {e : E} {M : Store} {ρ : Env} {σ : VEnv} (h : VE H M ρ σ e.vars) : (match (vev vc e σ).bind fun x => vtr x.1 with
    | .ok b => evb c e ρ M = .ok b M
    | .exc x => x.pur ∧ evb c e ρ M = .exc x M
    | .bad => True) := by
  have hb : REb M ((vev vc e σ).bind fun x => vtr x.1) ((ev c e ρ M).bind truthR) := REb.bind h.st (vev_ok hc e h) fun p d t _ s r => re_truth s.clo r
  unfold evb
  cases q : (vev vc e σ).bind fun x => vtr x.1 with
  | bad => exact trivial
  | exc x =>
    rw [q] at hb
    obtain ⟨p, t, a, b⟩ := hb
    rw [a]
    exact ⟨p, by simp⟩
  | ok b =>
    rw [q] at hb
    obtain ⟨t, a, _⟩ := hb
    rw [a]
    simp
end
end Sk
end
section
set_option Elab.async false
set_option linter.all false
set_option autoImplicit false
set_option maxRecDepth 100000
/-! SkV6: statements on values. -/
namespace Sk
open PySem (Str)
inductive VOut where
  | nx (σ : VEnv)
  | rt (p : VF)
  | bk (σ : VEnv)
  | ct (σ : VEnv)
  | exc (x : Exc) (σ : VEnv)
  | bad
/-- nothing that is owned can be part of it -/
def vflat : Vl → Bool
  | .lst vs => (Vl.dns vs).isSome
  | .dk _ vs => (Vl.dns vs).isSome
  | _ => false
def calm (p : VF) : Bool := p.1.dn.isSome || (p.2 && vflat p.1)
def vun (σ : VEnv) (x : Nat) : VEnv := match σ[x]? with
  | some (some p) => σ.set x (some (p.1, false))
  | _ => σ
def vclear (σ : VEnv) : List Nat → VEnv
  | [] => σ
  | x :: xs => vun (vclear σ xs) x
def vkeep (p : VF) (X : List Nat) (σ : VEnv) : VEnv := if calm p = true then σ else vclear σ X
def vpopN (xs : List Vl) (vs : List Vl) : Option Nat := match vs with
  | [] => some (xs.length - 1)
  | [.int j] => ixN xs.length j
  | _ => none
def vevp (c : VCx) (e : E) (σ : VEnv) : VR (VF × VEnv) := match e with
  | .mth .pop (.var x) es => (vnoExc (vevs c es σ)).bind fun vs => (match σ[x]? with
    | some (some (.lst xs, true)) => (match vpopN xs vs with
      | some k => (match xs[k]? with
        | some v => .ok ((v, false), σ.set x (some (.lst (xs.eraseIdx k), true)))
        | none => .bad)
      | none => .bad)
    | _ => .bad)
  | e => (vev c e σ).bind fun p => .ok (p, vkeep p e.vars σ)
def vret (c : VCx) (e : E) (σ : VEnv) : VR VF := match e with
  | .var i => (match σ[i]? with
    | some (some p) => .ok p
    | _ => .bad)
  | e => vev c e σ
def vits (c : VCx) (its : List E) (σ : VEnv) : VR (List Vl × VEnv) := match its with
  | [e] => (vev c e σ).bind fun p => .ok ([p.1], vkeep p e.vars σ)
  | es => (vevs c es σ).bind fun vs => .ok (vs, if (Vl.dns vs).isSome = true then σ else vclear σ (E.varss es))
def VR.out {α : Type} (σ : VEnv) (r : VR α) (f : α → VOut) : VOut := match r with
  | .ok a => f a
  | .exc x => .exc x σ
  | .bad => .bad
def VOut.kill (ks : List Nat) : VOut → VOut
  | .nx σ => .nx (vwipe σ ks)
  | .ct σ => .ct (vwipe σ ks)
  | .bk σ => .bk (vwipe σ ks)
  | .rt p => .rt p
  | .exc x σ => .exc x σ
  | .bad => .bad
def VOut.andThen (o : VOut) (f : VEnv → VOut) : VOut := match o with
  | .nx σ => f σ
  | o => o
def vforL (body : Vl → VEnv → VOut) : List Vl → VEnv → VOut
  | [], σ => .nx σ
  | x :: xs, σ => match body x σ with
    | .nx σ' => vforL body xs σ'
    | .ct σ' => vforL body xs σ'
    | .bk σ' => .nx σ'
    | .rt p => .rt p
    | .exc x σ' => .exc x σ'
    | .bad => .bad
def vwhileN (c : VEnv → VR Bool) (body : VEnv → VOut) : Nat → VEnv → Option VOut
  | 0, _ => none
  | n + 1, σ => match c σ with
    | .ok b => if b = true then (match body σ with
      | .nx σ' => vwhileN c body n σ'
      | .ct σ' => vwhileN c body n σ'
      | .bk σ' => some (.nx σ')
      | .rt p => some (.rt p)
      | .exc x σ' => some (.exc x σ')
      | .bad => some .bad) else some (.nx σ)
    | .exc x => some (.exc x σ)
    | .bad => some .bad
open Classical in
noncomputable def vwhileD (c : VEnv → VR Bool) (body : VEnv → VOut) (σ : VEnv) : VOut :=
  if h : ∃ n o, vwhileN c body n σ = some o then Classical.choose (Classical.choose_spec h) else .bad
/-- x[k] = v -/
def vput (p : Vl) (k v : Vl) : Option Vl := match p with
  | .lst xs => (match k with
    | .int q => (match ixN xs.length q with
      | some j => some (.lst (xs.set j v))
      | none => none)
    | _ => none)
  | .dk ks vs => (match vkey k with
    | some q => if ks.length < lim then some (.dk (putV ks vs q v).1 (putV ks vs q v).2) else none
    | none => none)
  | _ => none
def vtgt : E → Option Nat
  | .var x => some x
  | _ => none
/-- what the owned one at x becomes -/
def vupd (σ : VEnv) (o : E) (f : Vl → Option Vl) : VOut := match vtgt o with
  | some x => (match σ[x]? with
    | some (some (v, true)) => (match f v with
      | some u => .nx (σ.set x (some (u, true)))
      | none => .bad)
    | _ => .bad)
  | none => .bad
def vputS (σ σ1 : VEnv) (o : E) (v : Vl) (r : VR VF) : VOut := (vnoExc r).out σ fun k => vupd σ1 o fun a => vput a k.1 v
def vown (σ : VEnv) (o : E) : Bool := match vtgt o with
  | some x => (match σ[x]? with
    | some (some (.lst _, true)) => true
    | _ => false)
  | none => false
def vapp (v : Vl) (p : Vl) : Option Vl := match p with
  | .lst xs => if xs.length < lim then some (.lst (xs ++ [v])) else none
  | _ => none
def vext (v : Vl) (p : Vl) : Option Vl := match p, v with
  | .lst xs, .lst ys => if xs.length + ys.length ≤ lim ∧ (Vl.dns ys).isSome = true then some (.lst (xs ++ ys)) else none
  | _, _ => none
def vrev (p : Vl) : Option Vl := match p with
  | .lst xs => some (.lst xs.reverse)
  | _ => none
def VOut.noX : VOut → VOut
  | .exc _ _ => .bad
  | o => o
def vbndX (o : Option Nat) (x : Exc) (σ : VEnv) : VEnv := match o with
  | some i => σ.set i (some (.xo x.f x.k, false))
  | none => σ
def vrse (cls f : String) (q : VF × VEnv) : VOut := match vkey q.1.1 with
  | some k => .exc ⟨cls, f, k⟩ q.2
  | none => .bad
mutual
noncomputable def vex (c : VCx) : S → VEnv → VOut
  | .set i e, σ => (vevp c e σ).out σ fun q => .nx (q.2.set i (some q.1))
  | .unp is e, σ => (vevp c e σ).out σ fun q => (match vassign (.many is) q.1.1 q.2 with
    | some σ1 => .nx σ1
    | none => .bad)
  | .par _ _ _ _, _ => .bad
  | .put v o i, σ => (vev c v σ).out σ fun p => vputS σ (vkeep p v.vars σ) o p.1 (vev c i (vkeep p v.vars σ))
  | .app o e, σ => if vown σ o = true then (vev c e σ).out σ fun p => vupd (vkeep p e.vars σ) o (vapp p.1) else .bad
  | .ext o e, σ => if vown σ o = true then (vev c e σ).out σ fun p => vupd σ o (vext p.1) else .bad
  | .rev o, σ => vupd σ o vrev
  | .exp e, σ => (vevp c e σ).out σ fun q => .nx q.2
  | .ret e, σ => (vret c e σ).out σ fun p => .rt p
  | .retN, _ => .rt (.non, false)
  | .iff t a b, σ => ((vev c t σ).bind fun x => vtr x.1).out σ fun k => if k = true then vexs c a σ else vexs c b σ
  | .for tg k its body kill, σ => (vits c its σ).out σ fun q => (match vwalk k q.1 with
    | some xs => vforL (fun x σ1 => match vassign tg x σ1 with
      | some σ2 => (vexs c body σ2).kill kill
      | none => .bad) xs (vwipe q.2 kill)
    | none => .bad)
  | .while t body kill, σ => vwhileD (fun σ1 => (vev c t σ1).bind fun x => vtr x.1) (fun σ1 => (vexs c body σ1).kill kill) (vwipe σ kill)
  | .brk, σ => .bk σ
  | .cnt, σ => .ct σ
  | .pass, σ => .nx σ
  | .rai _ _, _ => .bad
  | .rse cls f e, σ => (vevp c e σ).out σ fun q => vrse cls f q
  | .tri body cs bs, σ => (match vexs c body σ with
    | .exc x σ1 => vexh c cs bs x σ1
    | o => o)
noncomputable def vexs (c : VCx) : List S → VEnv → VOut
  | [], σ => .nx σ
  | s :: ss, σ => (vex c s σ).andThen fun σ1 => vexs c ss σ1
noncomputable def vexh (c : VCx) (cs : List (String × Option Nat)) : List (List S) → Exc → VEnv → VOut
  | [], x, σ => .exc x σ
  | b :: bs, x, σ => (match cs with
    | [] => .bad
    | q :: cs => if q.1 = x.cls then ((vexs c b (vbndX q.2 x σ)).noX).kill (slotX q.2) else vexh c cs bs x σ)
end
def vleave : VOut → VR VF
  | .rt p => .ok p
  | .nx _ => .ok (.non, false)
  | .exc x _ => .exc x
  | _ => .bad
def vinit (d : Def) (vs : List Vl) : VEnv := vs.map (fun v => some (v, false)) ++ List.replicate (d.names.length - vs.length) none
def vG (G : String → Option D) : String → Option Vl := fun x => match G x with
  | some d => if d.pure = true then some d.up else none
  | none => none
noncomputable def vrun (T : String → Option Def) (G : String → Option D) : Nat → String → List Vl → VR VF
  | 0, _, _ => .bad
  | k + 1, f, vs => match T f with
    | some d => if vs.length = d.params then vleave (vexs ⟨vrun T G k, vG G⟩ d.body (vinit d vs)) else .bad
    | none => .bad

/-! ### what holds between the two -/
structure EV (G F : Nat → Prop) (base : Nat) (M : Store) (ρ : Env) (σ : VEnv) : Prop where
  clo : Clo M
  lt : ∀ i, F i → i < M.length
  sub : ∀ i, G i → F i
  gb : ∀ i, G i → i < base
  bas : base ≤ M.length
  len : ρ.length = σ.length
  non : ∀ (x : Nat), σ[x]? = some none → ρ[x]? = some none
  val : ∀ (x : Nat) (v : Vl) (fl : Bool), σ[x]? = some (some (v, fl)) → ∃ d, ρ[x]? = some (some d) ∧ RepT M F v d ∧ (fl = true → ∀ i, d = .ref i → F i ∧ base ≤ i) ∧ (fl = false → ∀ i, d = .ref i → ¬ F i)
  dis : ∀ (x y : Nat) (v w : Vl) (i : Nat), x ≠ y → σ[x]? = some (some (v, true)) → σ[y]? = some (some (w, true)) → ρ[x]? = some (some (.ref i)) → ρ[y]? ≠ some (some (.ref i))
structure Fr (base : Nat) (F : Nat → Prop) (M : Store) (F' : Nat → Prop) (M' : Store) : Prop where
  len : M.length ≤ M'.length
  same : ∀ (i : Nat), i < M.length → ¬ (F i ∧ base ≤ i) → M'[i]? = M[i]?
  back : ∀ i, F' i → F i ∨ M.length ≤ i
/-- F without the places of the names X -/
def Fm (F : Nat → Prop) (ρ : Env) (X : List Nat) : Nat → Prop := fun i => F i ∧ ∀ x ∈ X, ρ[x]? ≠ some (some (.ref i))
section
variable {G F F' F'' : Nat → Prop} {base : Nat} {M M' M'' t : Store} {ρ : Env} {σ : VEnv} {X : List Nat}
theorem Fr.refl : Fr base F M F M := ⟨Nat.le_refl _, fun _ _ _ => rfl, fun _ h => .inl h⟩
theorem Fr.trans (a : Fr base F M F' M') (b : Fr base F' M' F'' M'') : Fr base F M F'' M'' := by
  refine ⟨Nat.le_trans a.len b.len, fun i hi hn => ?_, fun i h => ?_⟩
  · rw [b.same i (Nat.lt_of_lt_of_le hi a.len) fun q => ?_, a.same i hi hn]
    rcases a.back i q.1 with z | z
    · exact hn ⟨z, q.2⟩
    · omega
  · rcases b.back i h with z | z
    · exact a.back i z
    · exact .inr (Nat.le_trans a.len z)
theorem Fr.app (h : ∀ i, F' i → F i ∨ M.length ≤ i) : Fr base F M F' (M ++ t) := ⟨by simp, fun i hi _ => List.getElem?_append_left hi, h⟩
theorem Fr.rep {v : Vl} {d : D} (a : Fr base F M F' M') (h : Rep M F v d) : Rep M' F' v d := Rep.mono (fun i hi hn => a.same i hi fun q => hn q.1) (fun i hi q => (a.back i q).resolve_right (by omega)) h
theorem Fr.reps {v : List Vl} {d : List D} (a : Fr base F M F' M') (h : Reps M F v d) : Reps M' F' v d := Reps.mono (fun i hi hn => a.same i hi fun q => hn q.1) (fun i hi q => (a.back i q).resolve_right (by omega)) h
theorem EV.ve (h : EV G F base M ρ σ) (X : List Nat) : VE (Fm F ρ X) M ρ σ X := by
  refine ⟨⟨h.clo, fun i q => h.lt i q.1⟩, h.len, fun x hx v fl e => ?_⟩
  obtain ⟨d, a, b, _⟩ := h.val x v fl e
  refine ⟨d, a, (RepT.mono (fun _ _ _ => rfl) (fun i _ q => q.1) b fun _ _ => rfl).rep fun i z q => ?_⟩
  subst z
  exact q.2 x hx a
theorem vun_get {x y : Nat} : (vun σ x)[y]? = if x = y then (σ[y]?).map (fun o => o.map fun p => (p.1, false)) else σ[y]? := by
  unfold vun
  by_cases h : x = y
  · subst h
    rw [if_pos rfl]
    split
    · rename_i p e
      rw [List.getElem?_set_self (List.getElem?_eq_some_iff.mp e).1, e]
      rfl
    · rename_i e
      cases q : σ[x]? with
      | none => rfl
      | some o =>
        cases o with
        | none => rfl
        | some p => exact absurd q (e p)
  · rw [if_neg h]
    split
    · rw [List.getElem?_set_ne h]
    · rfl
theorem vclear_get (y : Nat) : ∀ (X : List Nat), (vclear σ X)[y]? = if y ∈ X then (σ[y]?).map (fun o => o.map fun p => (p.1, false)) else σ[y]?
  | [] => by simp [vclear]
  | x :: xs => by
    unfold vclear
    rw [vun_get, vclear_get y xs]
    by_cases h : x = y
    · subst h
      simp only [if_true, List.mem_cons, true_or]
      by_cases h2 : x ∈ xs
      · rw [if_pos h2]
        cases σ[x]? with
        | none => rfl
        | some o => cases o <;> rfl
      · rw [if_neg h2]
    · rw [if_neg h]
      have : (y ∈ x :: xs) ↔ y ∈ xs := by simp [Ne.symm h]
      by_cases h2 : y ∈ xs
      · rw [if_pos h2, if_pos (this.mpr h2)]
      · rw [if_neg h2, if_neg fun q => h2 (this.mp q)]
theorem vclear_len : ∀ (X : List Nat), (vclear σ X).length = σ.length
  | [] => rfl
  | x :: xs => by
    unfold vclear vun
    split
    · rw [List.length_set, vclear_len xs]
    · rw [vclear_len xs]
theorem EV.clear (h : EV G F base M ρ σ) (X : List Nat) : EV G (Fm F ρ X) base M ρ (vclear σ X) := by
  have nf : ∀ x ∈ X, ∀ (i : Nat), ρ[x]? = some (some (.ref i)) → F i → ∃ v, σ[x]? = some (some (v, true)) ∧ base ≤ i := fun x hx i e f => by
    cases q : σ[x]? with
    | none =>
      have h1 := (List.getElem?_eq_some_iff.mp e).1
      have h2 := List.getElem?_eq_none_iff.mp q
      have := h.len
      omega
    | some o =>
      cases o with
      | none => rw [h.non x q] at e; cases e
      | some p =>
        obtain ⟨v, fl⟩ := p
        obtain ⟨d, a, b, c1, c2⟩ := h.val x v fl q
        rw [a] at e
        cases e
        cases fl with
        | true => exact ⟨v, rfl, (c1 rfl i rfl).2⟩
        | false => exact absurd f (c2 rfl i rfl)
  refine ⟨h.clo, fun i q => h.lt i q.1, fun i q => ⟨h.sub i q, fun x hx e => ?_⟩, h.gb, h.bas, by rw [vclear_len]; exact h.len, fun x e => ?_, fun x v fl e => ?_, fun x y v w i hxy e1 e2 => ?_⟩
  · obtain ⟨_, _, hb⟩ := nf x hx i e (h.sub i q)
    have := h.gb i q
    omega
  · rw [vclear_get] at e
    split at e
    · cases q : σ[x]? with
      | none => rw [q] at e; cases e
      | some o =>
        cases o with
        | none => exact h.non x q
        | some p => rw [q] at e; cases e
    · exact h.non x e
  · rw [vclear_get] at e
    by_cases hx : x ∈ X
    · rw [if_pos hx] at e
      cases q : σ[x]? with
      | none => rw [q] at e; cases e
      | some o =>
        cases o with
        | none => rw [q] at e; cases e
        | some p =>
          rw [q] at e
          cases e
          obtain ⟨d, a, b, c1, c2⟩ := h.val x p.1 p.2 q
          refine ⟨d, a, RepT.mono (fun _ _ _ => rfl) (fun i _ q => q.1) b fun _ _ => rfl, fun z => (by cases z), fun _ i z f => ?_⟩
          subst z
          exact f.2 x hx a
    · rw [if_neg hx] at e
      obtain ⟨d, a, b, c1, c2⟩ := h.val x v fl e
      refine ⟨d, a, RepT.mono (fun _ _ _ => rfl) (fun i _ q => q.1) b fun _ _ => rfl, fun z i hz => ?_, fun z i hz f => c2 z i hz f.1⟩
      obtain ⟨g1, g2⟩ := c1 z i hz
      refine ⟨⟨g1, fun y hy e3 => ?_⟩, g2⟩
      obtain ⟨u, e4, _⟩ := nf y hy i e3 g1
      subst z hz
      exact h.dis x y v u i (fun q => hx (q ▸ hy)) e e4 a e3
  · rw [vclear_get] at e1 e2
    by_cases hx : x ∈ X
    · rw [if_pos hx] at e1
      cases q : σ[x]? with
      | none => rw [q] at e1; cases e1
      | some o => cases o <;> rw [q] at e1 <;> cases e1
    · by_cases hy : y ∈ X
      · rw [if_pos hy] at e2
        cases q : σ[y]? with
        | none => rw [q] at e2; cases e2
        | some o => cases o <;> rw [q] at e2 <;> cases e2
      · rw [if_neg hx] at e1
        rw [if_neg hy] at e2
        exact h.dis x y v w i hxy e1 e2
/-- the store grows; what is new may be owned -/
theorem EV.app (h : EV G F base M ρ σ) (hc : Clo (M ++ t)) {F' : Nat → Prop} (h1 : ∀ i, F i → F' i) (h2 : ∀ i, F' i → F i ∨ M.length ≤ i) (h3 : ∀ i, F' i → i < (M ++ t).length) : EV G F' base (M ++ t) ρ σ := by
  refine ⟨hc, h3, fun i q => h1 i (h.sub i q), h.gb, by have := h.bas; simp; omega, h.len, h.non, fun x v fl e => ?_, h.dis⟩
  obtain ⟨d, a, b, c1, c2⟩ := h.val x v fl e
  refine ⟨d, a, RepT.mono (fun i hi _ => List.getElem?_append_left hi) (fun i hi q => (h2 i q).resolve_right (by omega)) b fun i z => List.getElem?_append_left (by subst z; exact b.lt), fun z i hz => ⟨h1 i (c1 z i hz).1, (c1 z i hz).2⟩, fun z i hz f => ?_⟩
  rcases h2 i f with q | q
  · exact c2 z i hz q
  · subst hz
    have := b.lt
    omega
theorem vflat_rep {v : Vl} {i : Nat} (h : Rep M F v (.ref i)) (hf : vflat v = true) (F' : Nat → Prop) : RepT M F' v (.ref i) := by
  cases v <;> simp only [vflat] at hf <;> try (cases hf; done)
  case lst vs =>
    simp only [Rep] at h
    obtain ⟨j, ds, z, _, e, h⟩ := h
    obtain ⟨es, q⟩ := Option.isSome_iff_exists.mp hf
    have := h.dns q
    subst this
    exact ⟨j, ds, z, e, Reps.of_dns q⟩
  case dk ks vs =>
    simp only [Rep] at h
    obtain ⟨j, es, z, _, e, g, h⟩ := h
    obtain ⟨fs, q⟩ := Option.isSome_iff_exists.mp hf
    have := h.dns q
    exact ⟨j, es, z, e, g, by rw [this]; exact Reps.of_dns q⟩
/-- behind an expression: the names that its value may share are owned no more -/
theorem EV.keep {p : VF} {d : D} (h : EV G F base M ρ σ) (r : Rep (M ++ t) (Fm F ρ X) p.1 d) (hc : Clo (M ++ t)) (fr : p.2 = true → ∀ i, d = .ref i → M.length ≤ i ∧ RepT (M ++ t) (fun j => Fm F ρ X j ∨ j = i) p.1 d) :
    ∃ F', EV G F' base M ρ (vkeep p X σ) ∧ (∀ i, F' i → F i) ∧ Rep (M ++ t) F' p.1 d ∧ (p.2 = true → ∀ i, d = .ref i → M.length ≤ i ∧ RepT (M ++ t) (fun j => F' j ∨ j = i) p.1 d) := by
  unfold vkeep
  by_cases hk : calm p = true
  · rw [if_pos hk]
    unfold calm at hk
    rw [Bool.or_eq_true] at hk
    rcases hk with hk | hk
    · obtain ⟨e, he⟩ := Option.isSome_iff_exists.mp hk
      have := r.dn he
      subst this
      refine ⟨F, h, fun _ q => q, Rep.of_dn he, fun _ i z => ?_⟩
      subst z
      have := (Vl.dn_pure he).1
      simp [D.pure] at this
    · rw [Bool.and_eq_true] at hk
      have hd : ∀ F' i, d = .ref i → RepT (M ++ t) F' p.1 d := fun F' i z => by
        subst z
        exact vflat_rep r hk.2 F'
      have hr : ∃ i, d = .ref i := by
        have := hk.2
        obtain ⟨v, f⟩ := p
        cases v <;> simp only [vflat] at this <;> try (cases this; done)
        · simp only [Rep] at r; obtain ⟨i, _, z, _⟩ := r; exact ⟨i, z⟩
        · simp only [Rep] at r; obtain ⟨i, _, z, _⟩ := r; exact ⟨i, z⟩
      obtain ⟨i, hi⟩ := hr
      refine ⟨F, h, fun _ q => q, (hd F i hi).rep fun j z f => ?_, fun q i z => ⟨(fr q i z).1, hd _ i z⟩⟩
      have h1 := (fr hk.1 j z).1
      have h2 := h.lt j f
      omega
  · rw [if_neg hk]
    exact ⟨_, h.clear X, fun i q => q.1, r, fr⟩
/-- a slot takes a value -/
theorem EV.put {i : Nat} {p : VF} {d : D} (h : EV G F base M ρ σ) (r : RepT M F p.1 d) (h1 : p.2 = true → ∀ j, d = .ref j → F j ∧ base ≤ j ∧ ∀ (x : Nat) (v : Vl), x ≠ i → σ[x]? = some (some (v, true)) → ρ[x]? ≠ some (some (.ref j))) (h2 : p.2 = false → ∀ j, d = .ref j → ¬ F j) :
    EV G F base M (ρ.set i (some d)) (σ.set i (some p)) := by
  refine ⟨h.clo, h.lt, h.sub, h.gb, h.bas, by simp [h.len], fun x e => ?_, fun x v fl e => ?_, fun x y v w j hxy e1 e2 e3 => ?_⟩
  · by_cases hi : i = x
    · subst hi
      have hl := (List.getElem?_eq_some_iff.mp e).1
      rw [List.length_set] at hl
      rw [List.getElem?_set_self hl] at e
      cases e
    · rw [List.getElem?_set_ne hi] at e ⊢
      exact h.non x e
  · by_cases hi : i = x
    · subst hi
      have hl := (List.getElem?_eq_some_iff.mp e).1
      rw [List.length_set] at hl
      rw [List.getElem?_set_self hl] at e
      cases e
      exact ⟨d, List.getElem?_set_self (by rw [h.len]; exact hl), r, fun z j q => ⟨(h1 z j q).1, (h1 z j q).2.1⟩, h2⟩
    · rw [List.getElem?_set_ne hi] at e ⊢
      exact h.val x v fl e
  · by_cases hi : i = x
    · subst hi
      have hl := (List.getElem?_eq_some_iff.mp e1).1
      rw [List.length_set] at hl
      rw [List.getElem?_set_self hl] at e1
      rw [List.getElem?_set_self (by rw [h.len]; exact hl)] at e3
      cases e1
      cases e3
      rw [List.getElem?_set_ne hxy] at e2 ⊢
      exact (h1 rfl j rfl).2.2 y w (fun q => hxy q.symm) e2
    · rw [List.getElem?_set_ne hi] at e1 e3
      by_cases hy : i = y
      · subst hy
        have hl := (List.getElem?_eq_some_iff.mp e2).1
        rw [List.length_set] at hl
        rw [List.getElem?_set_self hl] at e2
        rw [List.getElem?_set_self (by rw [h.len]; exact hl)]
        cases e2
        intro z
        cases z
        exact (h1 rfl j rfl).2.2 x v (fun q => hxy q) e1 e3
      · rw [List.getElem?_set_ne hy] at e2 ⊢
        exact h.dis x y v w j hxy e1 e2 e3
theorem EV.none {i : Nat} (h : EV G F base M ρ σ) : EV G F base M (ρ.set i none) (σ.set i none) := by
  refine ⟨h.clo, h.lt, h.sub, h.gb, h.bas, by simp [h.len], fun x e => ?_, fun x v fl e => ?_, fun x y v w j hxy e1 e2 e3 => ?_⟩
  · by_cases hi : i = x
    · subst hi
      have hl := (List.getElem?_eq_some_iff.mp e).1
      rw [List.length_set] at hl
      rw [List.getElem?_set_self (by rw [h.len]; exact hl)]
    · rw [List.getElem?_set_ne hi] at e ⊢
      exact h.non x e
  · by_cases hi : i = x
    · subst hi
      have hl := (List.getElem?_eq_some_iff.mp e).1
      rw [List.length_set] at hl
      rw [List.getElem?_set_self hl] at e
      cases e
    · rw [List.getElem?_set_ne hi] at e ⊢
      exact h.val x v fl e
  · by_cases hi : i = x
    · subst hi
      have hl := (List.getElem?_eq_some_iff.mp e1).1
      rw [List.length_set] at hl
      rw [List.getElem?_set_self hl] at e1
      cases e1
    · by_cases hy : i = y
      · subst hy
        have hl := (List.getElem?_eq_some_iff.mp e2).1
        rw [List.length_set] at hl
        rw [List.getElem?_set_self hl] at e2
        cases e2
      · rw [List.getElem?_set_ne hi] at e1 e3
        rw [List.getElem?_set_ne hy] at e2 ⊢
        exact h.dis x y v w j hxy e1 e2 e3
theorem EV.wipe (h : EV G F base M ρ σ) : ∀ ks, EV G F base M (wipe ρ ks) (vwipe σ ks)
  | [] => h
  | k :: ks => (EV.wipe h ks).none
theorem EV.many : ∀ {is : List Nat} {vs : List Vl} {ds : List D} {ρ : Env} {σ σ' : VEnv}, EV G F base M ρ σ → Reps M F vs ds → vsetMany σ is vs = some σ' → ∃ ρ', setMany ρ is ds = some ρ' ∧ EV G F base M ρ' σ'
  | [], [], ds, ρ, σ, σ', h, r, e => by
    simp only [Reps] at r
    subst r
    cases e
    exact ⟨ρ, rfl, h⟩
  | i :: is, v :: vs, ds, ρ, σ, σ', h, r, e => by
    simp only [Reps] at r
    obtain ⟨d, r', rfl, r1, r2⟩ := r
    exact EV.many (is := is) (h.put (p := (v, false)) r1.top (fun q => by cases q) fun _ j z => by subst z; exact r1.nf) r2 e
  | [], _ :: _, _, _, _, _, _, _, e => by cases e
  | _ :: _, [], _, _, _, _, _, _, e => by cases e
theorem EV.assign {tg : Tg} {v : Vl} {d : D} {σ' : VEnv} (h : EV G F base M ρ σ) (r : Rep M F v d) (e : vassign tg v σ = some σ') : ∃ ρ', assignT M tg d ρ = some ρ' ∧ EV G F base M ρ' σ' := by
  cases tg with
  | one i =>
    cases e
    exact ⟨_, rfl, h.put (p := (v, false)) r.top (fun q => by cases q) fun _ j z => by subst z; exact r.nf⟩
  | many is =>
    cases v <;> try (cases e; done)
    simp only [Rep] at r
    obtain ⟨ds, rfl, r⟩ := r
    exact EV.many h r e
end
end Sk
end
section
set_option Elab.async false
set_option linter.all false
set_option autoImplicit false
set_option maxRecDepth 100000
/-! SkV7: statements on values say what the store's evaluator does. -/
namespace Sk
open PySem (Str)
def SO (G F : Nat → Prop) (base : Nat) (M : Store) : VOut → Out → Prop
  | .nx σ', o => ∃ ρ' M' F', o = .nx ρ' M' ∧ EV G F' base M' ρ' σ' ∧ Fr base F M F' M'
  | .bk σ', o => ∃ ρ' M' F', o = .bk ρ' M' ∧ EV G F' base M' ρ' σ' ∧ Fr base F M F' M'
  | .ct σ', o => ∃ ρ' M' F', o = .ct ρ' M' ∧ EV G F' base M' ρ' σ' ∧ Fr base F M F' M'
  | .exc x σ', o => x.pur ∧ ∃ ρ' M' F', o = .exc x ρ' M' ∧ EV G F' base M' ρ' σ' ∧ Fr base F M F' M'
  | .rt p, o => ∃ d M' F', o = .rt d M' ∧ Clo M' ∧ Fr base F M F' M' ∧ Rep M' G p.1 d ∧ (p.2 = true → ∀ i, d = .ref i → base ≤ i ∧ RepT M' (fun j => G j ∨ j = i) p.1 d)
  | .bad, _ => True
section
variable {c : Cx} {vc : VCx} {G F F' : Nat → Prop} {base : Nat} {M M' t : Store} {ρ ρ' : Env} {σ σ' : VEnv}
theorem SO.mono {a : VOut} {b : Out} (f : Fr base F M F' M') (h : SO G F' base M' a b) : SO G F base M a b := by
  cases a with
  | nx σ => obtain ⟨r, m, k, e, x, y⟩ := h; exact ⟨r, m, k, e, x, f.trans y⟩
  | bk σ => obtain ⟨r, m, k, e, x, y⟩ := h; exact ⟨r, m, k, e, x, f.trans y⟩
  | ct σ => obtain ⟨r, m, k, e, x, y⟩ := h; exact ⟨r, m, k, e, x, f.trans y⟩
  | exc x σ => obtain ⟨p, r, m, k, e, x, y⟩ := h; exact ⟨p, r, m, k, e, x, f.trans y⟩
  | rt p => obtain ⟨r, m, k, e, x, y, z⟩ := h; exact ⟨r, m, k, e, x, f.trans y, z⟩
  | bad => trivial
theorem SO.andThen {a : VOut} {b : Out} {f : VEnv → VOut} {g : Env → Store → Out} (h : SO G F base M a b) (hf : ∀ ρ' M' F' σ', EV G F' base M' ρ' σ' → Fr base F M F' M' → SO G F' base M' (f σ') (g ρ' M')) : SO G F base M (a.andThen f) (b.andThen g) := by
  cases a with
  | nx σ => obtain ⟨r, m, k, e, x, y⟩ := h; subst e; exact (hf r m k σ x y).mono y
  | bk σ => obtain ⟨r, m, k, e, x, y⟩ := h; subst e; exact ⟨r, m, k, rfl, x, y⟩
  | ct σ => obtain ⟨r, m, k, e, x, y⟩ := h; subst e; exact ⟨r, m, k, rfl, x, y⟩
  | exc x σ => obtain ⟨p, r, m, k, e, x, y⟩ := h; subst e; exact ⟨p, r, m, k, rfl, x, y⟩
  | rt p => obtain ⟨r, m, k, e, x, y, z⟩ := h; subst e; exact ⟨r, m, k, rfl, x, y, z⟩
  | bad => trivial
theorem SO.kill {a : VOut} {b : Out} (h : SO G F base M a b) (ks : List Nat) : SO G F base M (a.kill ks) (b.kill ks) := by
  cases a with
  | nx σ => obtain ⟨r, m, k, e, x, y⟩ := h; subst e; exact ⟨_, m, k, rfl, x.wipe ks, y⟩
  | bk σ => obtain ⟨r, m, k, e, x, y⟩ := h; subst e; exact ⟨_, m, k, rfl, x.wipe ks, y⟩
  | ct σ => obtain ⟨r, m, k, e, x, y⟩ := h; subst e; exact ⟨_, m, k, rfl, x.wipe ks, y⟩
  | exc x σ => obtain ⟨p, r, m, k, e, x, y⟩ := h; subst e; exact ⟨p, r, m, k, rfl, x, y⟩
  | rt p => obtain ⟨r, m, k, e, x, y, z⟩ := h; subst e; exact ⟨r, m, k, rfl, x, y, z⟩
  | bad => trivial
theorem SO.here (h : EV G F base M ρ σ) : SO G F base M (.nx σ) (.nx ρ M) := ⟨ρ, M, F, rfl, h, .refl⟩
theorem Rep.upd {n : Nat} {o : O} {v : Vl} {d : D} (h : Rep M F v d) (hn : F n) : Rep (M.set n o) F v d := Rep.mono (fun i _ q => List.getElem?_set_ne fun e => q (e ▸ hn)) (fun _ _ q => q) h
theorem Reps.upd {n : Nat} {o : O} {v : List Vl} {d : List D} (h : Reps M F v d) (hn : F n) : Reps (M.set n o) F v d := Reps.mono (fun i _ q => List.getElem?_set_ne fun e => q (e ▸ hn)) (fun _ _ q => q) h
theorem EV.upd {x n : Nat} {u v : Vl} {o : O} (h : EV G F base M ρ σ) (e : σ[x]? = some (some (v, true))) (a : ρ[x]? = some (some (.ref n))) (ho : o.bw M.length) (hr : RepT (M.set n o) F u (.ref n)) :
    EV G F base (M.set n o) ρ (σ.set x (some (u, true))) ∧ Fr base F M F (M.set n o) := by
  obtain ⟨d, a1, b1, c1, _⟩ := h.val x v true e
  rw [a] at a1
  cases a1
  obtain ⟨fn, bn⟩ := c1 rfl n rfl
  have hx : x < σ.length := (List.getElem?_eq_some_iff.mp e).1
  refine ⟨⟨h.clo.set ho, fun i q => by rw [List.length_set]; exact h.lt i q, h.sub, h.gb, by rw [List.length_set]; exact h.bas, by rw [List.length_set]; exact h.len, fun y q => ?_, fun y w fl q => ?_, fun y z v1 w1 i hyz e1 e2 => ?_⟩, by rw [List.length_set]; exact Nat.le_refl _, fun i hi q => List.getElem?_set_ne fun z => q (by subst z; exact ⟨fn, bn⟩), fun i q => .inl q⟩
  · by_cases hy : x = y
    · subst hy
      rw [List.getElem?_set_self hx] at q
      cases q
    · rw [List.getElem?_set_ne hy] at q
      exact h.non y q
  · by_cases hy : x = y
    · subst hy
      rw [List.getElem?_set_self hx] at q
      cases q
      exact ⟨.ref n, a, hr, fun _ i z => by cases z; exact ⟨fn, bn⟩, fun z => by cases z⟩
    · rw [List.getElem?_set_ne hy] at q
      obtain ⟨d, a2, b2, c2, c3⟩ := h.val y w fl q
      refine ⟨d, a2, RepT.mono (fun i _ q => List.getElem?_set_ne fun e => q (e ▸ fn)) (fun _ _ q => q) b2 fun i z => List.getElem?_set_ne fun e' => ?_, c2, c3⟩
      subst e' z
      cases fl with
      | true => exact h.dis x y v w n hy e q a a2
      | false => exact c3 rfl n rfl fn
  · have s1 : ∃ v', σ[y]? = some (some (v', true)) := by
      by_cases hy : x = y
      · subst hy; exact ⟨v, e⟩
      · rw [List.getElem?_set_ne hy] at e1; exact ⟨v1, e1⟩
    have s2 : ∃ v', σ[z]? = some (some (v', true)) := by
      by_cases hy : x = z
      · subst hy; exact ⟨v, e⟩
      · rw [List.getElem?_set_ne hy] at e2; exact ⟨w1, e2⟩
    obtain ⟨p, s1⟩ := s1
    obtain ⟨q, s2⟩ := s2
    exact h.dis y z p q i hyz s1 s2
/-- an owned one: where it stands -/
theorem EV.own {x : Nat} {v : Vl} (h : EV G F base M ρ σ) (e : σ[x]? = some (some (v, true))) (hf : vflat v = true ∨ (∃ vs, v = .lst vs) ∨ ∃ ks vs, v = .dk ks vs) : ∃ n, ρ[x]? = some (some (.ref n)) ∧ RepT M F v (.ref n) ∧ F n ∧ base ≤ n := by
  obtain ⟨d, a, b, c1, _⟩ := h.val x v true e
  have hd : ∃ n, d = .ref n := by
    cases v <;> simp only [vflat] at hf <;> first
      | (rcases hf with z | ⟨_, z⟩ | ⟨_, _, z⟩ <;> cases z; done)
      | skip
    · obtain ⟨i, _, z, _⟩ := b; exact ⟨i, z⟩
    · obtain ⟨i, _, z, _⟩ := b; exact ⟨i, z⟩
  obtain ⟨n, rfl⟩ := hd
  exact ⟨n, a, b, c1 rfl n rfl⟩
/-- what a statement's expression gives -/
def RS (G F : Nat → Prop) (base : Nat) (M : Store) (ρ : Env) : VR (VF × VEnv) → Res D → Prop
  | .ok (p, σ1), r => ∃ d M1, r = .ok d M1 ∧ (∃ F1, EV G F1 base M1 ρ σ1 ∧ Fr base F M F1 M1 ∧ Rep M1 F1 p.1 d) ∧
      ∃ F2, EV G F2 base M1 ρ σ1 ∧ Fr base F M F2 M1 ∧ RepT M1 F2 p.1 d ∧ (p.2 = true → ∀ j, d = .ref j → F2 j ∧ base ≤ j ∧ ∀ (x : Nat) (v : Vl), σ1[x]? = some (some (v, true)) → ρ[x]? ≠ some (some (.ref j))) ∧ (p.2 = false → ∀ j, d = .ref j → ¬ F2 j)
  | .exc x, r => x.pur ∧ r = .exc x M
  | .bad, _ => True
theorem rs_of {p : VF} {d : D} {X : List Nat} (h : EV G F base M ρ σ) (r : Rep (M ++ t) (Fm F ρ X) p.1 d) (hc : Clo (M ++ t)) (fr : p.2 = true → ∀ i, d = .ref i → M.length ≤ i ∧ RepT (M ++ t) (fun j => Fm F ρ X j ∨ j = i) p.1 d) :
    RS G F base M ρ (.ok (p, vkeep p X σ)) (.ok d (M ++ t)) := by
  obtain ⟨F', h1, h2, h3, h4⟩ := h.keep r hc fr
  have hl : ∀ i, F' i → i < (M ++ t).length := fun i q => by have := h1.lt i q; simp; omega
  have hA : EV G F' base (M ++ t) ρ (vkeep p X σ) := h1.app hc (fun _ q => q) (fun _ q => .inl q) hl
  refine ⟨d, M ++ t, rfl, ⟨F', hA, Fr.app fun i q => .inl (h2 i q), h3⟩, ?_⟩
  by_cases hp : p.2 = true ∧ ∃ i, d = .ref i
  · obtain ⟨hp, i, rfl⟩ := hp
    obtain ⟨k1, k2⟩ := h4 hp i rfl
    have hi : i < (M ++ t).length := h3.top.lt
    refine ⟨fun j => F' j ∨ j = i, h1.app hc (fun _ q => .inl q) (fun j q => q.imp id fun z => by omega) fun j q => ?_, Fr.app fun j q => ?_, k2, fun _ j z => ?_, fun z => by rw [hp] at z; cases z⟩
    · rcases q with q | q
      · exact hl j q
      · rw [q]; exact hi
    · rcases q with q | q
      · exact .inl (h2 j q)
      · exact .inr (by omega)
    · cases z
      refine ⟨.inr rfl, by have := h.bas; omega, fun x v e1 e2 => ?_⟩
      obtain ⟨d, a, b, _⟩ := h1.val x v true e1
      rw [a] at e2
      cases e2
      have := b.lt
      omega
  · refine ⟨F', hA, Fr.app fun i q => .inl (h2 i q), h3.top, fun z j e => absurd ⟨z, j, e⟩ hp, fun _ j e => ?_⟩
    subst e
    exact h3.nf
theorem vevg_ok (hc : CxOk c vc) (e : E) (h : EV G F base M ρ σ) : RS G F base M ρ ((vev vc e σ).bind fun p => .ok (p, vkeep p e.vars σ)) (evg c e ρ M) := by
  have hv := h.ve e.vars
  have he := re_gc hv.st (vev_ok hc e hv)
  unfold evg
  cases q : vev vc e σ with
  | bad => exact trivial
  | exc x =>
    have h2 := vev_ok hc e hv
    rw [q] at h2
    obtain ⟨p, t, a, b⟩ := h2
    rw [a]
    exact ⟨p, by simp [Res.gc]⟩
  | ok p =>
    rw [q] at he
    obtain ⟨d, t, a, b, c', e'⟩ := he
    rw [a]
    exact rs_of h c' b e'
theorem vevp_ok (hc : CxOk c vc) (e : E) (h : EV G F base M ρ σ) : RS G F base M ρ (vevp vc e σ) (evg c e ρ M) := by
  unfold vevp
  split
  · rename_i x es
    have hv := (h.ve (E.varss es))
    have ha := vevs_ok hc es hv
    cases q : vevs vc es σ with
    | bad => exact trivial
    | exc y => exact trivial
    | ok vs =>
      rw [q] at ha
      obtain ⟨das, t, a1, a2, a3⟩ := ha
      show RS G F base M ρ (match σ[x]? with
        | some (some (.lst xs, true)) => (match vpopN xs vs with
          | some k => (match xs[k]? with
            | some v => .ok ((v, false), σ.set x (some (.lst (xs.eraseIdx k), true)))
            | none => .bad)
          | none => .bad)
        | _ => .bad) _
      split
      rotate_left
      · exact trivial
      rename_i xs ex
      split
      rotate_left
      · exact trivial
      rename_i k ek
      split
      rotate_left
      · exact trivial
      rename_i v ev0
      obtain ⟨n, o1, o2, o3, o4⟩ := h.own ex (.inr (.inl ⟨xs, rfl⟩))
      obtain ⟨i, ds, z, g1, g2⟩ := o2
      cases z
      have hn : n < M.length := h.lt n o3
      obtain ⟨d, d1, d2⟩ := g2.get ev0
      have gt : (M ++ t)[n]? = some (.lst ds) := by rw [List.getElem?_append_left hn]; exact g1
      -- the call itself
      have hm : mthD .pop (.ref n) das (M ++ t) = .ok d ((M ++ t).set n (.lst (ds.eraseIdx k))) := by
        unfold vpopN at ek
        split at ek
        · simp only [Reps] at a3
          subst a3
          cases ek
          rw [← g2.length] at d1 ⊢
          simp only [mthD, gt, d1, List.eraseIdx_length_sub_one]
        · obtain ⟨dj, rfl, r⟩ := a3.one_of
          simp only [Rep] at r
          subst r
          rw [← g2.length] at ek
          simp only [mthD, gt, ek, d1]
        · cases ek
      have hset : (M ++ t).set n (.lst (ds.eraseIdx k)) = M.set n (.lst (ds.eraseIdx k)) ++ t := by
        rw [List.set_append_left _ _ hn]
      have hev : ev c (.mth .pop (.var x) es) ρ M = .ok d (M.set n (.lst (ds.eraseIdx k)) ++ t) := by
        unfold ev
        have e1 : ev c (.var x) ρ M = .ok (.ref n) M := by unfold ev; rw [o1]
        rw [e1, rbind_ok]
        simp only [tyM, isLst, g1, if_true]
        rw [a1, rbind_ok, hm, hset]
      have hb : D.bws M.length (ds.eraseIdx k) := (g2.eraseIdx k).bws
      obtain ⟨u1, u2⟩ := h.upd (u := .lst (xs.eraseIdx k)) (o := .lst (ds.eraseIdx k)) ex o1 hb ⟨n, _, rfl, by rw [List.getElem?_set_self hn], (g2.eraseIdx k).upd o3⟩
      have hc1 : Clo (M.set n (.lst (ds.eraseIdx k)) ++ t) := by
        rw [← hset]
        exact a2.set (D.bws_mono (by simp) hb)
      have hr : Rep (M.set n (.lst (ds.eraseIdx k))) F v d := d2.upd o3
      have hre : RE F (M.set n (.lst (ds.eraseIdx k))) (.ok (v, false)) (.ok d (M.set n (.lst (ds.eraseIdx k)) ++ t)) := ⟨d, t, rfl, hc1, hr.app, fun q => by cases q⟩
      have hg := re_gc ⟨u1.clo, u1.lt⟩ hre
      obtain ⟨d', t', b1, b2, b3, _⟩ := hg
      have hl : (M.set n (.lst (ds.eraseIdx k))).length = M.length := by rw [List.length_set]
      unfold evg
      rw [hev, ← hl, b1]
      have hl2 : ∀ i, F i → i < (M.set n (.lst (ds.eraseIdx k)) ++ t').length := fun i q => by have := u1.lt i q; simp at this ⊢; omega
      have hA := u1.app b2 (F' := F) (fun _ q => q) (fun _ q => .inl q) hl2
      have hF := u2.trans (Fr.app (t := t') (F' := F) fun i q => .inl q)
      exact ⟨d', _, rfl, ⟨F, hA, hF, b3⟩, F, hA, hF, b3.top, fun z => (by cases z), fun _ j z => by subst z; exact b3.nf⟩
  · exact vevg_ok hc _ h
end
end Sk
end
section
set_option Elab.async false
set_option linter.all false
set_option autoImplicit false
set_option maxRecDepth 100000
/-! SkV8: statements, loops, calls. -/
namespace Sk
open PySem (Str)
section
variable {c : Cx} {vc : VCx} {G F F' : Nat → Prop} {base : Nat} {M M' t : Store} {ρ ρ' : Env} {σ σ' : VEnv}
theorem SO.out {r : VR (VF × VEnv)} {q : Res D} {f : VF × VEnv → VOut} {g : D → Store → Out} (h : EV G F base M ρ σ) (hr : RS G F base M ρ r q)
    (hf : ∀ (p : VF) (σ1 : VEnv) (d : D) (M1 : Store), r = .ok (p, σ1) → (∃ F1, EV G F1 base M1 ρ σ1 ∧ Fr base F M F1 M1 ∧ Rep M1 F1 p.1 d) →
      (∃ F2, EV G F2 base M1 ρ σ1 ∧ Fr base F M F2 M1 ∧ RepT M1 F2 p.1 d ∧ (p.2 = true → ∀ j, d = .ref j → F2 j ∧ base ≤ j ∧ ∀ (x : Nat) (v : Vl), σ1[x]? = some (some (v, true)) → ρ[x]? ≠ some (some (.ref j))) ∧ (p.2 = false → ∀ j, d = .ref j → ¬ F2 j)) → SO G F base M (f (p, σ1)) (g d M1)) :
    SO G F base M (r.out σ f) (q.out ρ g) := by
  cases r with
  | bad => trivial
  | exc x =>
    obtain ⟨p, e⟩ := hr
    subst e
    exact ⟨p, ρ, M, F, rfl, h, .refl⟩
  | ok a =>
    obtain ⟨p, σ1⟩ := a
    obtain ⟨d, M1, e, h1, h2⟩ := hr
    subst e
    exact hf p σ1 d M1 rfl h1 h2
theorem out_bind {r : VR VF} {f : VF → VF × VEnv} {g : VF × VEnv → VOut} : (r.bind fun p => .ok (f p)).out σ g = r.out σ fun p => g (f p) := by
  cases r <;> rfl
theorem putD_lst {n : Nat} {ds : List D} {q : Int} {j : Nat} {x : D} (h : M[n]? = some (.lst ds)) (e : ixN ds.length q = some j) : putD n (.int q) x M = some (M.set n (.lst (ds.set j x))) := by
  simp only [putD, h, e]
theorem setV_of {ks : List Ky} {k : Ky} {v : Vl} {d : D} : ∀ {es : List (Ky × D)} {vs : List Vl}, es.map (·.1) = ks → Reps M F vs (es.map (·.2)) → Rep M F v d →
    (es.map fun p => if p.1 = k then (k, d) else p).map (·.1) = ks ∧ Reps M F (setV ks vs k v) ((es.map fun p => if p.1 = k then (k, d) else p).map (·.2)) := by
  induction ks with
  | nil =>
    intro es vs h1 h2 h3
    have : es = [] := by simpa using h1
    subst this
    exact ⟨rfl, by simp [setV, Reps]⟩
  | cons q ks ih =>
    intro es vs h1 h2 h3
    cases es with
    | nil => simp at h1
    | cons e es =>
      simp only [List.map_cons, List.cons.injEq] at h1
      obtain ⟨h1, h4⟩ := h1
      cases vs with
      | nil => simp [Reps] at h2
      | cons u vs =>
        simp only [List.map_cons, Reps, List.cons.injEq] at h2
        obtain ⟨d', r, ⟨a, b⟩, c', f⟩ := h2
        subst b
        subst h1
        obtain ⟨i1, i2⟩ := ih h4 f h3
        simp only [List.map_cons, setV]
        refine ⟨?_, ?_⟩
        · rw [i1]
          by_cases hk : e.1 = k
          · rw [if_pos hk, ← hk]
          · rw [if_neg hk]
        · refine Reps.cons ?_ i2
          by_cases hk : e.1 = k
          · rw [if_pos hk, if_pos hk]; exact h3
          · rw [if_neg hk, if_neg hk, a]; exact c'
theorem putV_of {ks : List Ky} {k : Ky} {v : Vl} {d : D} {es : List (Ky × D)} {vs : List Vl} (h1 : es.map (·.1) = ks) (h2 : Reps M F vs (es.map (·.2))) (h3 : Rep M F v d) :
    (putK es k d).map (·.1) = (putV ks vs k v).1 ∧ Reps M F (putV ks vs k v).2 ((putK es k d).map (·.2)) := by
  have hg := getV_of (k := k) h1 h2
  unfold putK putV
  cases z : getV ks vs k with
  | none =>
    rw [z] at hg
    simp only at hg
    rw [hg]
    simp only [List.map_append, List.map_cons, List.map_nil, h1]
    exact ⟨trivial, h2.append (.one h3)⟩
  | some u =>
    rw [z] at hg
    obtain ⟨d', e1, e2⟩ := hg
    rw [e1]
    exact setV_of h1 h2 h3
/-- an owned one is changed -/
theorem upd_ok {o : E} {f : Vl → Option Vl} (h : EV G F base M ρ σ) (hne : vupd σ o f ≠ .bad) : ∃ x v u, o = .var x ∧ σ[x]? = some (some (v, true)) ∧ f v = some u ∧ vupd σ o f = .nx (σ.set x (some (u, true))) := by
  unfold vupd at hne ⊢
  cases o <;> simp only [vtgt] at hne ⊢ <;> try (exact absurd rfl hne)
  rename_i x
  split at hne
  · rename_i v e
    split at hne
    · rename_i u e2
      exact ⟨x, v, u, rfl, e, e2, by simp only [e2]⟩
    · exact absurd rfl hne
  · exact absurd rfl hne
theorem ev_var {x : Nat} {d : D} (e : ρ[x]? = some (some d)) : ev c (.var x) ρ M = .ok d M := by unfold ev; rw [e]
theorem vout_bad {a : VOut} {b : Out} (h : a = .bad) : SO G F base M a b := by subst h; trivial
theorem vput_kind {v k p u : Vl} (h : vput v k p = some u) : (∃ xs q j, v = .lst xs ∧ k = .int q ∧ ixN xs.length q = some j ∧ u = .lst (xs.set j p)) ∨ (∃ ks vs q, v = .dk ks vs ∧ vkey k = some q ∧ ks.length < lim ∧ u = .dk (putV ks vs q p).1 (putV ks vs q p).2) := by
  unfold vput at h
  split at h
  · split at h
    · split at h
      · rename_i e
        cases h
        exact .inl ⟨_, _, _, rfl, rfl, e, rfl⟩
      · cases h
    · cases h
  · split at h
    · rename_i e
      split at h
      · rename_i hl
        cases h
        exact .inr ⟨_, _, _, rfl, e, hl, rfl⟩
      · cases h
    · cases h
  · cases h
theorem vapp_kind {v p u : Vl} (h : vapp v p = some u) : ∃ xs, p = .lst xs ∧ xs.length < lim ∧ u = .lst (xs ++ [v]) := by
  unfold vapp at h
  split at h
  · split at h
    · cases h; exact ⟨_, rfl, by assumption, rfl⟩
    · cases h
  · cases h
theorem vext_kind {v p u : Vl} (h : vext v p = some u) : ∃ xs ys, p = .lst xs ∧ v = .lst ys ∧ xs.length + ys.length ≤ lim ∧ (Vl.dns ys).isSome = true ∧ u = .lst (xs ++ ys) := by
  unfold vext at h
  split at h
  · split at h
    · rename_i q; cases h; exact ⟨_, _, rfl, rfl, q.1, q.2, rfl⟩
    · cases h
  · cases h
theorem own_lst {o : E} (h : EV G F base M ρ σ) (e : vown σ o = true) : ∃ x n ds, o = .var x ∧ ρ[x]? = some (some (.ref n)) ∧ M[n]? = some (.lst ds) := by
  unfold vown at e
  cases o <;> simp only [vtgt, Bool.false_eq_true] at e
  rename_i x
  split at e
  · rename_i xs q
    obtain ⟨n, a, b, _⟩ := h.own q (.inr (.inl ⟨xs, rfl⟩))
    obtain ⟨i, ds, z, g, _⟩ := b
    cases z
    exact ⟨x, n, ds, rfl, a, g⟩
  · cases e
theorem so_app (hc : CxOk c vc) (hb : c.base = base) (o e : E) (h : EV G F base M ρ σ) : SO G F base M (vex vc (.app o e) σ) (ex c (.app o e) ρ M) := by
  unfold vex ex
  split
  rotate_left
  · trivial
  rename_i hw
  obtain ⟨x, n, ds, rfl, o1, o2⟩ := own_lst h hw
  rw [ev_var o1]
  show SO G F base M _ (if isLst M (.ref n) = true ∧ M.length = M.length then (evg c e ρ M).out ρ _ else .bad)
  rw [if_pos ⟨by simp only [isLst, o2], rfl⟩]
  rw [← out_bind (f := fun p => (p, vkeep p e.vars σ)) (g := fun q => vupd q.2 (.var x) (vapp q.1.1))]
  refine SO.out h (vevg_ok hc e h) fun p σ1 d M1 _ ⟨F1, h1, f1, r1⟩ _ => ?_
  cases hq : vupd σ1 (.var x) (vapp p.1) with
  | bad => trivial
  | _ =>
    obtain ⟨y, v, u, ey, ex, ef, eu⟩ := upd_ok h1 (show vupd σ1 (.var x) (vapp p.1) ≠ .bad by rw [hq]; intro z; cases z)
    cases ey
    rw [← hq]
    rw [eu]
    obtain ⟨xs, rfl, hl, rfl⟩ := vapp_kind ef
    obtain ⟨m, a1, a2, a3, a4⟩ := h1.own ex (.inr (.inl ⟨xs, rfl⟩))
    rw [o1] at a1
    cases a1
    obtain ⟨i, es, z, g1, g2⟩ := a2
    cases z
    have ok : okIn c n d = true := by unfold okIn; rw [hb]; simp [a4]
    simp only [g1]
    rw [if_pos ⟨by rw [g2.length]; exact hl, ok⟩]
    have hr : Reps M1 F1 (xs ++ [p.1]) (es ++ [d]) := g2.append (.one r1)
    obtain ⟨u1, u2⟩ := h1.upd (u := .lst (xs ++ [p.1])) (o := .lst (es ++ [d])) ex o1 hr.bws ⟨n, _, rfl, by rw [List.getElem?_set_self (h1.lt n a3)], hr.upd a3⟩
    exact ⟨ρ, _, F1, rfl, u1, f1.trans u2⟩
theorem so_rev (o : E) (h : EV G F base M ρ σ) : SO G F base M (vex vc (.rev o) σ) (ex c (.rev o) ρ M) := by
  unfold vex ex
  cases hq : vupd σ o vrev with
  | bad => trivial
  | _ =>
    obtain ⟨x, v, u, rfl, ex, ef, eu⟩ := upd_ok h (show vupd σ o vrev ≠ .bad by rw [hq]; intro z; cases z)
    rw [← hq, eu]
    have hv : ∃ xs, v = .lst xs ∧ u = .lst xs.reverse := by
      unfold vrev at ef
      split at ef
      · cases ef; exact ⟨_, rfl, rfl⟩
      · cases ef
    obtain ⟨xs, rfl, rfl⟩ := hv
    obtain ⟨n, a1, a2, a3, a4⟩ := h.own ex (.inr (.inl ⟨xs, rfl⟩))
    obtain ⟨i, es, z, g1, g2⟩ := a2
    cases z
    rw [ev_var a1]
    simp only [Res.out, g1]
    obtain ⟨u1, u2⟩ := h.upd (u := .lst xs.reverse) (o := .lst es.reverse) ex a1 g2.reverse.bws ⟨n, _, rfl, by rw [List.getElem?_set_self (h.lt n a3)], g2.reverse.upd a3⟩
    exact ⟨ρ, _, F, rfl, u1, u2⟩
theorem so_ext (hc : CxOk c vc) (o e : E) (h : EV G F base M ρ σ) : SO G F base M (vex vc (.ext o e) σ) (ex c (.ext o e) ρ M) := by
  unfold vex ex
  split
  rotate_left
  · trivial
  rename_i hw
  obtain ⟨x, n, ds, rfl, o1, o2⟩ := own_lst h hw
  rw [ev_var o1]
  show SO G F base M _ (if isLst M (.ref n) = true then (ev c e ρ M).out ρ _ else .bad)
  rw [if_pos (by simp only [isLst, o2])]
  have hv := h.ve e.vars
  have he := vev_ok hc e hv
  cases q : vev vc e σ with
  | bad => trivial
  | exc x =>
    rw [q] at he
    obtain ⟨p, t, a, b⟩ := he
    rw [a]
    have hl : ∀ i, F i → i < (M ++ t).length := fun i q => by have := h.lt i q; simp; omega
    exact ⟨p, ρ, _, F, rfl, h.app b (fun _ q => q) (fun _ q => .inl q) hl, Fr.app fun i q => .inl q⟩
  | ok p =>
    rw [q] at he
    obtain ⟨d, t, a, b, r, _⟩ := he
    rw [a]
    show SO G F base M (vupd σ (.var x) (vext p.1)) _
    cases hq : vupd σ (.var x) (vext p.1) with
    | bad => trivial
    | _ =>
      obtain ⟨y, v, u, ey, ex, ef, eu⟩ := upd_ok h (show vupd σ (.var x) (vext p.1) ≠ .bad by rw [hq]; intro z; cases z)
      cases ey
      rw [← hq, eu]
      obtain ⟨xs, ys, rfl, hp, hl, hd, rfl⟩ := vext_kind ef
      obtain ⟨m, a1, a2, a3, a4⟩ := h.own ex (.inr (.inl ⟨xs, rfl⟩))
      rw [o1] at a1
      cases a1
      obtain ⟨i, es, z, g1, g2⟩ := a2
      cases z
      rw [hp] at r
      simp only [Rep] at r
      obtain ⟨m, fs, rfl, _, k1, k2⟩ := r
      obtain ⟨fs', hfs⟩ := Option.isSome_iff_exists.mp hd
      have e2 := k2.dns hfs
      subst e2
      have hn : n < M.length := h.lt n a3
      have gt : (M ++ t)[n]? = some (.lst es) := by rw [List.getElem?_append_left hn]; exact g1
      simp only [Res.out, gt, k1]
      rw [if_pos ⟨by rw [g2.length, k2.length]; exact hl, (Vl.dns_pure hfs).1, hn⟩]
      have hset : ((M ++ t).set n (.lst (es ++ fs))).take M.length = M.set n (.lst (es ++ fs)) := by
        rw [List.set_append_left _ _ hn, List.take_left' (by rw [List.length_set])]
      rw [hset]
      have hr : Reps M F (xs ++ ys) (es ++ fs) := g2.append (Reps.of_dns hfs)
      obtain ⟨u1, u2⟩ := h.upd (u := .lst (xs ++ ys)) (o := .lst (es ++ fs)) ex o1 hr.bws ⟨n, _, rfl, by rw [List.getElem?_set_self hn], hr.upd a3⟩
      exact ⟨ρ, _, F, rfl, u1, u2⟩
theorem so_put (hc : CxOk c vc) (hb : c.base = base) (v o i : E) (h : EV G F base M ρ σ) : SO G F base M (vex vc (.put v o i) σ) (ex c (.put v o i) ρ M) := by
  unfold vex ex
  rw [← out_bind (f := fun p => (p, vkeep p v.vars σ)) (g := fun q => vputS σ q.2 o q.1.1 (vev vc i q.2))]
  refine SO.out h (vevg_ok hc v h) fun p σ1 d M1 _ ⟨F1, h1, f1, r1⟩ _ => ?_
  unfold vputS
  have hvi := h1.ve i.vars
  have hei := vev_ok hc i hvi
  cases qk : vev vc i σ1 with
  | bad => simp only [qk]; trivial
  | exc x => simp only [qk]; trivial
  | ok k =>
    rw [qk] at hei
    obtain ⟨dk, t, b1, b2, b3, _⟩ := hei
    simp only [qk]
    show SO G F base M (vupd σ1 o fun a => vput a k.1 p.1) _
    cases hq : vupd σ1 o fun a => vput a k.1 p.1 with
    | bad => trivial
    | _ =>
      obtain ⟨x, w, u, rfl, ex, ef, eu⟩ := upd_ok h1 (show (vupd σ1 o fun a => vput a k.1 p.1) ≠ .bad by rw [hq]; intro z; cases z)
      rw [← hq, eu]
      have hkey : ∀ q, vkey k.1 = some q → keyOf dk = some q := fun q e => by rw [vkey_of b3]; exact e
      rcases vput_kind ef with ⟨xs, q, j, rfl, hk, hj, rfl⟩ | ⟨ks, vs, q, rfl, hk, hl, rfl⟩
      · obtain ⟨n, a1, a2, a3, a4⟩ := h1.own ex (.inr (.inl ⟨xs, rfl⟩))
        obtain ⟨i', es, z, g1, g2⟩ := a2
        cases z
        have hn : n < M1.length := h1.lt n a3
        have ok : okIn c n d = true := by unfold okIn; rw [hb]; simp [a4]
        rw [hk] at b3
        simp only [Rep] at b3
        subst b3
        rw [ev_var a1]
        simp only [Res.out, b1]
        rw [if_pos ok]
        have gt : (M1 ++ t)[n]? = some (.lst es) := by rw [List.getElem?_append_left hn]; exact g1
        rw [putD_lst gt (by rw [g2.length]; exact hj)]
        have hset : ((M1 ++ t).set n (.lst (es.set j d))).take M1.length = M1.set n (.lst (es.set j d)) := by
          rw [List.set_append_left _ _ hn, List.take_left' (by rw [List.length_set])]
        simp only [hset]
        have hr : Reps M1 F1 (xs.set j p.1) (es.set j d) := g2.set r1 j
        obtain ⟨u1, u2⟩ := h1.upd (u := .lst (xs.set j p.1)) (o := .lst (es.set j d)) ex a1 hr.bws ⟨n, _, rfl, by rw [List.getElem?_set_self hn], hr.upd a3⟩
        exact ⟨ρ, _, F1, rfl, u1, f1.trans u2⟩
      · obtain ⟨n, a1, a2, a3, a4⟩ := h1.own ex (.inr (.inr ⟨ks, vs, rfl⟩))
        obtain ⟨i', es, z, g1, gk, g2⟩ := a2
        cases z
        have hn : n < M1.length := h1.lt n a3
        have ok : okIn c n d = true := by unfold okIn; rw [hb]; simp [a4]
        rw [ev_var a1]
        simp only [Res.out, b1]
        rw [if_pos ok]
        have gt : (M1 ++ t)[n]? = some (.dk es) := by rw [List.getElem?_append_left hn]; exact g1
        have hl2 : es.length < lim := by rw [← gk, List.length_map] at hl; exact hl
        have hp : putD n dk d (M1 ++ t) = some ((M1 ++ t).set n (.dk (putK es q d))) := by
          simp only [putD, gt, hkey q hk]
          rw [if_pos hl2]
        rw [hp]
        have hset : ((M1 ++ t).set n (.dk (putK es q d))).take M1.length = M1.set n (.dk (putK es q d)) := by
          rw [List.set_append_left _ _ hn, List.take_left' (by rw [List.length_set])]
        simp only [hset]
        obtain ⟨p1, p2⟩ := putV_of (k := q) gk g2 r1
        obtain ⟨u1, u2⟩ := h1.upd (u := .dk (putV ks vs q p.1).1 (putV ks vs q p.1).2) (o := .dk (putK es q d)) ex a1 p2.bws ⟨n, _, rfl, by rw [List.getElem?_set_self hn], p1, p2.upd a3⟩
        exact ⟨ρ, _, F1, rfl, u1, f1.trans u2⟩
end
end Sk
end
section
set_option Elab.async false
set_option linter.all false
set_option autoImplicit false
set_option maxRecDepth 100000
/-! SkV9: loops, blocks, calls on values. -/
namespace Sk
open PySem (Str)
section
variable {c : Env → Store → Res Bool} {body : Env → Store → Out}
theorem vwN_succ : ∀ {n : Nat} {ρ : Env} {M : Store} {o : Out}, whileN c body n ρ M = some o → whileN c body (n + 1) ρ M = some o
  | 0, _, _, _, h => by simp [whileN] at h
  | n + 1, ρ, M, o, h => by
    rw [whileN] at h ⊢
    cases hc : c ρ M with
    | ok b M1 =>
      simp only [hc] at h ⊢
      cases b with
      | true =>
        simp only [if_true] at h ⊢
        cases hb : body ρ M1 with
        | nx ρ' M' => simp only [hb] at h ⊢; exact vwN_succ h
        | ct ρ' M' => simp only [hb] at h ⊢; exact vwN_succ h
        | bk ρ' M' => simp only [hb] at h ⊢; exact h
        | rt d M' => simp only [hb] at h ⊢; exact h
        | exc x ρ' M' => simp only [hb] at h ⊢; exact h
        | bad => simp only [hb] at h ⊢; exact h
      | false => simpa using h
    | exc x M1 => simp only [hc] at h ⊢; exact h
    | bad => simp only [hc] at h ⊢; exact h
theorem vwN_add {n : Nat} {ρ : Env} {M : Store} {o : Out} (h : whileN c body n ρ M = some o) : ∀ k, whileN c body (n + k) ρ M = some o
  | 0 => h
  | k + 1 => vwN_succ (vwN_add h k)
theorem vw_of {n : Nat} {ρ : Env} {M : Store} {o : Out} (h : whileN c body n ρ M = some o) : whileD c body ρ M = o := by
  have he : ∃ n o, whileN c body n ρ M = some o := ⟨n, o, h⟩
  unfold whileD
  rw [dif_pos he]
  have h' := Classical.choose_spec (Classical.choose_spec he)
  have a := vwN_add h (Classical.choose he)
  have b := vwN_add h' n
  rw [Nat.add_comm (Classical.choose he) n] at b
  rw [a] at b
  exact (Option.some.inj b).symm
end
section
variable {c : VEnv → VR Bool} {body : VEnv → VOut}
theorem vvN_succ : ∀ {n : Nat} {ρ : VEnv} {o : VOut}, vwhileN c body n ρ = some o → vwhileN c body (n + 1) ρ = some o
  | 0, _, _, h => by simp [vwhileN] at h
  | n + 1, ρ, o, h => by
    rw [vwhileN] at h ⊢
    cases hc : c ρ with
    | ok b =>
      simp only [hc] at h ⊢
      cases b with
      | true =>
        simp only [if_true] at h ⊢
        cases hb : body ρ with
        | nx ρ' => simp only [hb] at h ⊢; exact vvN_succ h
        | ct ρ' => simp only [hb] at h ⊢; exact vvN_succ h
        | bk ρ' => simp only [hb] at h ⊢; exact h
        | rt d => simp only [hb] at h ⊢; exact h
        | exc x ρ' => simp only [hb] at h ⊢; exact h
        | bad => simp only [hb] at h ⊢; exact h
      | false => simpa using h
    | exc x => simp only [hc] at h ⊢; exact h
    | bad => simp only [hc] at h ⊢; exact h
theorem vvN_add {n : Nat} {ρ : VEnv} {o : VOut} (h : vwhileN c body n ρ = some o) : ∀ k, vwhileN c body (n + k) ρ = some o
  | 0 => h
  | k + 1 => vvN_succ (vvN_add h k)
/-- a while loop that ends -/
theorem vwhile_of {n : Nat} {ρ : VEnv} {o : VOut} (h : vwhileN c body n ρ = some o) : vwhileD c body ρ = o := by
  have he : ∃ n o, vwhileN c body n ρ = some o := ⟨n, o, h⟩
  unfold vwhileD
  rw [dif_pos he]
  have h' := Classical.choose_spec (Classical.choose_spec he)
  have a := vvN_add h (Classical.choose he)
  have b := vvN_add h' n
  rw [Nat.add_comm (Classical.choose he) n] at b
  rw [a] at b
  exact (Option.some.inj b).symm
theorem vwhile_ex {ρ : VEnv} (h : vwhileD c body ρ ≠ .bad) : ∃ n, vwhileN c body n ρ = some (vwhileD c body ρ) := by
  by_cases he : ∃ n o, vwhileN c body n ρ = some o
  · obtain ⟨n, o, h⟩ := he
    exact ⟨n, by rw [vwhile_of h]; exact h⟩
  · exact absurd (by unfold vwhileD; rw [dif_neg he]) h
end
section
variable {c : Cx} {vc : VCx} {G F F' : Nat → Prop} {base : Nat} {M M' t : Store} {ρ ρ' : Env} {σ σ' : VEnv}
theorem so_for {vbody : Vl → VEnv → VOut} {body : D → Env → Store → Out} {w : Option (Nat × List D)}
    (hb : ∀ (v : Vl) (d : D) (F : Nat → Prop) (M : Store) (ρ : Env) (σ : VEnv), EV G F base M ρ σ → Rep M F v d → SO G F base M (vbody v σ) (body d ρ M)) :
    ∀ {vs : List Vl} {ds : List D} {F : Nat → Prop} {M : Store} {ρ : Env} {σ : VEnv}, EV G F base M ρ σ → Reps M F vs ds → (∀ (i : Nat) l, w = some (i, l) → M[i]? = some (.lst l) ∧ ¬ F i) → SO G F base M (vforL vbody vs σ) (forL w body ds ρ M)
  | [], ds, F, M, ρ, σ, h, r, hw => by
    simp only [Reps] at r
    subst r
    unfold vforL forL
    rw [if_pos (by
      cases w with
      | none => exact trivial
      | some p => exact (hw p.1 p.2 rfl).1)]
    exact SO.here h
  | v :: vs, ds, F, M, ρ, σ, h, r, hw => by
    simp only [Reps] at r
    obtain ⟨d, r', rfl, r1, r2⟩ := r
    unfold vforL forL
    rw [if_pos (by
      cases w with
      | none => exact trivial
      | some p => exact (hw p.1 p.2 rfl).1)]
    have h0 := hb v d F M ρ σ h r1
    have go : ∀ (ρ' : Env) (M' : Store) (F' : Nat → Prop) (σ' : VEnv), EV G F' base M' ρ' σ' → Fr base F M F' M' → SO G F base M (vforL vbody vs σ') (forL w body r' ρ' M') := fun ρ' M' F' σ' h' f => by
      refine SO.mono f (so_for hb h' (f.reps r2) fun i l e => ?_)
      obtain ⟨e1, e2⟩ := hw i l e
      have hi := (List.getElem?_eq_some_iff.mp e1).1
      refine ⟨by rw [f.same i hi fun q => e2 q.1]; exact e1, fun q => ?_⟩
      rcases f.back i q with z | z
      · exact e2 z
      · omega
    cases q : vbody v σ with
    | nx σ' => rw [q] at h0; obtain ⟨ρ', M', F', a, b, f⟩ := h0; rw [a]; exact go ρ' M' F' σ' b f
    | ct σ' => rw [q] at h0; obtain ⟨ρ', M', F', a, b, f⟩ := h0; rw [a]; exact go ρ' M' F' σ' b f
    | bk σ' => rw [q] at h0; obtain ⟨ρ', M', F', a, b, f⟩ := h0; rw [a]; exact ⟨ρ', M', F', rfl, b, f⟩
    | rt p => rw [q] at h0; obtain ⟨d, M', F', a, b⟩ := h0; rw [a]; exact ⟨d, M', F', rfl, b⟩
    | exc x σ' => rw [q] at h0; obtain ⟨p, ρ', M', F', a, b⟩ := h0; rw [a]; exact ⟨p, ρ', M', F', rfl, b⟩
    | bad => trivial
theorem so_whileN {vcnd : VEnv → VR Bool} {cnd : Env → Store → Res Bool} {vbody : VEnv → VOut} {body : Env → Store → Out}
    (hcnd : ∀ (F : Nat → Prop) (M : Store) (ρ : Env) (σ : VEnv), EV G F base M ρ σ → (match vcnd σ with
      | .ok b => cnd ρ M = .ok b M
      | .exc x => x.pur ∧ cnd ρ M = .exc x M
      | .bad => True))
    (hb : ∀ (F : Nat → Prop) (M : Store) (ρ : Env) (σ : VEnv), EV G F base M ρ σ → SO G F base M (vbody σ) (body ρ M)) :
    ∀ (n : Nat) {F : Nat → Prop} {M : Store} {ρ : Env} {σ : VEnv} {o : VOut}, EV G F base M ρ σ → vwhileN vcnd vbody n σ = some o → o = .bad ∨ ∃ o', whileN cnd body n ρ M = some o' ∧ SO G F base M o o'
  | 0, F, M, ρ, σ, o, h, e => by simp [vwhileN] at e
  | n + 1, F, M, ρ, σ, o, h, e => by
    rw [vwhileN] at e
    rw [whileN]
    have h1 := hcnd F M ρ σ h
    cases q : vcnd σ with
    | bad => rw [q] at e; exact .inl (Option.some.inj e).symm
    | exc x =>
      rw [q] at h1 e
      cases e
      obtain ⟨p, h1⟩ := h1
      rw [h1]
      exact .inr ⟨_, rfl, p, ρ, M, F, rfl, h, .refl⟩
    | ok b =>
      rw [q] at h1 e
      have h1 : cnd ρ M = .ok b M := h1
      rw [h1]
      cases b with
      | false =>
        simp only [Bool.false_eq_true, if_false] at e ⊢
        cases e
        exact .inr ⟨_, rfl, SO.here h⟩
      | true =>
        simp only [if_true] at e ⊢
        have h0 := hb F M ρ σ h
        have go : ∀ (ρ' : Env) (M' : Store) (F' : Nat → Prop) (σ' : VEnv), EV G F' base M' ρ' σ' → Fr base F M F' M' → vwhileN vcnd vbody n σ' = some o → o = .bad ∨ ∃ o', whileN cnd body n ρ' M' = some o' ∧ SO G F base M o o' := fun ρ' M' F' σ' h' f e => by
          rcases so_whileN hcnd hb n h' e with z | ⟨o', z1, z2⟩
          · exact .inl z
          · exact .inr ⟨o', z1, z2.mono f⟩
        cases z : vbody σ with
        | nx σ' => rw [z] at h0 e; obtain ⟨ρ', M', F', a, b, f⟩ := h0; rw [a]; exact go ρ' M' F' σ' b f e
        | ct σ' => rw [z] at h0 e; obtain ⟨ρ', M', F', a, b, f⟩ := h0; rw [a]; exact go ρ' M' F' σ' b f e
        | bk σ' => rw [z] at h0 e; cases e; obtain ⟨ρ', M', F', a, b, f⟩ := h0; rw [a]; exact .inr ⟨_, rfl, ρ', M', F', rfl, b, f⟩
        | rt p => rw [z] at h0 e; cases e; obtain ⟨d, M', F', a, b⟩ := h0; rw [a]; exact .inr ⟨_, rfl, d, M', F', rfl, b⟩
        | exc x σ' => rw [z] at h0 e; cases e; obtain ⟨p, ρ', M', F', a, b⟩ := h0; rw [a]; exact .inr ⟨_, rfl, p, ρ', M', F', rfl, b⟩
        | bad => rw [z] at e; exact .inl (Option.some.inj e).symm
theorem so_while {vcnd : VEnv → VR Bool} {cnd : Env → Store → Res Bool} {vbody : VEnv → VOut} {body : Env → Store → Out}
    (hcnd : ∀ (F : Nat → Prop) (M : Store) (ρ : Env) (σ : VEnv), EV G F base M ρ σ → (match vcnd σ with
      | .ok b => cnd ρ M = .ok b M
      | .exc x => x.pur ∧ cnd ρ M = .exc x M
      | .bad => True))
    (hb : ∀ (F : Nat → Prop) (M : Store) (ρ : Env) (σ : VEnv), EV G F base M ρ σ → SO G F base M (vbody σ) (body ρ M)) (h : EV G F base M ρ σ) :
    SO G F base M (vwhileD vcnd vbody σ) (whileD cnd body ρ M) := by
  by_cases hn : vwhileD vcnd vbody σ = .bad
  · rw [hn]; trivial
  · obtain ⟨n, e⟩ := vwhile_ex hn
    rcases so_whileN hcnd hb n h e with z | ⟨o', z1, z2⟩
    · exact absurd z hn
    · rw [vw_of z1]; exact z2
/-- the walk of a for -/
theorem its_ok (hc : CxOk c vc) {k : Ik} {its : List E} {vs xs : List Vl} {σ1 : VEnv} (h : EV G F base M ρ σ) (e : vits vc its σ = .ok (vs, σ1)) (ex : vwalk k vs = some xs) :
    ∃ ys w t F', (evs c its ρ M).bind (walkG M.length k) = .ok (ys, w) (M ++ t) ∧ EV G F' base (M ++ t) ρ σ1 ∧ Fr base F M F' (M ++ t) ∧ Reps (M ++ t) F' xs ys ∧ (∀ i, w = some i → (M ++ t)[i]? = some (.lst ys) ∧ ¬ F' i) := by
  have hv := h.ve (E.varss its)
  have grow : ∀ {t : Store} {F' : Nat → Prop} {σ2 : VEnv}, EV G F' base M ρ σ2 → Clo (M ++ t) → EV G F' base (M ++ t) ρ σ2 := fun {t F' σ2} h hc => h.app hc (fun _ q => q) (fun _ q => .inl q) fun i q => by have := h.lt i q; simp; omega
  -- two ways: what is shared is given up, or nothing can be shared
  have clearW : ∀ ds t, evs c its ρ M = .ok ds (M ++ t) → Clo (M ++ t) → Reps (M ++ t) (Fm F ρ (E.varss its)) vs ds → σ1 = vclear σ (E.varss its) → ∃ ys w t F', (evs c its ρ M).bind (walkG M.length k) = .ok (ys, w) (M ++ t) ∧ EV G F' base (M ++ t) ρ σ1 ∧ Fr base F M F' (M ++ t) ∧ Reps (M ++ t) F' xs ys ∧ (∀ i, w = some i → (M ++ t)[i]? = some (.lst ys) ∧ ¬ F' i) := fun ds t a b r hs => by
    obtain ⟨ys, w, t2, w1, w2, w3, w4⟩ := re_walk hv.st b r ex
    rw [a, rbind_ok, w1]
    refine ⟨ys, w, t2, Fm F ρ (E.varss its), rfl, ?_, Fr.app fun i q => .inl q.1, w3, fun i z => ⟨(w4 i z).2.1, (w4 i z).2.2.1⟩⟩
    rw [hs]
    exact grow (h.clear _) w2
  have pureW : ∀ ds t es, evs c its ρ M = .ok ds (M ++ t) → Clo (M ++ t) → Reps (M ++ t) (Fm F ρ (E.varss its)) vs ds → Vl.dns vs = some es → σ1 = σ → ∃ ys w t F', (evs c its ρ M).bind (walkG M.length k) = .ok (ys, w) (M ++ t) ∧ EV G F' base (M ++ t) ρ σ1 ∧ Fr base F M F' (M ++ t) ∧ Reps (M ++ t) F' xs ys ∧ (∀ i, w = some i → (M ++ t)[i]? = some (.lst ys) ∧ ¬ F' i) := fun ds t es a b r hd hs => by
    have hde := r.dns hd
    subst hde
    have r2 : Reps (M ++ t) F vs ds := Reps.of_dns hd
    have sF : St F M := ⟨h.clo, h.lt⟩
    obtain ⟨ys, w, t2, w1, w2, w3, w4⟩ := re_walk sF b r2 ex
    rw [a, rbind_ok, w1]
    refine ⟨ys, w, t2, F, rfl, by rw [hs]; exact grow h w2, Fr.app fun i q => .inl q, w3, fun i z => ⟨(w4 i z).2.1, (w4 i z).2.2.1⟩⟩
  unfold vits at e
  split at e
  · rename_i e0
    have he := vev_ok hc e0 (hv.sub (Y := e0.vars) fun x hx => by simp [E.varss]; exact hx)
    cases q : vev vc e0 σ with
    | bad => rw [q] at e; cases e
    | exc x => rw [q] at e; cases e
    | ok p =>
      rw [q] at he e
      cases e
      obtain ⟨d, t, a, b, r, fr⟩ := he
      have hevs : evs c [e0] ρ M = .ok [d] (M ++ t) := by
        unfold evs
        rw [a, rbind_ok]
        unfold evs
        rfl
      have hX : E.varss [e0] = e0.vars := by simp [E.varss]
      by_cases hk : calm p = true
      · by_cases hd : p.1.dn.isSome = true
        · obtain ⟨u, hu⟩ := Option.isSome_iff_exists.mp hd
          exact pureW [d] t [u] hevs b (Reps.one r) (by simp [Vl.dns, hu]) (by unfold vkeep; rw [if_pos hk])
        · -- a list just made, of plain data
          have hk2 : p.2 = true ∧ vflat p.1 = true := by
            unfold calm at hk
            simp only [Bool.or_eq_true, Bool.and_eq_true] at hk
            exact hk.resolve_left hd
          obtain ⟨ys, w, t2, w1, w2, w3, w4⟩ := re_walk hv.st b (Reps.one r) ex
          rw [hevs, rbind_ok, w1]
          have hxs : (Vl.dns xs).isSome = true := by
            have := hk2.2
            cases k <;> simp only [vwalk] at ex <;> try (cases ex; done)
            · obtain ⟨v, f⟩ := p
              cases v <;> simp only [vflat] at this <;> try (cases this; done)
              · cases ex; exact this
              · cases ex
            · obtain ⟨v, f⟩ := p
              cases v <;> simp only [vflat] at this <;> try (cases this; done)
              · cases ex
              · cases ex
            · split at ex
              · rename_i e
                injection e with e1 e2; cases e2
              · cases ex
          obtain ⟨zs, hz⟩ := Option.isSome_iff_exists.mp hxs
          have hw : w = none := by
            cases w with
            | none => rfl
            | some i =>
              obtain ⟨z1, z2, z3, z4⟩ := w4 i rfl
              have hd1 : d = .ref i := by simpa using z1
              rcases z4 with z4 | z4
              · have := (fr hk2.1 i hd1).1
                omega
              · rw [hz] at z4; cases z4
          have := w3.dns hz
          subst this
          refine ⟨ys, w, t2, F, rfl, by unfold vkeep; rw [if_pos hk]; exact grow h w2, Fr.app fun i q => .inl q, Reps.of_dns hz, fun i z => by rw [hw] at z; cases z⟩
      · exact clearW [d] t hevs b (Reps.one r) (by unfold vkeep; rw [if_neg hk, hX])
  · have he := vevs_ok hc its hv
    cases q : vevs vc its σ with
    | bad => rw [q] at e; cases e
    | exc x => rw [q] at e; cases e
    | ok us =>
      rw [q] at he e
      obtain ⟨ds, t, a, b, r⟩ := he
      by_cases hd : (Vl.dns us).isSome = true
      · obtain ⟨es, hes⟩ := Option.isSome_iff_exists.mp hd
        simp only [VR.bind, hd, if_true] at e
        cases e
        exact pureW ds t es a b r hes rfl
      · simp only [VR.bind, hd] at e
        cases e
        exact clearW ds t a b r rfl
theorem so_ret (hc : CxOk c vc) (e : E) (h : EV G F base M ρ σ) : SO G F base M (vex vc (.ret e) σ) (ex c (.ret e) ρ M) := by
  unfold vex ex
  have gen : SO G F base M ((vev vc e σ).out σ fun p => .rt p) ((evg c e ρ M).out ρ fun d M1 => .rt d M1) := by
    have hv := h.ve e.vars
    have he := re_gc hv.st (vev_ok hc e hv)
    cases q : vev vc e σ with
    | bad => trivial
    | exc x =>
      have h2 := vev_ok hc e hv
      rw [q] at h2
      obtain ⟨p, t, a, b⟩ := h2
      unfold evg
      rw [a]
      simp only [Res.gc, List.take_left' rfl]
      exact ⟨p, ρ, M, F, rfl, h, .refl⟩
    | ok p =>
      rw [q] at he
      obtain ⟨d, t, a, b, r, fr⟩ := he
      unfold evg
      rw [a]
      have hs := (h.clear e.vars).sub
      refine ⟨d, M ++ t, F, rfl, b, Fr.app fun i q => .inl q, r.less hs, fun z i hi => ?_⟩
      obtain ⟨f1, f2⟩ := fr z i hi
      refine ⟨by have := h.bas; omega, RepT.mono (fun _ _ _ => rfl) (fun i _ q => ?_) f2 fun _ _ => rfl⟩
      exact q.imp (hs i) id
  unfold vret
  split
  · rename_i i
    split
    rotate_left
    · trivial
    rename_i p ep
    obtain ⟨d, a, b, c1, c2⟩ := h.val i p.1 p.2 ep
    have hg : evg c (.var i) ρ M = .ok d M := by
      unfold evg
      rw [ev_var a]
      unfold Res.gc gc
      simp only
      split
      · rw [List.take_length]
      · cases d with
        | ref j => simp only; rw [if_pos b.lt, List.take_length]
        | _ => rfl
    rw [hg]
    refine ⟨d, M, F, rfl, h.clo, .refl, (RepT.mono (fun _ _ _ => rfl) (fun i _ q => h.sub i q) b fun _ _ => rfl).rep fun j z q => ?_, fun z j hj => ?_⟩
    · have h1 := h.gb j q
      cases hp : p.2 with
      | true => have := (c1 hp j z).2; omega
      | false => exact c2 hp j z (h.sub j q)
    · obtain ⟨g1, g2⟩ := c1 z j hj
      refine ⟨g2, RepT.mono (fun _ _ _ => rfl) (fun i _ q => ?_) b fun _ _ => rfl⟩
      rcases q with q | q
      · exact h.sub i q
      · rw [q]; exact g1
  · exact gen
theorem key_rep {v : Vl} {d : D} {k : Ky} (r : Rep M F v d) (h : vkey v = some k) : keyOf d = some k := by
  cases v <;> simp only [vkey, reduceCtorEq] at h
  · simp only [Rep] at r; subst r; exact h
  · simp only [Rep] at r; subst r; exact h
theorem SO.noX {a : VOut} {b : Out} (h : SO G F base M a b) : SO G F base M a.noX b.noX := by
  cases a with
  | nx σ => obtain ⟨r, m, k, e, x, y⟩ := h; subst e; exact ⟨r, m, k, rfl, x, y⟩
  | bk σ => obtain ⟨r, m, k, e, x, y⟩ := h; subst e; exact ⟨r, m, k, rfl, x, y⟩
  | ct σ => obtain ⟨r, m, k, e, x, y⟩ := h; subst e; exact ⟨r, m, k, rfl, x, y⟩
  | exc x σ => trivial
  | rt p => obtain ⟨r, m, k, e, x, y, z⟩ := h; subst e; exact ⟨r, m, k, rfl, x, y, z⟩
  | bad => trivial
theorem bnd_ok (h : EV G F base M ρ σ) (o : Option Nat) (x : Exc) : EV G F base M (bndX o x ρ) (vbndX o x σ) := by
  cases o with
  | none => exact h
  | some i => exact h.put (p := (.xo x.f x.k, false)) (show Rep M F (.xo x.f x.k) (.xo x.f x.k) by simp only [Rep]) (fun q => by cases q) fun _ j z => by cases z
mutual
theorem vex_ok (hc : CxOk c vc) (hb : c.base = base) : ∀ (s : S) {F : Nat → Prop} {M : Store} {ρ : Env} {σ : VEnv}, EV G F base M ρ σ → SO G F base M (vex vc s σ) (ex c s ρ M)
  | .set i e, F, M, ρ, σ, h => by
    unfold vex ex
    refine SO.out h (vevp_ok hc e h) fun p σ1 d M1 _ _ ⟨F2, h2, f2, r2, g1, g2⟩ => ?_
    exact ⟨_, M1, F2, rfl, h2.put r2 (fun z j hj => let ⟨a, b, c⟩ := g1 z j hj; ⟨a, b, fun x v _ => c x v⟩) g2, f2⟩
  | .unp is e, F, M, ρ, σ, h => by
    unfold vex ex
    refine SO.out h (vevp_ok hc e h) fun p σ1 d M1 _ ⟨F1, h1, f1, r1⟩ _ => ?_
    show SO G F base M (match vassign (.many is) p.1 σ1 with
      | some σ1 => .nx σ1
      | none => .bad) _
    split
    · rename_i σ2 e2
      obtain ⟨ρ2, a, b⟩ := h1.assign r1 e2
      rw [a]
      exact ⟨ρ2, M1, F1, rfl, b, f1⟩
    · trivial
  | .par _ _ _ _, F, M, ρ, σ, h => by unfold vex; trivial
  | .put v o i, F, M, ρ, σ, h => so_put hc hb v o i h
  | .app o e, F, M, ρ, σ, h => so_app hc hb o e h
  | .ext o e, F, M, ρ, σ, h => so_ext hc o e h
  | .rev o, F, M, ρ, σ, h => so_rev o h
  | .exp e, F, M, ρ, σ, h => by
    unfold vex ex
    refine SO.out h (vevp_ok hc e h) fun p σ1 d M1 _ ⟨F1, h1, f1, r1⟩ _ => ?_
    exact ⟨ρ, M1, F1, rfl, h1, f1⟩
  | .ret e, F, M, ρ, σ, h => so_ret hc e h
  | .retN, F, M, ρ, σ, h => by
    unfold vex ex
    exact ⟨.non, M, F, rfl, h.clo, .refl, by simp only [Rep], fun z => by cases z⟩
  | .iff t a b, F, M, ρ, σ, h => by
    unfold vex ex
    have ht := vevb_ok hc (h.ve t.vars)
    cases q : (vev vc t σ).bind fun x => vtr x.1 with
    | bad => trivial
    | exc x =>
      rw [q] at ht
      obtain ⟨p, ht⟩ := ht
      rw [ht]
      exact ⟨p, ρ, M, F, rfl, h, .refl⟩
    | ok k =>
      rw [q] at ht
      have ht : evb c t ρ M = .ok k M := ht
      rw [ht]
      simp only [VR.out, Res.outB]
      split
      · exact vexs_ok hc hb a h
      · exact vexs_ok hc hb b h
  | .for tg k its body kill, F, M, ρ, σ, h => by
    unfold vex ex
    cases q : vits vc its σ with
    | bad => trivial
    | exc x =>
      -- an error in what is walked
      have he : ∃ t, x.pur ∧ (evs c its ρ M).bind (walkG M.length k) = .exc x (M ++ t) := by
        have hv := h.ve (E.varss its)
        unfold vits at q
        split at q
        · rename_i e0
          have he := vev_ok hc e0 (hv.sub (Y := e0.vars) fun x hx => by simp [E.varss]; exact hx)
          cases z : vev vc e0 σ with
          | bad => rw [z] at q; cases q
          | ok p => rw [z] at q; cases q
          | exc y =>
            rw [z] at q he
            cases q
            obtain ⟨p, t, a, b⟩ := he
            refine ⟨t, p, ?_⟩
            unfold evs
            rw [a]
            rfl
        · have he := vevs_ok hc its hv
          cases z : vevs vc its σ with
          | bad => rw [z] at q; cases q
          | ok p => rw [z] at q; cases q
          | exc y =>
            rw [z] at q he
            cases q
            obtain ⟨p, t, a, b⟩ := he
            exact ⟨t, p, by rw [a]; rfl⟩
      obtain ⟨t, p, e⟩ := he
      rw [e]
      exact ⟨p, ρ, M, F, by simp only [List.take_left' rfl], h, .refl⟩
    | ok a =>
      obtain ⟨vs, σ1⟩ := a
      show SO G F base M (match vwalk k vs with
        | some xs => vforL (fun x σ1 => match vassign tg x σ1 with
          | some σ2 => (vexs vc body σ2).kill kill
          | none => .bad) xs (vwipe σ1 kill)
        | none => .bad) _
      split
      rotate_left
      · trivial
      rename_i xs ex
      obtain ⟨ys, w, t, F', e1, e2, e3, e4, e5⟩ := its_ok hc h q ex
      rw [e1]
      refine SO.mono e3 (so_for (fun v d F M ρ σ hE rE => ?_) (e2.wipe kill) e4 fun i l z => ?_)
      · split
        · rename_i σ2 ea
          obtain ⟨ρ2, a1, a2⟩ := hE.assign rE ea
          rw [a1]
          exact (vexs_ok hc hb body a2).kill kill
        · trivial
      · cases w with
        | none => cases z
        | some j => cases z; exact e5 _ rfl
  | .while t body kill, F, M, ρ, σ, h => by
    unfold vex ex
    exact so_while (fun F M ρ σ h => vevb_ok hc (h.ve t.vars)) (fun F M ρ σ h => (vexs_ok hc hb body h).kill kill) (h.wipe kill)
  | .brk, F, M, ρ, σ, h => by unfold vex ex; exact ⟨ρ, M, F, rfl, h, .refl⟩
  | .cnt, F, M, ρ, σ, h => by unfold vex ex; exact ⟨ρ, M, F, rfl, h, .refl⟩
  | .pass, F, M, ρ, σ, h => by unfold vex ex; exact SO.here h
  | .rai _ _, F, M, ρ, σ, h => by unfold vex; trivial
  | .rse cls f e, F, M, ρ, σ, h => by
    unfold vex ex
    refine SO.out h (vevp_ok hc e h) fun p σ1 d M1 _ ⟨F1, h1, f1, r1⟩ _ => ?_
    unfold vrse
    cases q : vkey p.1 with
    | none => trivial
    | some k =>
      have e2 : keyOf d = some k := key_rep r1 q
      simp only [e2]
      exact ⟨trivial, ρ, M1, F1, rfl, h1, f1⟩
  | .tri body cs bs, F, M, ρ, σ, h => by
    unfold vex ex
    have h0 := vexs_ok hc hb body h
    cases q : vexs vc body σ with
    | bad => trivial
    | nx σ1 => rw [q] at h0; obtain ⟨r, m, k, e, x, y⟩ := h0; rw [e]; exact ⟨r, m, k, rfl, x, y⟩
    | bk σ1 => rw [q] at h0; obtain ⟨r, m, k, e, x, y⟩ := h0; rw [e]; exact ⟨r, m, k, rfl, x, y⟩
    | ct σ1 => rw [q] at h0; obtain ⟨r, m, k, e, x, y⟩ := h0; rw [e]; exact ⟨r, m, k, rfl, x, y⟩
    | rt p => rw [q] at h0; obtain ⟨r, m, k, e, x, y, z⟩ := h0; rw [e]; exact ⟨r, m, k, rfl, x, y, z⟩
    | exc x σ1 =>
      rw [q] at h0
      obtain ⟨p, r, m, k, e, z, y⟩ := h0
      rw [e]
      exact (vexh_ok hc hb bs cs x z).mono y
theorem vexs_ok (hc : CxOk c vc) (hb : c.base = base) : ∀ (ss : List S) {F : Nat → Prop} {M : Store} {ρ : Env} {σ : VEnv}, EV G F base M ρ σ → SO G F base M (vexs vc ss σ) (exs c ss ρ M)
  | [], F, M, ρ, σ, h => by
    unfold vexs exs
    exact SO.here h
  | s :: ss, F, M, ρ, σ, h => by
    unfold vexs exs
    exact SO.andThen (vex_ok hc hb s h) fun ρ' M' F' σ' h' _ => vexs_ok hc hb ss h'
theorem vexh_ok (hc : CxOk c vc) (hb : c.base = base) : ∀ (bs : List (List S)) (cs : List (String × Option Nat)) (x : Exc) {F : Nat → Prop} {M : Store} {ρ : Env} {σ : VEnv}, EV G F base M ρ σ → SO G F base M (vexh vc cs bs x σ) (exh c cs bs x ρ M)
  | [], cs, x, F, M, ρ, σ, h => by
    unfold vexh exh
    exact ⟨trivial, ρ, M, F, rfl, h, .refl⟩
  | b :: bs, cs, x, F, M, ρ, σ, h => by
    unfold vexh exh
    cases cs with
    | nil => trivial
    | cons q cs =>
      simp only
      split
      · exact ((vexs_ok hc hb b (bnd_ok h q.2 x)).noX).kill _
      · exact vexh_ok hc hb bs cs x h
end
end
theorem init_ev {H : Nat → Prop} {M : Store} {d : Def} {vs : List Vl} {ds : List D} (s : St H M) (r : Reps M H vs ds) : EV H H M.length M (init d ds) (vinit d vs) := by
  have hl := r.length
  refine ⟨s.clo, s.lt, fun _ q => q, s.lt, Nat.le_refl _, ?_, fun x e => ?_, fun x v fl e => ?_, fun x y v w i _ e => ?_⟩
  · unfold init vinit
    simp [hl]
  · unfold init
    unfold vinit at e
    by_cases hx : x < vs.length
    · rw [List.getElem?_append_left (by simpa using hx), List.getElem?_map] at e
      cases q : vs[x]? <;> rw [q] at e <;> cases e
    · rw [List.getElem?_append_right (by simpa using hx), List.getElem?_replicate] at e
      rw [List.getElem?_append_right (by simp [hl]; omega), List.getElem?_replicate]
      split at e
      · rename_i h1
        rw [if_pos (by simp [hl] at h1 ⊢; exact h1)]
      · cases e
  · unfold init
    unfold vinit at e
    by_cases hx : x < vs.length
    · rw [List.getElem?_append_left (by simpa using hx), List.getElem?_map] at e
      rw [List.getElem?_append_left (by simp [hl, hx]), List.getElem?_map]
      cases q : vs[x]? with
      | none => rw [q] at e; cases e
      | some u =>
        rw [q] at e
        cases e
        obtain ⟨d', h1, h2⟩ := r.get q
        exact ⟨d', by rw [h1]; rfl, h2.top, fun z => (by cases z), fun _ j z => by subst z; exact h2.nf⟩
    · rw [List.getElem?_append_right (by simpa using hx), List.getElem?_replicate] at e
      split at e <;> cases e
  · unfold vinit at e
    by_cases hx : x < vs.length
    · rw [List.getElem?_append_left (by simpa using hx), List.getElem?_map] at e
      cases q : vs[x]? <;> rw [q] at e <;> cases e
    · rw [List.getElem?_append_right (by simpa using hx), List.getElem?_replicate] at e
      split at e <;> cases e
/-- CALLS -/
theorem vrun_ok {T : String → Option Def} {Gl : String → Option D} : ∀ (k : Nat) (f : String) (vs : List Vl) (M : Store) (H : Nat → Prop) (ds : List D), St H M → Reps M H vs ds → RE H M (vrun T Gl k f vs) (run T Gl k f ds M)
  | 0, f, vs, M, H, ds, s, r => by unfold vrun; trivial
  | k + 1, f, vs, M, H, ds, s, r => by
    unfold vrun run
    cases hT : T f with
    | none => trivial
    | some d =>
      simp only
      rw [r.length]
      split
      rotate_left
      · trivial
      have hc : CxOk ⟨run T Gl k, Gl, M.length⟩ ⟨vrun T Gl k, vG Gl⟩ := ⟨fun f vs M H ds s r => vrun_ok k f vs M H ds s r, fun x v e => by
        have e : vG Gl x = some v := e
        unfold vG at e
        split at e
        · rename_i d hd
          split at e
          · rename_i hp
            cases e
            exact ⟨d, hd, D.up_dn hp⟩
          · cases e
        · cases e⟩
      have h0 := vexs_ok hc rfl d.body (init_ev (d := d) s r)
      have cutM : ∀ {M' : Store} {F' : Nat → Prop}, Fr M.length H M F' M' → M'.take M.length = M := fun {M' F'} f => by
        refine List.ext_getElem? fun i => ?_
        by_cases hi : i < M.length
        · rw [List.getElem?_take_of_lt hi]
          exact f.same i hi fun q => by omega
        · rw [List.getElem?_eq_none (by simp; omega), List.getElem?_eq_none (by omega)]
      cases q : vexs ⟨vrun T Gl k, vG Gl⟩ d.body (vinit d vs) with
      | bad => trivial
      | bk σ => trivial
      | ct σ => trivial
      | nx σ =>
        rw [q] at h0
        obtain ⟨ρ', M', F', a, b, f⟩ := h0
        rw [a]
        simp only [vleave, leave, cutM f]
        exact RE.pure s.clo (by simp only [Vl.dn])
      | exc x σ =>
        rw [q] at h0
        obtain ⟨p, ρ', M', F', a, b, f⟩ := h0
        rw [a]
        simp only [vleave, leave, cutM f]
        exact ⟨p, [], by rw [List.append_nil], by rw [List.append_nil]; exact s.clo⟩
      | rt p =>
        rw [q] at h0
        obtain ⟨d', M', F', a, b, f, r', fr⟩ := h0
        rw [a]
        simp only [vleave, leave]
        have hM : M' = M ++ M'.drop M.length := by
          conv => lhs; rw [← List.take_append_drop M.length M', cutM f]
        have hre : RE H M (.ok p) (.ok d' M') := by
          rw [hM] at b r' fr ⊢
          exact ⟨d', _, rfl, b, r', fr⟩
        exact re_gc s hre
theorem ro_clo (ns : List Int) : Clo [.ro (ns.map D.int)] := fun i o e => by
  cases i with
  | zero =>
    cases e
    simp only [O.bw]
    exact D.bws_mem.mpr fun d hd => by
      obtain ⟨n, _, rfl⟩ := List.mem_map.mp hd
      simp only [D.bw]
  | succ i => simp at e
/-- THE END: the law on values -/
theorem law_v {T : String → Option Def} {Gl : String → Option D} {k : Nat} (ns : List Int) (h : ∃ fr, vrun T Gl k "law" [.ro (ns.map Vl.int)] = .ok (.bl true, fr)) : ∃ M', run T Gl k "law" [.ref 0] [.ro (ns.map D.int)] = .ok (.bl true) M' := by
  obtain ⟨fr, h⟩ := h
  have hd : ∀ l : List Int, Vl.dns (l.map Vl.int) = some (l.map D.int) := fun l => by
    induction l with
    | nil => rfl
    | cons a l ih => simp only [List.map_cons, Vl.dns, Vl.dn, ih]
  have r : Reps [.ro (ns.map D.int)] (fun _ => False) [.ro (ns.map Vl.int)] [.ref 0] := Reps.one (by
    simp only [Rep]
    exact ⟨0, ns.map D.int, rfl, fun z => z, rfl, Reps.of_dns (hd ns)⟩)
  have := vrun_ok (T := T) (Gl := Gl) k "law" [.ro (ns.map Vl.int)] [.ro (ns.map D.int)] (fun _ => False) [.ref 0] ⟨ro_clo ns, fun _ z => z.elim⟩ r
  rw [h] at this
  obtain ⟨d, t, a, _, c, _⟩ := this
  simp only [Rep] at c
  subst c
  exact ⟨_, a⟩
end Sk
end
section
set_option Elab.async false
set_option linter.all false
set_option autoImplicit false
set_option maxRecDepth 100000
/-! SkW: plain tools: evaluation on values by simp. -/
namespace Sk
open PySem (Str)
theorem wrfl {α : Type} {a b : α} (h : a = b) : a = b := h
/-! lazy places -/
section
variable {α β : Type}




@[simp] theorem vb_ok {a : α} {f : α → VR β} : (VR.ok a).bind f = f a := wrfl rfl
@[simp] theorem vb_bad {f : α → VR β} : (VR.bad : VR α).bind f = .bad := wrfl rfl
@[simp] theorem vb_exc {x : Exc} {f : α → VR β} : (VR.exc x : VR α).bind f = .exc x := wrfl rfl
@[simp] theorem vo_ok {a : α} {σ : VEnv} {f : α → VOut} : (VR.ok a).out σ f = f a := wrfl rfl
@[simp] theorem vo_bad {σ : VEnv} {f : α → VOut} : (VR.bad : VR α).out σ f = .bad := wrfl rfl
@[simp] theorem vo_exc {x : Exc} {σ : VEnv} {f : α → VOut} : (VR.exc x : VR α).out σ f = .exc x σ := wrfl rfl
@[simp] theorem vne_ok {a : α} : vnoExc (VR.ok a) = .ok a := wrfl rfl
@[simp] theorem vne_bad : vnoExc (VR.bad : VR α) = .bad := wrfl rfl
theorem vb_if {p : Prop} [Decidable p] {x y : VR α} {f : α → VR β} : (if p then x else y).bind f = if p then x.bind f else y.bind f := by
  by_cases h : p <;> simp [h]
theorem vo_if {p : Prop} [Decidable p] {x y : VR α} {σ : VEnv} {f : α → VOut} : (if p then x else y).out σ f = if p then x.out σ f else y.out σ f := by
  by_cases h : p <;> simp [h]
@[simp] theorem vif_and {p : Prop} [Decidable p] {b : Bool} : (if p then VR.ok b else (VR.ok false : VR Bool)) = VR.ok (decide p && b) := by
  by_cases h : p <;> simp [h]
/-- a test that gives one of two truth values -/
@[simp] theorem vif_l {p : Prop} [Decidable p] {b : Bool} : (if p then (VR.ok (Vl.bl b, false) : VR VF) else .ok (.bl false, false)) = .ok (.bl (decide p && b), false) := by
  by_cases h : p <;> simp [h]
@[simp] theorem vif_r {p : Prop} [Decidable p] {b : Bool} : (if p then (VR.ok (Vl.bl true, false) : VR VF) else .ok (.bl b, false)) = .ok (.bl (decide p || b), false) := by
  by_cases h : p <;> simp [h]
end
section
variable {c : VCx} {σ : VEnv} {v u w : Vl} {i : Nat} {a b d e o : E} {es : List E} {x f : String} {X : List Nat}
def vgv : VEnv → Nat → VR VF
  | [], _ => .bad
  | o :: _, 0 => (match o with
    | some p => .ok (p.1, false)
    | none => .bad)
  | _ :: σ, n + 1 => vgv σ n
theorem vgv_eq : ∀ (σ : VEnv) (i : Nat), vgv σ i = (match σ[i]? with
    | some (some p) => .ok (p.1, false)
    | _ => .bad)
  | [], i => by simp [vgv]
  | o :: σ, 0 => by cases o <;> rfl
  | o :: σ, n + 1 => by rw [vgv, vgv_eq σ n, List.getElem?_cons_succ]
@[simp] theorem vgv_0 {p : VF} : vgv (some p :: σ) 0 = .ok (p.1, false) := wrfl rfl
@[simp] theorem vgv_s {o : Option VF} {n : Nat} : vgv (o :: σ) (n + 1) = vgv σ n := wrfl rfl
@[simp] theorem v_var : vev c (.var i) σ = vgv σ i := by rw [vev, vgv_eq] <;> rfl
theorem v_var' {p : VF} (h : σ[i]? = some (some p)) : vev c (.var i) σ = .ok (p.1, false) := by rw [vev, h]
def vgl : Option Vl → VR VF
  | some v => .ok (v, false)
  | none => .bad
@[simp] theorem vgl_some : vgl (some v) = .ok (v, false) := wrfl rfl
@[simp] theorem v_int {j : Int} : vev c (.cst (.int j)) σ = .ok (.int j, false) := by rw [vev] <;> rfl
@[simp] theorem v_str {s : Str} : vev c (.cst (.str s)) σ = .ok (.str s, false) := by rw [vev] <;> rfl
@[simp] theorem v_bl {s : Bool} : vev c (.cst (.bl s)) σ = .ok (.bl s, false) := by rw [vev] <;> rfl
@[simp] theorem v_non : vev c (.cst .non) σ = .ok (.non, false) := by rw [vev] <;> rfl
@[simp] theorem v_glb : vev c (.glb x) σ = vgl (c.glob x) := by
  rw [vev]
  cases c.glob x <;> rfl
@[simp] theorem v_bin {p : BOp} : vev c (.bin p a b) σ = (vev c a σ).bind fun x => (vev c b σ).bind fun y => vbin p x.1 y.1 := by rw [vev]
@[simp] theorem v_neg : vev c (.neg a) σ = (vev c a σ).bind fun x => vneg x.1 := by rw [vev]
@[simp] theorem v_cmp {p : COp} : vev c (.cmp p a b) σ = (vev c a σ).bind fun x => (vev c b σ).bind fun y => vcmp p x.1 y.1 := by rw [vev]
@[simp] theorem v_chain {p q : COp} : vev c (.chain p q a b d) σ = (vev c a σ).bind fun x => (vev c b σ).bind fun y => (vcmp p x.1 y.1).bind fun r => vonBl r.1 ((vev c d σ).bind fun z => vcmp q y.1 z.1) (.ok (.bl false, false)) := by rw [vev]
def vand2 (x : Vl) (r : VR VF) : VR VF := (vtr x).bind fun t => if t = true then r else .ok (x, false)
def vor2 (x : Vl) (r : VR VF) : VR VF := (vtr x).bind fun t => if t = true then .ok (x, false) else r
@[simp] theorem vand2_bl {q : Bool} {r : VR VF} : vand2 (.bl q) r = if q = true then r else .ok (.bl false, false) := by
  cases q <;> rfl
@[simp] theorem vor2_bl {q : Bool} {r : VR VF} : vor2 (.bl q) r = if q = true then .ok (.bl true, false) else r := by
  cases q <;> rfl
@[simp] theorem v_and : vev c (.and a b) σ = (vev c a σ).bind fun x => vand2 x.1 (vev c b σ) := by rw [vev] <;> rfl
@[simp] theorem v_or : vev c (.or a b) σ = (vev c a σ).bind fun x => vor2 x.1 (vev c b σ) := by rw [vev] <;> rfl
@[simp] theorem nat_s0 {n : Nat} : ((n : Int) + 1 = 0) = False := by simp; omega
@[simp] theorem nat_s0' {n : Nat} : ((n : Int) + 1 == 0) = false := by simp
@[simp] theorem v_not : vev c (.not a) σ = (vev c a σ).bind fun x => (vtr x.1).bind fun t => .ok (.bl (!t), false) := by rw [vev]
@[simp] theorem v_ite : vev c (.ite e a b) σ = (vev c e σ).bind fun x => (vtr x.1).bind fun t => if t = true then vev c a σ else vev c b σ := by rw [vev]
@[simp] theorem v_tup : vev c (.tup es) σ = (vevs c es σ).bind fun xs => .ok (.tup xs, false) := by rw [vev]
@[simp] theorem v_lst : vev c (.lst es) σ = (vevs c es σ).bind fun xs => .ok (.lst xs, true) := by rw [vev]
@[simp] theorem v_dct : vev c (.dct false) σ = .ok (.dk [] [], true) := by rw [vev] <;> rfl
@[simp] theorem v_ix : vev c (.ix a b) σ = (vev c a σ).bind fun x => (vev c b σ).bind fun y => vix x.1 y.1 := by rw [vev]
@[simp] theorem v_slc : vev c (.slc a) σ = (vev c a σ).bind fun x => vslc x.1 none none := by rw [vev]
@[simp] theorem v_slcL : vev c (.slcL a b) σ = (vev c a σ).bind fun x => (vev c b σ).bind fun l => vslcL x.1 l.1 := by rw [vev]
@[simp] theorem v_slcU : vev c (.slcU a b) σ = (vev c a σ).bind fun x => (vev c b σ).bind fun h => vslcU x.1 h.1 := by rw [vev]
@[simp] theorem v_slcLU : vev c (.slcLU a b d) σ = (vev c a σ).bind fun x => (vev c b σ).bind fun l => if isInt l.1 = true then (vev c d σ).bind fun h => vslcLU x.1 l.1 h.1 else .bad := by rw [vev]
@[simp] theorem v_call : vev c (.call f es) σ = (vevs c es σ).bind fun xs => c.call f xs := by rw [vev]
@[simp] theorem v_blt {g : Blt} : vev c (.blt g es) σ = (vevs c es σ).bind fun xs => vblt g xs := by rw [vev]
@[simp] theorem v_mth {m : Mth} : vev c (.mth m o es) σ = (vev c o σ).bind fun x => if vty m x.1 = true then (vevs c es σ).bind fun xs => vmth m x.1 xs else .bad := by rw [vev]
@[simp] theorem v_isi {ts : List String} : vev c (.isi a ts) σ = (vev c a σ).bind fun x => visi2 x.1 ts := by rw [vev]
def vblk (c : VCx) (elt : E) (tg : Tg) (ifs : List E) (own : List Nat) (σ : VEnv) (x : Vl) : VR (Option Vl) := match vassign tg x (vwipe σ own) with
  | none => .bad
  | some σ1 => vnoExc ((vevt c ifs σ1).bind fun t => if t = true then (vev c elt σ1).bind fun y => .ok (some y.1) else .ok none)
def vwk (k : Ik) (vs : List Vl) : VR (List Vl) := match vwalk k vs with
  | some xs => if xs.length ≤ lim then .ok xs else .bad
  | none => .bad
@[simp] theorem v_lc {tg : Tg} {k : Ik} {its ifs : List E} {own : List Nat} : vev c (.lc e tg k its ifs own) σ = (vevs c its σ).bind fun vs => (vwk k vs).bind fun xs => (vlc (vblk c e tg ifs own σ) xs).bind fun ys => .ok (.lst ys, true) := by
  rw [vev]
  congr 1; funext vs
  unfold vwk
  cases vwalk k vs with
  | none => rfl
  | some xs =>
    simp only
    split <;> rfl
@[simp] theorem vs_nil : vevs c [] σ = .ok [] := by rw [vevs]
@[simp] theorem vs_cons : vevs c (e :: es) σ = (vev c e σ).bind fun x => (vevs c es σ).bind fun xs => .ok (x.1 :: xs) := by rw [vevs]
@[simp] theorem vt_nil : vevt c [] σ = .ok true := by rw [vevt]
@[simp] theorem vt_cons : vevt c (e :: es) σ = ((vev c e σ).bind fun x => vtr x.1).bind fun t => if t = true then vevt c es σ else .ok false := by rw [vevt]
def vat : VEnv → Nat → Option (Option VF)
  | [], _ => none
  | o :: _, 0 => some o
  | _ :: σ, n + 1 => vat σ n
theorem vat_eq : ∀ (σ : VEnv) (i : Nat), σ[i]? = vat σ i
  | [], i => by simp [vat]
  | o :: σ, 0 => rfl
  | o :: σ, n + 1 => by rw [vat, ← vat_eq σ n, List.getElem?_cons_succ]
@[simp] theorem vat_0 {o : Option VF} : vat (o :: σ) 0 = some o := wrfl rfl
@[simp] theorem vat_s {o : Option VF} {n : Nat} : vat (o :: σ) (n + 1) = vat σ n := wrfl rfl
/-! sharing -/
def nf : Option (Option VF) → Bool
  | some (some (_, true)) => false
  | _ => true
def nofl (σ : VEnv) : List Nat → Bool
  | [] => true
  | x :: xs => nf (vat σ x) && nofl σ xs
@[simp] theorem nf_none : nf none = true := wrfl rfl
@[simp] theorem nf_un : nf (some none) = true := wrfl rfl
@[simp] theorem nf_no {v : Vl} : nf (some (some (v, false))) = true := wrfl rfl
@[simp] theorem nf_yes {v : Vl} : nf (some (some (v, true))) = false := wrfl rfl
@[simp] theorem nofl_nil : nofl σ [] = true := wrfl rfl
@[simp] theorem nofl_cons {x : Nat} {xs : List Nat} : nofl σ (x :: xs) = (nf (vat σ x) && nofl σ xs) := wrfl rfl
theorem vun_id {x : Nat} (h : nf (vat σ x) = true) : vun σ x = σ := by
  unfold vun
  split
  · rename_i p e
    rw [← vat_eq, e] at h
    obtain ⟨v, fl⟩ := p
    cases fl with
    | true => cases h
    | false =>
      refine List.ext_getElem? fun i => ?_
      by_cases hi : x = i
      · subst hi
        rw [List.getElem?_set_self (List.getElem?_eq_some_iff.mp e).1, e]
      · rw [List.getElem?_set_ne hi]
  · rfl
theorem vclear_id : ∀ {X : List Nat}, nofl σ X = true → vclear σ X = σ
  | [], _ => rfl
  | x :: xs, h => by
    unfold nofl at h
    rw [Bool.and_eq_true] at h
    unfold vclear
    rw [vclear_id h.2, vun_id h.1]
@[simp] theorem vkeep_un {p : VF} (h : nofl σ X = true) : vkeep p X σ = σ := by
  unfold vkeep
  rw [vclear_id h, ite_self]
theorem vkeep_calm {p : VF} (h : calm p = true) : vkeep p X σ = σ := by unfold vkeep; rw [if_pos h]
@[simp] theorem vkeep_int {j : Int} {g : Bool} : vkeep (.int j, g) X σ = σ := vkeep_calm rfl
@[simp] theorem vkeep_str {j : Str} {g : Bool} : vkeep (.str j, g) X σ = σ := vkeep_calm rfl
@[simp] theorem vkeep_bl {j : Bool} {g : Bool} : vkeep (.bl j, g) X σ = σ := vkeep_calm rfl
@[simp] theorem vkeep_non {g : Bool} : vkeep (.non, g) X σ = σ := vkeep_calm rfl
theorem vkeep_pure {g : Bool} (h : v.dn.isSome = true) : vkeep (v, g) X σ = σ := vkeep_calm (by simp [calm, h])
theorem vkeep_new {vs : List Vl} (h : (Vl.dns vs).isSome = true) : vkeep (.lst vs, true) X σ = σ := vkeep_calm (by simp [calm, vflat, h])
theorem vkeep_newK {ks : List Ky} {vs : List Vl} (h : (Vl.dns vs).isSome = true) : vkeep (.dk ks vs, true) X σ = σ := vkeep_calm (by simp [calm, vflat, h])
/-- no pop -/
def npop : E → Bool
  | .mth .pop _ _ => false
  | _ => true
theorem vp_gen (h : npop e = true) : vevp c e σ = (vev c e σ).bind fun p => .ok (p, vkeep p e.vars σ) := by
  unfold vevp
  split
  · cases h
  · rfl
end
section
variable {c : VCx} {σ : VEnv} {v u w : Vl} {i : Nat} {a b d e o : E} {es : List E} {s : S} {ss us : List S}
@[simp] theorem vx_set (h : npop e = true) : vex c (.set i e) σ = (vev c e σ).out σ fun p => .nx ((vkeep p e.vars σ).set i (some p)) := by
  rw [vex, vp_gen h]
  cases vev c e σ <;> rfl
@[simp] theorem vx_unp {is : List Nat} (h : npop e = true) : vex c (.unp is e) σ = (vev c e σ).out σ fun p => (match vassign (.many is) p.1 (vkeep p e.vars σ) with
    | some σ1 => .nx σ1
    | none => .bad) := by
  rw [vex, vp_gen h]
  cases vev c e σ <;> rfl
theorem vx_setp {x : Nat} : vex c (.set i (.mth .pop (.var x) es)) σ = (vevp c (.mth .pop (.var x) es) σ).out σ fun q => .nx (q.2.set i (some q.1)) := by rw [vex]
@[simp] theorem vx_put : vex c (.put a o b) σ = (vev c a σ).out σ fun p => vputS σ (vkeep p a.vars σ) o p.1 (vev c b (vkeep p a.vars σ)) := by rw [vex]
@[simp] theorem vx_app : vex c (.app o e) σ = if vown σ o = true then (vev c e σ).out σ fun p => vupd (vkeep p e.vars σ) o (vapp p.1) else .bad := by rw [vex]
@[simp] theorem vx_ext : vex c (.ext o e) σ = if vown σ o = true then (vev c e σ).out σ fun p => vupd σ o (vext p.1) else .bad := by rw [vex]
@[simp] theorem vx_rev : vex c (.rev o) σ = vupd σ o vrev := by rw [vex]
@[simp] theorem vx_exp (h : npop e = true) : vex c (.exp e) σ = (vev c e σ).out σ fun p => .nx (vkeep p e.vars σ) := by
  rw [vex, vp_gen h]
  cases vev c e σ <;> rfl
theorem vx_expp {x : Nat} : vex c (.exp (.mth .pop (.var x) es)) σ = (vevp c (.mth .pop (.var x) es) σ).out σ fun q => .nx q.2 := by rw [vex]
def nvar : E → Bool
  | .var _ => false
  | _ => true
@[simp] theorem vx_ret (h : nvar e = true) : vex c (.ret e) σ = (vev c e σ).out σ fun p => .rt p := by
  rw [vex]
  cases e <;> first | (cases h; done) | rfl
def vrv : VEnv → Nat → VOut
  | [], _ => .bad
  | o :: _, 0 => (match o with
    | some p => .rt p
    | none => .bad)
  | _ :: σ, n + 1 => vrv σ n
theorem vrv_eq : ∀ (σ : VEnv) (i : Nat), vrv σ i = (match σ[i]? with
    | some (some p) => .rt p
    | _ => .bad)
  | [], i => by simp [vrv]
  | o :: σ, 0 => by cases o <;> rfl
  | o :: σ, n + 1 => by rw [vrv, vrv_eq σ n, List.getElem?_cons_succ]
@[simp] theorem vrv_0 {p : VF} : vrv (some p :: σ) 0 = .rt p := wrfl rfl
@[simp] theorem vrv_s {o : Option VF} {n : Nat} : vrv (o :: σ) (n + 1) = vrv σ n := wrfl rfl
@[simp] theorem vx_retv : vex c (.ret (.var i)) σ = vrv σ i := by
  rw [vex, vrv_eq]
  unfold vret
  simp only
  cases σ[i]? with
  | none => rfl
  | some o => cases o <;> rfl
@[simp] theorem vx_retN : vex c .retN σ = .rt (.non, false) := by rw [vex]
@[simp] theorem vx_iff : vex c (.iff e ss us) σ = ((vev c e σ).bind fun x => vtr x.1).out σ fun k => if k = true then vexs c ss σ else vexs c us σ := by rw [vex]
noncomputable def vbd (c : VCx) (tg : Tg) (ss : List S) (kill : List Nat) (x : Vl) (σ : VEnv) : VOut := match vassign tg x σ with
  | some σ2 => (vexs c ss σ2).kill kill
  | none => .bad
def vwkF (k : Ik) (vs : List Vl) (f : List Vl → VOut) : VOut := match vwalk k vs with
  | some xs => f xs
  | none => .bad
@[simp] theorem vx_for {tg : Tg} {k : Ik} {its : List E} {kill : List Nat} : vex c (.for tg k its ss kill) σ = (vits c its σ).out σ fun q => vwkF k q.1 fun xs => vforL (vbd c tg ss kill) xs (vwipe q.2 kill) := by rw [vex] <;> rfl
def vwc (c : VCx) (t : E) (σ : VEnv) : VR Bool := (vev c t σ).bind fun x => vtr x.1
noncomputable def vwb (c : VCx) (ss : List S) (kill : List Nat) (σ : VEnv) : VOut := (vexs c ss σ).kill kill
theorem vx_while {kill : List Nat} : vex c (.while e ss kill) σ = vwhileD (vwc c e) (vwb c ss kill) (vwipe σ kill) := by rw [vex] <;> rfl
@[simp] theorem vx_brk : vex c .brk σ = .bk σ := by rw [vex]
@[simp] theorem vx_cnt : vex c .cnt σ = .ct σ := by rw [vex]
@[simp] theorem vx_pass : vex c .pass σ = .nx σ := by rw [vex]
@[simp] theorem vxs_nil : vexs c [] σ = .nx σ := by rw [vexs]
@[simp] theorem vxs_cons : vexs c (s :: ss) σ = (vex c s σ).andThen (vexs c ss) := by rw [vexs]
@[simp] theorem va_nx {f : VEnv → VOut} : (VOut.nx σ).andThen f = f σ := wrfl rfl
@[simp] theorem va_rt {p : VF} {f : VEnv → VOut} : (VOut.rt p).andThen f = .rt p := wrfl rfl
@[simp] theorem va_bk {f : VEnv → VOut} : (VOut.bk σ).andThen f = .bk σ := wrfl rfl
@[simp] theorem va_ct {f : VEnv → VOut} : (VOut.ct σ).andThen f = .ct σ := wrfl rfl
@[simp] theorem va_exc {x : Exc} {f : VEnv → VOut} : (VOut.exc x σ).andThen f = .exc x σ := wrfl rfl
@[simp] theorem va_bad {f : VEnv → VOut} : (VOut.bad).andThen f = .bad := wrfl rfl
/-- an early end on one side -/
@[simp] theorem va_if_rt {p : Prop} [Decidable p] {q : VF} {y : VOut} {f : VEnv → VOut} : (if p then VOut.rt q else y).andThen f = if p then .rt q else y.andThen f := by
  by_cases h : p <;> simp [h]
@[simp] theorem va_if_rt' {p : Prop} [Decidable p] {q : VF} {y : VOut} {f : VEnv → VOut} : (if p then y else VOut.rt q).andThen f = if p then y.andThen f else .rt q := by
  by_cases h : p <;> simp [h]
@[simp] theorem va_if_ct {p : Prop} [Decidable p] {y : VOut} {f : VEnv → VOut} : (if p then VOut.ct σ else y).andThen f = if p then .ct σ else y.andThen f := by
  by_cases h : p <;> simp [h]
@[simp] theorem va_if_bk {p : Prop} [Decidable p] {y : VOut} {f : VEnv → VOut} : (if p then VOut.bk σ else y).andThen f = if p then .bk σ else y.andThen f := by
  by_cases h : p <;> simp [h]
@[simp] theorem va_if_exc {p : Prop} [Decidable p] {x : Exc} {y : VOut} {f : VEnv → VOut} : (if p then VOut.exc x σ else y).andThen f = if p then .exc x σ else y.andThen f := by
  by_cases h : p <;> simp [h]
theorem va_if {p : Prop} [Decidable p] {x y : VOut} {f : VEnv → VOut} : (if p then x else y).andThen f = if p then x.andThen f else y.andThen f := by
  by_cases h : p <;> simp [h]
@[simp] theorem vk_nx {ks : List Nat} : (VOut.nx σ).kill ks = .nx (vwipe σ ks) := wrfl rfl
@[simp] theorem vk_ct {ks : List Nat} : (VOut.ct σ).kill ks = .ct (vwipe σ ks) := wrfl rfl
@[simp] theorem vk_bk {ks : List Nat} : (VOut.bk σ).kill ks = .bk (vwipe σ ks) := wrfl rfl
@[simp] theorem vk_rt {p : VF} {ks : List Nat} : (VOut.rt p).kill ks = .rt p := wrfl rfl
@[simp] theorem vk_exc {x : Exc} {ks : List Nat} : (VOut.exc x σ).kill ks = .exc x σ := wrfl rfl
@[simp] theorem vk_if {p : Prop} [Decidable p] {x y : VOut} {ks : List Nat} : (if p then x else y).kill ks = if p then x.kill ks else y.kill ks := by
  by_cases h : p <;> simp [h]
@[simp] theorem vwi_nil : vwipe σ [] = σ := wrfl rfl
@[simp] theorem vwi_cons {x : Nat} {xs : List Nat} : vwipe σ (x :: xs) = (vwipe σ xs).set x none := wrfl rfl
@[simp] theorem vsm_nil : vsetMany σ [] [] = some σ := wrfl rfl
@[simp] theorem vsm_cons {is : List Nat} {vs : List Vl} : vsetMany σ (i :: is) (v :: vs) = vsetMany (σ.set i (some (v, false))) is vs := wrfl rfl
@[simp] theorem vas_one : vassign (.one i) v σ = some (σ.set i (some (v, false))) := wrfl rfl
@[simp] theorem vas_many {is : List Nat} {vs : List Vl} : vassign (.many is) (.tup vs) σ = vsetMany σ is vs := wrfl rfl
@[simp] theorem vl_rt {p : VF} : vleave (.rt p) = .ok p := wrfl rfl
@[simp] theorem vl_nx : vleave (.nx σ) = .ok (.non, false) := wrfl rfl
@[simp] theorem vl_exc {x : Exc} : vleave (.exc x σ) = .exc x := wrfl rfl
@[simp] theorem vl_if {p : Prop} [Decidable p] {x y : VOut} : vleave (if p then x else y) = if p then vleave x else vleave y := by
  by_cases h : p <;> simp [h]
theorem vits_one (h : nvar e = true ∨ True) : vits c [e] σ = (vev c e σ).bind fun p => .ok ([p.1], vkeep p e.vars σ) := by unfold vits; rfl
@[simp] theorem vits_1 : vits c [e] σ = (vev c e σ).bind fun p => .ok ([p.1], vkeep p e.vars σ) := by unfold vits; rfl
@[simp] theorem vits_2 : vits c [a, b] σ = (vevs c [a, b] σ).bind fun vs => .ok (vs, if (Vl.dns vs).isSome = true then σ else vclear σ (E.varss [a, b])) := by unfold vits; rfl
theorem vbd_one {ks : List Nat} : vbd c (.one i) ss ks v σ = (vexs c ss (σ.set i (some (v, false)))).kill ks := rfl
theorem vbd_many {is : List Nat} {ks : List Nat} {vs : List Vl} : vbd c (.many is) ss ks (.tup vs) σ = (match vsetMany σ is vs with
  | some σ2 => (vexs c ss σ2).kill ks
  | none => .bad) := rfl
theorem vblk_one {elt : E} {ifs : List E} {own : List Nat} : vblk c elt (.one i) ifs own σ v = vnoExc ((vevt c ifs ((vwipe σ own).set i (some (v, false)))).bind fun t => if t = true then (vev c elt ((vwipe σ own).set i (some (v, false)))).bind fun y => .ok (some y.1) else .ok none) := rfl
theorem vblk_many {elt : E} {is : List Nat} {ifs : List E} {own : List Nat} {vs : List Vl} : vblk c elt (.many is) ifs own σ (.tup vs) = (match vsetMany (vwipe σ own) is vs with
  | none => .bad
  | some σ1 => vnoExc ((vevt c ifs σ1).bind fun t => if t = true then (vev c elt σ1).bind fun y => .ok (some y.1) else .ok none)) := rfl
@[simp] theorem vnoExc_if {α : Type} {p : Prop} [Decidable p] {x y : VR α} : vnoExc (if p then x else y) = if p then vnoExc x else vnoExc y := by
  by_cases h : p <;> simp [h]
def vfin (σ : VEnv) (x : Nat) : Option Vl → VOut
  | some u => .nx (σ.set x (some (u, true)))
  | none => .bad
@[simp] theorem vfin_some {x : Nat} : vfin σ x (some u) = .nx (σ.set x (some (u, true))) := wrfl rfl
def vup (σ : VEnv) (x : Nat) (f : Vl → Option Vl) : Option (Option VF) → VOut
  | some (some (v, true)) => vfin σ x (f v)
  | _ => .bad
@[simp] theorem vup_some {x : Nat} {f : Vl → Option Vl} : vup σ x f (some (some (v, true))) = vfin σ x (f v) := wrfl rfl
@[simp] theorem vupd_var {x : Nat} {f : Vl → Option Vl} : vupd σ (.var x) f = vup σ x f (vat σ x) := by
  rw [← vat_eq]
  unfold vupd vup vfin
  rw [show vtgt (.var x) = some x from rfl]
  all_goals
    cases q : σ[x]? with
    | none => simp only [q]
    | some o =>
      cases o with
      | none => simp only [q]
      | some p =>
        obtain ⟨v, fl⟩ := p
        cases fl with
        | true => simp only [q]; cases f v <;> rfl
        | false => simp only [q]
def vow : Option (Option VF) → Bool
  | some (some (.lst _, true)) => true
  | _ => false
@[simp] theorem vow_some {xs : List Vl} : vow (some (some (.lst xs, true))) = true := wrfl rfl
@[simp] theorem vown_var {x : Nat} : vown σ (.var x) = vow (vat σ x) := by
  rw [← vat_eq]
  unfold vown vow
  rw [show vtgt (.var x) = some x from rfl]
  all_goals
    cases q : σ[x]? with
    | none => simp only [q]
    | some o =>
      cases o with
      | none => simp only [q]
      | some p =>
        obtain ⟨v, fl⟩ := p
        cases fl with
        | true => cases v <;> simp only [q]
        | false => cases v <;> simp only [q]
@[simp] theorem vputS_ok {σ1 : VEnv} {p : VF} : vputS σ σ1 o v (.ok p) = vupd σ1 o fun a => vput a p.1 v := wrfl rfl
end
section
variable {a b d e o : E} {es : List E}
@[simp] theorem evr_var {i : Nat} : (E.var i).vars = [i] := by rw [E.vars]
@[simp] theorem np_var {i : Nat} : npop (.var i) = true := wrfl rfl
@[simp] theorem evr_cst {d0 : D} : (E.cst d0).vars = [] := by rw [E.vars]
@[simp] theorem np_cst {d0 : D} : npop (.cst d0) = true := wrfl rfl
@[simp] theorem nv_cst {d0 : D} : nvar (.cst d0) = true := wrfl rfl
@[simp] theorem evr_glb {x0 : String} : (E.glb x0).vars = [] := by rw [E.vars]
@[simp] theorem np_glb {x0 : String} : npop (.glb x0) = true := wrfl rfl
@[simp] theorem nv_glb {x0 : String} : nvar (.glb x0) = true := wrfl rfl
@[simp] theorem evr_bin {p : BOp} : (E.bin p a b).vars = a.vars ++ b.vars := by rw [E.vars]
@[simp] theorem np_bin {p : BOp} : npop (.bin p a b) = true := wrfl rfl
@[simp] theorem nv_bin {p : BOp} : nvar (.bin p a b) = true := wrfl rfl
@[simp] theorem evr_neg  : (E.neg a).vars = a.vars := by rw [E.vars]
@[simp] theorem np_neg  : npop (.neg a) = true := wrfl rfl
@[simp] theorem nv_neg  : nvar (.neg a) = true := wrfl rfl
@[simp] theorem evr_cmp {p : COp} : (E.cmp p a b).vars = a.vars ++ b.vars := by rw [E.vars]
@[simp] theorem np_cmp {p : COp} : npop (.cmp p a b) = true := wrfl rfl
@[simp] theorem nv_cmp {p : COp} : nvar (.cmp p a b) = true := wrfl rfl
@[simp] theorem evr_chain {p q : COp} : (E.chain p q a b d).vars = a.vars ++ (b.vars ++ d.vars) := by rw [E.vars]
@[simp] theorem np_chain {p q : COp} : npop (.chain p q a b d) = true := wrfl rfl
@[simp] theorem nv_chain {p q : COp} : nvar (.chain p q a b d) = true := wrfl rfl
@[simp] theorem evr_and  : (E.and a b).vars = a.vars ++ b.vars := by rw [E.vars]
@[simp] theorem np_and  : npop (.and a b) = true := wrfl rfl
@[simp] theorem nv_and  : nvar (.and a b) = true := wrfl rfl
@[simp] theorem evr_or  : (E.or a b).vars = a.vars ++ b.vars := by rw [E.vars]
@[simp] theorem np_or  : npop (.or a b) = true := wrfl rfl
@[simp] theorem nv_or  : nvar (.or a b) = true := wrfl rfl
@[simp] theorem evr_not  : (E.not a).vars = a.vars := by rw [E.vars]
@[simp] theorem np_not  : npop (.not a) = true := wrfl rfl
@[simp] theorem nv_not  : nvar (.not a) = true := wrfl rfl
@[simp] theorem evr_ite  : (E.ite a b d).vars = a.vars ++ (b.vars ++ d.vars) := by rw [E.vars]
@[simp] theorem np_ite  : npop (.ite a b d) = true := wrfl rfl
@[simp] theorem nv_ite  : nvar (.ite a b d) = true := wrfl rfl
@[simp] theorem evr_tup  : (E.tup es).vars = E.varss es := by rw [E.vars]
@[simp] theorem np_tup  : npop (.tup es) = true := wrfl rfl
@[simp] theorem nv_tup  : nvar (.tup es) = true := wrfl rfl
@[simp] theorem evr_lst  : (E.lst es).vars = E.varss es := by rw [E.vars]
@[simp] theorem np_lst  : npop (.lst es) = true := wrfl rfl
@[simp] theorem nv_lst  : nvar (.lst es) = true := wrfl rfl
@[simp] theorem evr_dct {t : Bool} : (E.dct t).vars = [] := by rw [E.vars]
@[simp] theorem np_dct {t : Bool} : npop (.dct t) = true := wrfl rfl
@[simp] theorem nv_dct {t : Bool} : nvar (.dct t) = true := wrfl rfl
@[simp] theorem evr_ix  : (E.ix a b).vars = a.vars ++ b.vars := by rw [E.vars]
@[simp] theorem np_ix  : npop (.ix a b) = true := wrfl rfl
@[simp] theorem nv_ix  : nvar (.ix a b) = true := wrfl rfl
@[simp] theorem evr_slc  : (E.slc a).vars = a.vars := by rw [E.vars]
@[simp] theorem np_slc  : npop (.slc a) = true := wrfl rfl
@[simp] theorem nv_slc  : nvar (.slc a) = true := wrfl rfl
@[simp] theorem evr_slcL  : (E.slcL a b).vars = a.vars ++ b.vars := by rw [E.vars]
@[simp] theorem np_slcL  : npop (.slcL a b) = true := wrfl rfl
@[simp] theorem nv_slcL  : nvar (.slcL a b) = true := wrfl rfl
@[simp] theorem evr_slcU  : (E.slcU a b).vars = a.vars ++ b.vars := by rw [E.vars]
@[simp] theorem np_slcU  : npop (.slcU a b) = true := wrfl rfl
@[simp] theorem nv_slcU  : nvar (.slcU a b) = true := wrfl rfl
@[simp] theorem evr_slcLU  : (E.slcLU a b d).vars = a.vars ++ (b.vars ++ d.vars) := by rw [E.vars]
@[simp] theorem np_slcLU  : npop (.slcLU a b d) = true := wrfl rfl
@[simp] theorem nv_slcLU  : nvar (.slcLU a b d) = true := wrfl rfl
@[simp] theorem evr_call {f : String} : (E.call f es).vars = E.varss es := by rw [E.vars]
@[simp] theorem np_call {f : String} : npop (.call f es) = true := wrfl rfl
@[simp] theorem nv_call {f : String} : nvar (.call f es) = true := wrfl rfl
@[simp] theorem evr_blt {g : Blt} : (E.blt g es).vars = E.varss es := by rw [E.vars]
@[simp] theorem np_blt {g : Blt} : npop (.blt g es) = true := wrfl rfl
@[simp] theorem nv_blt {g : Blt} : nvar (.blt g es) = true := wrfl rfl
@[simp] theorem evr_mth {m : Mth} : (E.mth m o es).vars = o.vars ++ E.varss es := by rw [E.vars]
@[simp] theorem nv_mth {m : Mth} : nvar (.mth m o es) = true := wrfl rfl
@[simp] theorem evr_isi {ts : List String} : (E.isi a ts).vars = a.vars := by rw [E.vars]
@[simp] theorem np_isi {ts : List String} : npop (.isi a ts) = true := wrfl rfl
@[simp] theorem nv_isi {ts : List String} : nvar (.isi a ts) = true := wrfl rfl
@[simp] theorem evr_fld {f : String} : (E.fld a f).vars = a.vars := by rw [E.vars]
@[simp] theorem np_fld {f : String} : npop (.fld a f) = true := wrfl rfl
@[simp] theorem nv_fld {f : String} : nvar (.fld a f) = true := wrfl rfl
@[simp] theorem evr_lc {tg : Tg} {k : Ik} {its ifs : List E} {own : List Nat} : (E.lc e tg k its ifs own).vars = E.varss its ++ (E.varss ifs ++ e.vars) := by rw [E.vars]
@[simp] theorem np_lc {tg : Tg} {k : Ik} {its ifs : List E} {own : List Nat} : npop (.lc e tg k its ifs own) = true := wrfl rfl
@[simp] theorem nv_lc {tg : Tg} {k : Ik} {its ifs : List E} {own : List Nat} : nvar (.lc e tg k its ifs own) = true := wrfl rfl
@[simp] theorem np_get : npop (.mth .get o es) = true := wrfl rfl
@[simp] theorem evs_nil : E.varss [] = [] := by rw [E.varss]
@[simp] theorem evs_cons : E.varss (e :: es) = e.vars ++ E.varss es := by rw [E.varss]
end
/-! ### data -/
section
variable {i j : Int} {s t : Str} {b b' : Bool} {xs ys : List Vl} {v u : Vl}
@[simp] theorem tr_bl' : vtr (.bl b) = .ok b := wrfl rfl
@[simp] theorem tr_int' : vtr (.int i) = .ok (i != 0) := wrfl rfl
@[simp] theorem w_add : vbin .add (.int i) (.int j) = .ok (.int (i + j), false) := wrfl rfl
@[simp] theorem w_sub : vbin .sub (.int i) (.int j) = .ok (.int (i - j), false) := wrfl rfl
theorem w_mul (h : okMul i j = true) : vbin .mul (.int i) (.int j) = .ok (.int (i * j), false) := by simp [vbin, vmul, h]
theorem okMul_l (h1 : -18446744073709551616 < i) (h2 : i < 18446744073709551616) : okMul i j = true := by
  unfold okMul smallI; simp; left; left; omega
theorem okMul_r (h1 : -18446744073709551616 < j) (h2 : j < 18446744073709551616) : okMul i j = true := by
  unfold okMul smallI; simp; left; right; omega
@[simp] theorem w_mul_l (h : -18446744073709551616 < i ∧ i < 18446744073709551616) : vbin .mul (.int i) (.int j) = .ok (.int (i * j), false) := w_mul (okMul_l h.1 h.2)
@[simp] theorem w_mul_r (h : -18446744073709551616 < j ∧ j < 18446744073709551616) : vbin .mul (.int i) (.int j) = .ok (.int (i * j), false) := w_mul (okMul_r h.1 h.2)
theorem w_fdiv' (h : okDiv j = true) : vbin .fdiv (.int i) (.int j) = .ok (.int (i / j), false) := by simp [vbin, h]
@[simp] theorem w_fdiv (h : 0 < j ∧ j < 1073741824) : vbin .fdiv (.int i) (.int j) = .ok (.int (i / j), false) := w_fdiv' (by unfold okDiv; simp [h])
@[simp] theorem w_mod (h : 0 < j) : vbin .mod (.int i) (.int j) = .ok (.int (i % j), false) := by simp [vbin, h]
@[simp] theorem w_pow (h : 0 ≤ j ∧ j ≤ 1000000 ∧ -18446744073709551616 < i ∧ i < 18446744073709551616) : vbin .pow (.int i) (.int j) = .ok (.int (i ^ j.toNat), false) := by
  have h2 : okPow i j = true := by unfold okPow; simp; omega
  simp [vbin, h2]
@[simp] theorem w_cat (h : xs.length + ys.length ≤ 16777216) : vbin .add (.tup xs) (.tup ys) = .ok (.tup (xs ++ ys), false) := by simp [vbin, vadd, lim, h]
@[simp] theorem w_catl (h : xs.length + ys.length ≤ 16777216) : vbin .add (.lst xs) (.lst ys) = .ok (.lst (xs ++ ys), true) := by simp [vbin, vadd, lim, h]
@[simp] theorem w_cats (h : s.length + t.length ≤ 16777216) : vbin .add (.str s) (.str t) = .ok (.str (s ++ t), false) := by simp [vbin, vadd, lim, h]
@[simp] theorem w_eq_ii : vcmp .eq (.int i) (.int j) = .ok (.bl (i == j), false) := by simp [vcmp, veq, Vl.lp, Vl.dn, okd, D.dle, voptB, D.eqv]
@[simp] theorem w_ne_ii : vcmp .ne (.int i) (.int j) = .ok (.bl (!(i == j)), false) := by simp [vcmp, veq, Vl.lp, Vl.dn, okd, D.dle, voptB, D.eqv]
@[simp] theorem w_eq_ss : vcmp .eq (.str s) (.str t) = .ok (.bl (s == t), false) := by simp [vcmp, veq, Vl.lp, Vl.dn, okd, D.dle, voptB, D.eqv]
@[simp] theorem w_ne_ss : vcmp .ne (.str s) (.str t) = .ok (.bl (!(s == t)), false) := by simp [vcmp, veq, Vl.lp, Vl.dn, okd, D.dle, voptB, D.eqv]
@[simp] theorem w_eq_bb : vcmp .eq (.bl b) (.bl b') = .ok (.bl (b == b'), false) := by simp [vcmp, veq, Vl.lp, Vl.dn, okd, D.dle, voptB, D.eqv]
@[simp] theorem w_ne_bb : vcmp .ne (.bl b) (.bl b') = .ok (.bl (!(b == b')), false) := by simp [vcmp, veq, Vl.lp, Vl.dn, okd, D.dle, voptB, D.eqv]
@[simp] theorem w_lt : vcmp .lt (.int i) (.int j) = .ok (.bl (decide (i < j)), false) := by simp [vcmp, vlt, Vl.dn, okLt, D.alike, D.isNon, D.pure, D.dle, D.lt]
@[simp] theorem w_gt : vcmp .gt (.int i) (.int j) = .ok (.bl (decide (j < i)), false) := by simp [vcmp, vlt, Vl.dn, okLt, D.alike, D.isNon, D.pure, D.dle, D.lt]
@[simp] theorem w_le : vcmp .le (.int i) (.int j) = .ok (.bl (decide (i ≤ j)), false) := by
  simp [vcmp, vlt, Vl.dn, okLt, D.alike, D.isNon, D.pure, D.dle, D.lt]
  by_cases h : j < i <;> simp [h] <;> omega
@[simp] theorem w_ge : vcmp .ge (.int i) (.int j) = .ok (.bl (decide (j ≤ i)), false) := by
  simp [vcmp, vlt, Vl.dn, okLt, D.alike, D.isNon, D.pure, D.dle, D.lt]
  by_cases h : i < j <;> simp [h] <;> omega
@[simp] theorem w_is : vcmp .is v .non = .ok (.bl v.isNon, false) := wrfl rfl
@[simp] theorem w_isnot : vcmp .isnot v .non = .ok (.bl (!v.isNon), false) := wrfl rfl
@[simp] theorem vn_int : Vl.isNon (.int i) = false := wrfl rfl
@[simp] theorem vn_str : Vl.isNon (.str s) = false := wrfl rfl
@[simp] theorem vn_bl : Vl.isNon (.bl b) = false := wrfl rfl
@[simp] theorem vn_tup : Vl.isNon (.tup xs) = false := wrfl rfl
@[simp] theorem vn_lst : Vl.isNon (.lst xs) = false := wrfl rfl
@[simp] theorem vn_non : Vl.isNon .non = true := wrfl rfl
@[simp] theorem vob_bl {r x y : VR VF} : vonBl (.bl b) x y = if b = true then x else y := wrfl rfl
@[simp] theorem dn_int : (Vl.int i).dn = some (.int i) := by rw [Vl.dn]
@[simp] theorem dn_str : (Vl.str s).dn = some (.str s) := by rw [Vl.dn]
@[simp] theorem dn_bl : (Vl.bl b).dn = some (.bl b) := by rw [Vl.dn]
@[simp] theorem dn_non : Vl.non.dn = some .non := by rw [Vl.dn]
@[simp] theorem dn_tup : (Vl.tup xs).dn = (Vl.dns xs).map .tup := by rw [Vl.dn]
@[simp] theorem dns_nil : Vl.dns [] = some [] := by rw [Vl.dns]
theorem dns_cons : Vl.dns (v :: xs) = (match Vl.dn v, Vl.dns xs with
    | some d, some ds => some (d :: ds)
    | _, _ => none) := by rw [Vl.dns] <;> rfl
@[simp] theorem dns_some {d : D} {ds : List D} (h : v.dn = some d) (g : Vl.dns xs = some ds) : Vl.dns (v :: xs) = some (d :: ds) := by rw [dns_cons, h, g]
@[simp] theorem dns_isSome : (Vl.dns (v :: xs)).isSome = (v.dn.isSome && (Vl.dns xs).isSome) := by
  rw [dns_cons]
  cases Vl.dn v <;> cases Vl.dns xs <;> rfl
theorem dns_map {α : Type} {f : α → Vl} {g : α → D} : ∀ (l : List α), (∀ x ∈ l, (f x).dn = some (g x)) → Vl.dns (l.map f) = some (l.map g)
  | [], _ => by simp
  | x :: l, h => by
    rw [List.map_cons, List.map_cons, dns_some (h x List.mem_cons_self) (dns_map l fun y hy => h y (List.mem_cons_of_mem _ hy))]
theorem dns_mem {l : List Vl} (h : ∀ x ∈ l, x.dn.isSome = true) : (Vl.dns l).isSome = true := by
  induction l with
  | nil => simp
  | cons x l ih => simp [h x List.mem_cons_self, ih fun y hy => h y (List.mem_cons_of_mem _ hy)]
theorem dns_app : ∀ {xs : List Vl} {ds es : List D} (h : Vl.dns xs = some ds) (g : Vl.dns ys = some es), Vl.dns (xs ++ ys) = some (ds ++ es)
  | [], ds, es, h, g => by
    rw [dns_nil] at h
    cases h
    exact g
  | x :: xs, ds, es, h, g => by
    rw [dns_cons] at h
    cases e1 : Vl.dn x with
    | none => rw [e1] at h; cases h
    | some d =>
      cases e2 : Vl.dns xs with
      | none => rw [e1, e2] at h; cases h
      | some r =>
        rw [e1, e2] at h
        cases h
        exact dns_some e1 (dns_app e2 g)
@[simp] theorem dns_ints {l : List Int} : Vl.dns (l.map Vl.int) = some (l.map D.int) := dns_map l fun _ _ => dn_int
@[simp] theorem dns_strs {l : List Str} : Vl.dns (l.map Vl.str) = some (l.map D.str) := dns_map l fun _ _ => dn_str
@[simp] theorem dns_app_isSome : (Vl.dns (xs ++ ys)).isSome = ((Vl.dns xs).isSome && (Vl.dns ys).isSome) := by
  induction xs with
  | nil => simp
  | cons x xs ih => simp [ih, Bool.and_assoc]
@[simp] theorem okd_f {d : D} : okd (false, d) = d.dle 50 := by unfold okd; rfl
@[simp] theorem w_len_t : vblt .len [.tup xs] = .ok (.int xs.length, false) := wrfl rfl
@[simp] theorem w_len_l : vblt .len [.lst xs] = .ok (.int xs.length, false) := wrfl rfl
@[simp] theorem w_len_r : vblt .len [.ro xs] = .ok (.int xs.length, false) := wrfl rfl
@[simp] theorem w_len_s : vblt .len [.str s] = .ok (.int s.length, false) := wrfl rfl
@[simp] theorem w_tuple_l : vblt .tuple [.lst xs] = .ok (.tup xs, false) := wrfl rfl
@[simp] theorem w_tuple_t : vblt .tuple [.tup xs] = .ok (.tup xs, false) := wrfl rfl
@[simp] theorem w_list_l : vblt .list [.lst xs] = .ok (.lst xs, true) := wrfl rfl
@[simp] theorem w_list_t : vblt .list [.tup xs] = .ok (.lst xs, true) := wrfl rfl
@[simp] theorem w_abs : vblt .abs [.int i] = .ok (.int (if i < 0 then -i else i), false) := wrfl rfl
@[simp] theorem w_int : vblt .int [.int i] = .ok (.int i, false) := wrfl rfl
@[simp] theorem w_min2 : vblt .min [.int i, .int j] = .ok (.int (min i j), false) := by
  have e : (if j < i then j else i) = min i j := by split <;> omega
  rw [← e]; rfl
@[simp] theorem w_max2 : vblt .max [.int i, .int j] = .ok (.int (max i j), false) := by
  have e : (if j > i then j else i) = max i j := by split <;> omega
  rw [← e]; rfl
@[simp] theorem w_min3 {k : Int} : vblt .min [.int i, .int j, .int k] = .ok (.int (min (min i j) k), false) := by
  have e : (if j < i then (if k < j then k else j) else (if k < i then k else i)) = min (min i j) k := by
    split <;> split <;> omega
  rw [← e]; rfl
@[simp] theorem w_is_b {x y : Bool} : vcmp .is (.bl x) (.bl y) = .ok (.bl (x == y), false) := wrfl rfl
@[simp] theorem w_isnot_b {x y : Bool} : vcmp .isnot (.bl x) (.bl y) = .ok (.bl (!(x == y)), false) := wrfl rfl
theorem dns_bls {l : List Bool} : Vl.dns (l.map Vl.bl) = some (l.map D.bl) := by
  induction l with
  | nil => rfl
  | cons a l ih => simp only [List.map_cons, Vl.dns, Vl.dn, ih]
theorem boolsOf_bls {l : List Bool} : boolsOf (l.map D.bl) = some l := by
  induction l with
  | nil => rfl
  | cons a l ih => simp only [List.map_cons, boolsOf, ih, Option.map_some]
@[simp] theorem w_any {l : List Bool} : vblt .any [.lst (l.map Vl.bl)] = .ok (.bl (l.any id), false) := by
  simp [vblt, vbools, dns_bls, boolsOf_bls]
@[simp] theorem w_all {l : List Bool} : vblt .all [.lst (l.map Vl.bl)] = .ok (.bl (l.all id), false) := by
  simp [vblt, vbools, dns_bls, boolsOf_bls]
@[simp] theorem w_any_m {β : Type} {f : β → Bool} {l : List β} : vblt .any [.lst (l.map fun b => Vl.bl (f b))] = .ok (.bl (l.any f), false) := by
  have e : (l.map fun b => Vl.bl (f b)) = (l.map f).map Vl.bl := by rw [List.map_map]; rfl
  rw [e, w_any, List.any_map]
  rfl
@[simp] theorem w_all_m {β : Type} {f : β → Bool} {l : List β} : vblt .all [.lst (l.map fun b => Vl.bl (f b))] = .ok (.bl (l.all f), false) := by
  have e : (l.map fun b => Vl.bl (f b)) = (l.map f).map Vl.bl := by rw [List.map_map]; rfl
  rw [e, w_all, List.all_map]
  rfl
theorem vrng0 (n : Nat) : vrng 0 n = (List.range n).map fun (i : Nat) => Vl.int (i : Int) := by
  unfold vrng
  simp
theorem okR_nat {n : Nat} (h : n ≤ lim) : okR (n : Int) = true := by
  unfold lim at h
  unfold okR
  rw [decide_eq_true_eq]
  omega
theorem vrngs_n {n : Nat} (h : n ≤ lim) : vrngs [.int (n : Int)] = some ((List.range n).map fun (i : Nat) => Vl.int (i : Int)) := by
  have h1 := okR_nat h
  rw [← vrng0]
  unfold vrngs
  generalize lim = L at h ⊢
  have h2 : okR (n : Int) = true ∧ (n : Int).toNat ≤ L := ⟨h1, by rw [Int.toNat_natCast]; exact h⟩
  simp [h1, h]
theorem w_rngT_of {vs xs : List Vl} (h : vrngs vs = some xs) : vblt .rngT vs = .ok (.tup xs, false) := by simp only [vblt, h]
theorem w_rngL_of {vs xs : List Vl} (h : vrngs vs = some xs) : vblt .rngL vs = .ok (.lst xs, true) := by simp only [vblt, h]
theorem w_rngT {n : Nat} (h : n ≤ lim) : vblt .rngT [.int (n : Int)] = .ok (.tup ((List.range n).map fun (i : Nat) => Vl.int (i : Int)), false) := w_rngT_of (vrngs_n h)
theorem w_rngL {n : Nat} (h : n ≤ lim) : vblt .rngL [.int (n : Int)] = .ok (.lst ((List.range n).map fun (i : Nat) => Vl.int (i : Int)), true) := w_rngL_of (vrngs_n h)
@[simp] theorem w_sum {l : List Int} : vblt .sum [.lst (l.map Vl.int)] = .ok (.int l.sum, false) := by
  have h : intsOf (l.map D.int) = some l := by
    induction l with
    | nil => rfl
    | cons a l ih => simp [intsOf, ih]
  simp [vblt, vsum, h]
@[simp] theorem w_sumT {l : List Int} : vblt .sum [.tup (l.map Vl.int)] = .ok (.int l.sum, false) := by
  have h : intsOf (l.map D.int) = some l := by
    induction l with
    | nil => rfl
    | cons a l ih => simp [intsOf, ih]
  simp [vblt, vsum, h]
@[simp] theorem w_sum_m {β : Type} {f : β → Int} {l : List β} : vblt .sum [.lst (l.map fun b => Vl.int (f b))] = .ok (.int (l.map f).sum, false) := by
  have := w_sum (l := l.map f)
  rw [List.map_map] at this
  exact this
theorem ixN_nat' {n k : Nat} (h : k < n) : ixN n (k : Int) = some k := by
  have h1 : ¬ (k : Int) < 0 := by omega
  simp [ixN, h1, h]
theorem atI_of' {α : Type} {l : List α} {i : Int} (h0 : 0 ≤ i) (h : i < l.length) : atI l i = l[i.toNat]? := by
  have e : i = (i.toNat : Int) := by omega
  unfold atI
  conv => lhs; rw [e, ixN_nat' (show i.toNat < l.length by omega)]
theorem ix_t (h0 : 0 ≤ i) (h : i < xs.length) : vix (.tup xs) (.int i) = .ok (xs[i.toNat]'(by omega), false) := by
  simp only [vix, vixL]
  rw [atI_of' h0 h, List.getElem?_eq_getElem (by omega)]
theorem ix_l (h0 : 0 ≤ i) (h : i < xs.length) : vix (.lst xs) (.int i) = .ok (xs[i.toNat]'(by omega), false) := by
  simp only [vix, vixL]
  rw [atI_of' h0 h, List.getElem?_eq_getElem (by omega)]
theorem ix_r (h0 : 0 ≤ i) (h : i < xs.length) : vix (.ro xs) (.int i) = .ok (xs[i.toNat]'(by omega), false) := by
  simp only [vix, vixL]
  rw [atI_of' h0 h, List.getElem?_eq_getElem (by omega)]
theorem atI_nat_cons {α : Type} {v : α} {xs : List α} {n : Nat} : atI (v :: xs) ((n + 1 : Nat) : Int) = atI xs (n : Int) := by
  unfold atI ixN
  simp only [List.length_cons]
  have h1 : ¬ ((n + 1 : Nat) : Int) < 0 := by omega
  have h2 : ¬ ((n : Nat) : Int) < 0 := by omega
  simp only [h1, h2, if_false]
  by_cases h : n < xs.length
  · rw [if_pos (by omega), if_pos (by omega)]
    simp
  · rw [if_neg (by omega), if_neg (by omega)]
theorem atI_zero {α : Type} {v : α} {xs : List α} : atI (v :: xs) ((0 : Nat) : Int) = some v := by
  unfold atI ixN
  simp
@[simp] theorem ix_t0 : vix (.tup (v :: xs)) (.int 0) = .ok (v, false) := by
  simp only [vix, vixL]
  rw [show (0 : Int) = ((0 : Nat) : Int) from rfl, atI_zero]
@[simp] theorem ix_l0 : vix (.lst (v :: xs)) (.int 0) = .ok (v, false) := by
  simp only [vix, vixL]
  rw [show (0 : Int) = ((0 : Nat) : Int) from rfl, atI_zero]
@[simp] theorem ix_t1 {v0 : Vl} : vix (.tup (v0 :: v :: xs)) (.int 1) = .ok (v, false) := by
  simp only [vix, vixL]
  rw [show (1 : Int) = ((1 : Nat) : Int) from rfl, show ((1 : Nat) : Int) = ((0 + 1 : Nat) : Int) from rfl, atI_nat_cons, atI_zero]
@[simp] theorem ix_l1 {v0 : Vl} : vix (.lst (v0 :: v :: xs)) (.int 1) = .ok (v, false) := by
  simp only [vix, vixL]
  rw [show (1 : Int) = ((1 : Nat) : Int) from rfl, show ((1 : Nat) : Int) = ((0 + 1 : Nat) : Int) from rfl, atI_nat_cons, atI_zero]
@[simp] theorem ix_t2 {v0 v1 : Vl} : vix (.tup (v0 :: v1 :: v :: xs)) (.int 2) = .ok (v, false) := by
  simp only [vix, vixL]
  rw [show (2 : Int) = ((2 : Nat) : Int) from rfl, show ((2 : Nat) : Int) = ((1 + 1 : Nat) : Int) from rfl, atI_nat_cons, show ((1 : Nat) : Int) = ((0 + 1 : Nat) : Int) from rfl, atI_nat_cons, atI_zero]
@[simp] theorem ix_l2 {v0 v1 : Vl} : vix (.lst (v0 :: v1 :: v :: xs)) (.int 2) = .ok (v, false) := by
  simp only [vix, vixL]
  rw [show (2 : Int) = ((2 : Nat) : Int) from rfl, show ((2 : Nat) : Int) = ((1 + 1 : Nat) : Int) from rfl, atI_nat_cons, show ((1 : Nat) : Int) = ((0 + 1 : Nat) : Int) from rfl, atI_nat_cons, atI_zero]
@[simp] theorem ix_t3 {v0 v1 v2 : Vl} : vix (.tup (v0 :: v1 :: v2 :: v :: xs)) (.int 3) = .ok (v, false) := by
  simp only [vix, vixL]
  rw [show (3 : Int) = ((3 : Nat) : Int) from rfl, show ((3 : Nat) : Int) = ((2 + 1 : Nat) : Int) from rfl, atI_nat_cons, show ((2 : Nat) : Int) = ((1 + 1 : Nat) : Int) from rfl, atI_nat_cons, show ((1 : Nat) : Int) = ((0 + 1 : Nat) : Int) from rfl, atI_nat_cons, atI_zero]
@[simp] theorem ix_l3 {v0 v1 v2 : Vl} : vix (.lst (v0 :: v1 :: v2 :: v :: xs)) (.int 3) = .ok (v, false) := by
  simp only [vix, vixL]
  rw [show (3 : Int) = ((3 : Nat) : Int) from rfl, show ((3 : Nat) : Int) = ((2 + 1 : Nat) : Int) from rfl, atI_nat_cons, show ((2 : Nat) : Int) = ((1 + 1 : Nat) : Int) from rfl, atI_nat_cons, show ((1 : Nat) : Int) = ((0 + 1 : Nat) : Int) from rfl, atI_nat_cons, atI_zero]
@[simp] theorem ix_t4 {v0 v1 v2 v3 : Vl} : vix (.tup (v0 :: v1 :: v2 :: v3 :: v :: xs)) (.int 4) = .ok (v, false) := by
  simp only [vix, vixL]
  rw [show (4 : Int) = ((4 : Nat) : Int) from rfl, show ((4 : Nat) : Int) = ((3 + 1 : Nat) : Int) from rfl, atI_nat_cons, show ((3 : Nat) : Int) = ((2 + 1 : Nat) : Int) from rfl, atI_nat_cons, show ((2 : Nat) : Int) = ((1 + 1 : Nat) : Int) from rfl, atI_nat_cons, show ((1 : Nat) : Int) = ((0 + 1 : Nat) : Int) from rfl, atI_nat_cons, atI_zero]
@[simp] theorem ix_l4 {v0 v1 v2 v3 : Vl} : vix (.lst (v0 :: v1 :: v2 :: v3 :: v :: xs)) (.int 4) = .ok (v, false) := by
  simp only [vix, vixL]
  rw [show (4 : Int) = ((4 : Nat) : Int) from rfl, show ((4 : Nat) : Int) = ((3 + 1 : Nat) : Int) from rfl, atI_nat_cons, show ((3 : Nat) : Int) = ((2 + 1 : Nat) : Int) from rfl, atI_nat_cons, show ((2 : Nat) : Int) = ((1 + 1 : Nat) : Int) from rfl, atI_nat_cons, show ((1 : Nat) : Int) = ((0 + 1 : Nat) : Int) from rfl, atI_nat_cons, atI_zero]
@[simp] theorem ix_t5 {v0 v1 v2 v3 v4 : Vl} : vix (.tup (v0 :: v1 :: v2 :: v3 :: v4 :: v :: xs)) (.int 5) = .ok (v, false) := by
  simp only [vix, vixL]
  rw [show (5 : Int) = ((5 : Nat) : Int) from rfl, show ((5 : Nat) : Int) = ((4 + 1 : Nat) : Int) from rfl, atI_nat_cons, show ((4 : Nat) : Int) = ((3 + 1 : Nat) : Int) from rfl, atI_nat_cons, show ((3 : Nat) : Int) = ((2 + 1 : Nat) : Int) from rfl, atI_nat_cons, show ((2 : Nat) : Int) = ((1 + 1 : Nat) : Int) from rfl, atI_nat_cons, show ((1 : Nat) : Int) = ((0 + 1 : Nat) : Int) from rfl, atI_nat_cons, atI_zero]
@[simp] theorem ix_l5 {v0 v1 v2 v3 v4 : Vl} : vix (.lst (v0 :: v1 :: v2 :: v3 :: v4 :: v :: xs)) (.int 5) = .ok (v, false) := by
  simp only [vix, vixL]
  rw [show (5 : Int) = ((5 : Nat) : Int) from rfl, show ((5 : Nat) : Int) = ((4 + 1 : Nat) : Int) from rfl, atI_nat_cons, show ((4 : Nat) : Int) = ((3 + 1 : Nat) : Int) from rfl, atI_nat_cons, show ((3 : Nat) : Int) = ((2 + 1 : Nat) : Int) from rfl, atI_nat_cons, show ((2 : Nat) : Int) = ((1 + 1 : Nat) : Int) from rfl, atI_nat_cons, show ((1 : Nat) : Int) = ((0 + 1 : Nat) : Int) from rfl, atI_nat_cons, atI_zero]
@[simp] theorem ix_t6 {v0 v1 v2 v3 v4 v5 : Vl} : vix (.tup (v0 :: v1 :: v2 :: v3 :: v4 :: v5 :: v :: xs)) (.int 6) = .ok (v, false) := by
  simp only [vix, vixL]
  rw [show (6 : Int) = ((6 : Nat) : Int) from rfl, show ((6 : Nat) : Int) = ((5 + 1 : Nat) : Int) from rfl, atI_nat_cons, show ((5 : Nat) : Int) = ((4 + 1 : Nat) : Int) from rfl, atI_nat_cons, show ((4 : Nat) : Int) = ((3 + 1 : Nat) : Int) from rfl, atI_nat_cons, show ((3 : Nat) : Int) = ((2 + 1 : Nat) : Int) from rfl, atI_nat_cons, show ((2 : Nat) : Int) = ((1 + 1 : Nat) : Int) from rfl, atI_nat_cons, show ((1 : Nat) : Int) = ((0 + 1 : Nat) : Int) from rfl, atI_nat_cons, atI_zero]
@[simp] theorem ix_l6 {v0 v1 v2 v3 v4 v5 : Vl} : vix (.lst (v0 :: v1 :: v2 :: v3 :: v4 :: v5 :: v :: xs)) (.int 6) = .ok (v, false) := by
  simp only [vix, vixL]
  rw [show (6 : Int) = ((6 : Nat) : Int) from rfl, show ((6 : Nat) : Int) = ((5 + 1 : Nat) : Int) from rfl, atI_nat_cons, show ((5 : Nat) : Int) = ((4 + 1 : Nat) : Int) from rfl, atI_nat_cons, show ((4 : Nat) : Int) = ((3 + 1 : Nat) : Int) from rfl, atI_nat_cons, show ((3 : Nat) : Int) = ((2 + 1 : Nat) : Int) from rfl, atI_nat_cons, show ((2 : Nat) : Int) = ((1 + 1 : Nat) : Int) from rfl, atI_nat_cons, show ((1 : Nat) : Int) = ((0 + 1 : Nat) : Int) from rfl, atI_nat_cons, atI_zero]
@[simp] theorem ix_t7 {v0 v1 v2 v3 v4 v5 v6 : Vl} : vix (.tup (v0 :: v1 :: v2 :: v3 :: v4 :: v5 :: v6 :: v :: xs)) (.int 7) = .ok (v, false) := by
  simp only [vix, vixL]
  rw [show (7 : Int) = ((7 : Nat) : Int) from rfl, show ((7 : Nat) : Int) = ((6 + 1 : Nat) : Int) from rfl, atI_nat_cons, show ((6 : Nat) : Int) = ((5 + 1 : Nat) : Int) from rfl, atI_nat_cons, show ((5 : Nat) : Int) = ((4 + 1 : Nat) : Int) from rfl, atI_nat_cons, show ((4 : Nat) : Int) = ((3 + 1 : Nat) : Int) from rfl, atI_nat_cons, show ((3 : Nat) : Int) = ((2 + 1 : Nat) : Int) from rfl, atI_nat_cons, show ((2 : Nat) : Int) = ((1 + 1 : Nat) : Int) from rfl, atI_nat_cons, show ((1 : Nat) : Int) = ((0 + 1 : Nat) : Int) from rfl, atI_nat_cons, atI_zero]
@[simp] theorem ix_l7 {v0 v1 v2 v3 v4 v5 v6 : Vl} : vix (.lst (v0 :: v1 :: v2 :: v3 :: v4 :: v5 :: v6 :: v :: xs)) (.int 7) = .ok (v, false) := by
  simp only [vix, vixL]
  rw [show (7 : Int) = ((7 : Nat) : Int) from rfl, show ((7 : Nat) : Int) = ((6 + 1 : Nat) : Int) from rfl, atI_nat_cons, show ((6 : Nat) : Int) = ((5 + 1 : Nat) : Int) from rfl, atI_nat_cons, show ((5 : Nat) : Int) = ((4 + 1 : Nat) : Int) from rfl, atI_nat_cons, show ((4 : Nat) : Int) = ((3 + 1 : Nat) : Int) from rfl, atI_nat_cons, show ((3 : Nat) : Int) = ((2 + 1 : Nat) : Int) from rfl, atI_nat_cons, show ((2 : Nat) : Int) = ((1 + 1 : Nat) : Int) from rfl, atI_nat_cons, show ((1 : Nat) : Int) = ((0 + 1 : Nat) : Int) from rfl, atI_nat_cons, atI_zero]
@[simp] theorem vapp_ok (h : xs.length < 16777216) : vapp v (.lst xs) = some (.lst (xs ++ [v])) := by simp [vapp, lim, h]
@[simp] theorem vext_ok (h : xs.length + ys.length ≤ 16777216 ∧ (Vl.dns ys).isSome = true) : vext (.lst ys) (.lst xs) = some (.lst (xs ++ ys)) := by simp [vext, lim, h]
@[simp] theorem isi_non {T : String} : visi2 .non [T] = .ok (.bl (T == "NoneType"), false) := wrfl rfl
@[simp] theorem isi_bl {T : String} : visi2 (.bl b) [T] = .ok (.bl (T == "bool" || T == "int"), false) := wrfl rfl
@[simp] theorem isi_int {T : String} : visi2 (.int i) [T] = .ok (.bl (T == "int"), false) := wrfl rfl
@[simp] theorem isi_str {T : String} : visi2 (.str s) [T] = .ok (.bl (T == "str"), false) := wrfl rfl
@[simp] theorem isi_tup {T : String} : visi2 (.tup xs) [T] = .ok (.bl (T == "tuple"), false) := wrfl rfl
@[simp] theorem isi_lst {T : String} : visi2 (.lst xs) [T] = .ok (.bl (T == "list"), false) := wrfl rfl
@[simp] theorem wk_tup (h : xs.length ≤ 16777216) : vwk .val [.tup xs] = .ok xs := by simp [vwk, vwalk, lim, h]
@[simp] theorem wk_lst (h : xs.length ≤ 16777216) : vwk .val [.lst xs] = .ok xs := by simp [vwk, vwalk, lim, h]
@[simp] theorem wk_ro (h : xs.length ≤ 16777216) : vwk .val [.ro xs] = .ok xs := by simp [vwk, vwalk, lim, h]
theorem okR_of' (h1 : -4611686018427387904 ≤ i) (h2 : i < 4611686018427387904) : okR i = true := by
  unfold okR
  simp
  omega
theorem vrng_len {lo : Int} {n : Nat} : (vrng lo n).length = n := by simp [vrng]
@[simp] theorem wk_rng (h : -4611686018427387904 ≤ i ∧ i < 16777216) : vwk .rng [.int i] = .ok (vrng 0 i.toNat) := by
  simp only [vwk, vwalk, okR_of' h.1 (by omega), if_true, vrng_len]
  rw [if_pos (by unfold lim; omega)]
@[simp] theorem wk_rng2 (h : -4611686018427387904 ≤ i ∧ i < 4611686018427387904 ∧ -4611686018427387904 ≤ j ∧ j < 4611686018427387904 ∧ j - i < 16777216) : vwk .rng [.int i, .int j] = .ok (vrng i (j - i).toNat) := by
  simp only [vwk, vwalk, okR_of' h.1 h.2.1, okR_of' h.2.2.1 h.2.2.2.1, and_self, if_true, vrng_len]
  rw [if_pos (by unfold lim; omega)]
@[simp] theorem wf_rng {f : List Vl → VOut} (h : -4611686018427387904 ≤ i ∧ i < 4611686018427387904) : vwkF .rng [.int i] f = f (vrng 0 i.toNat) := by
  simp only [vwkF, vwalk, okR_of' h.1 h.2, if_true]
@[simp] theorem wf_rng2 {f : List Vl → VOut} (h : -4611686018427387904 ≤ i ∧ i < 4611686018427387904 ∧ -4611686018427387904 ≤ j ∧ j < 4611686018427387904) : vwkF .rng [.int i, .int j] f = f (vrng i (j - i).toNat) := by
  simp only [vwkF, vwalk, okR_of' h.1 h.2.1, okR_of' h.2.2.1 h.2.2.2, and_self, if_true]
@[simp] theorem wf_tup {f : List Vl → VOut} : vwkF .val [.tup xs] f = f xs := wrfl rfl
@[simp] theorem wf_lst {f : List Vl → VOut} : vwkF .val [.lst xs] f = f xs := wrfl rfl
@[simp] theorem wf_ro {f : List Vl → VOut} : vwkF .val [.ro xs] f = f xs := wrfl rfl
@[simp] theorem wf_str {f : List Vl → VOut} : vwkF .val [.str s] f = f (vchars s) := wrfl rfl
end
end Sk
end
section
set_option Elab.async false
set_option linter.all false
set_option autoImplicit false
set_option maxRecDepth 100000
/-! SkW2: loops, comprehensions, dicts, calls. -/
namespace Sk
open PySem (Str)
def VOut.go : VOut → Option VEnv
  | .nx σ => some σ
  | .ct σ => some σ
  | _ => none
@[simp] theorem go_nx {σ : VEnv} : (VOut.nx σ).go = some σ := wrfl rfl
@[simp] theorem go_ct {σ : VEnv} : (VOut.ct σ).go = some σ := wrfl rfl
@[simp] theorem go_if {p : Prop} [Decidable p] {x y : VOut} : (if p then x else y).go = if p then x.go else y.go := by
  by_cases h : p <;> simp [h]
theorem vfor_nil {b : Vl → VEnv → VOut} {σ : VEnv} : vforL b [] σ = .nx σ := rfl
theorem vfor_go {b : Vl → VEnv → VOut} {x : Vl} {xs : List Vl} {σ σ' : VEnv} (h : (b x σ).go = some σ') : vforL b (x :: xs) σ = vforL b xs σ' := by
  rw [vforL]
  cases q : b x σ with
  | nx τ => rw [q] at h; cases h; rfl
  | ct τ => rw [q] at h; cases h; rfl
  | _ => rw [q] at h; cases h
theorem vfor_rt {b : Vl → VEnv → VOut} {x : Vl} {xs : List Vl} {σ : VEnv} {p : VF} (h : b x σ = .rt p) : vforL b (x :: xs) σ = .rt p := by
  rw [vforL, h]
theorem vfor_bk {b : Vl → VEnv → VOut} {x : Vl} {xs : List Vl} {σ σ' : VEnv} (h : b x σ = .bk σ') : vforL b (x :: xs) σ = .nx σ' := by
  rw [vforL, h]
theorem vfor_exc {b : Vl → VEnv → VOut} {x : Vl} {xs : List Vl} {σ σ' : VEnv} {p : Exc} (h : b x σ = .exc p σ') : vforL b (x :: xs) σ = .exc p σ' := by
  rw [vforL, h]
/-- one turn -/
def VOut.turn (o : VOut) (f : VEnv → VOut) : VOut := match o with
  | .nx σ => f σ
  | .ct σ => f σ
  | .bk σ => .nx σ
  | o => o
theorem vfor_cons {b : Vl → VEnv → VOut} {x : Vl} {xs : List Vl} {σ : VEnv} : vforL b (x :: xs) σ = (b x σ).turn (vforL b xs) := by
  rw [vforL]
  cases b x σ <;> rfl
@[simp] theorem tu_nx {σ : VEnv} {f : VEnv → VOut} : (VOut.nx σ).turn f = f σ := wrfl rfl
@[simp] theorem tu_ct {σ : VEnv} {f : VEnv → VOut} : (VOut.ct σ).turn f = f σ := wrfl rfl
@[simp] theorem tu_bk {σ : VEnv} {f : VEnv → VOut} : (VOut.bk σ).turn f = .nx σ := wrfl rfl
@[simp] theorem tu_rt {p : VF} {f : VEnv → VOut} : (VOut.rt p).turn f = .rt p := wrfl rfl
@[simp] theorem tu_exc {x : Exc} {σ : VEnv} {f : VEnv → VOut} : (VOut.exc x σ).turn f = .exc x σ := wrfl rfl
theorem tu_if {p : Prop} [Decidable p] {x y : VOut} {f : VEnv → VOut} : (if p then x else y).turn f = if p then x.turn f else y.turn f := by
  by_cases h : p <;> simp [h]
@[simp] theorem tu_if_rt {p : Prop} [Decidable p] {q : VF} {y : VOut} {f : VEnv → VOut} : (if p then VOut.rt q else y).turn f = if p then .rt q else y.turn f := by
  by_cases h : p <;> simp [h]
@[simp] theorem vfor_nil' {b : Vl → VEnv → VOut} {σ : VEnv} : vforL b [] σ = .nx σ := wrfl rfl
section
variable {α β : Type} {b : Vl → VEnv → VOut}
/-- a loop folds -/
theorem vfor_fold (enc : β → Vl) (env : α → VEnv) (step : α → β → α) (P : α → Prop) : ∀ (xs : List β) (s : α), P s → (∀ x ∈ xs, ∀ s, P s → (b (enc x) (env s)).go = some (env (step s x)) ∧ P (step s x)) →
    vforL b (xs.map enc) (env s) = .nx (env (xs.foldl step s)) ∧ P (xs.foldl step s)
  | [], s, hp, h => ⟨rfl, hp⟩
  | x :: xs, s, hp, h => by
    obtain ⟨h1, h2⟩ := h x List.mem_cons_self s hp
    rw [List.map_cons, vfor_go h1, List.foldl_cons]
    exact vfor_fold enc env step P xs _ h2 fun y hy => h y (List.mem_cons_of_mem _ hy)
/-- by an invariant over the number of items done -/
theorem vfor_inv (enc : β → Vl) (P : Nat → VEnv → Prop) {xs : List β} {σ : VEnv} (h0 : P 0 σ) (h : ∀ (i : Nat) (x : β) (σ : VEnv), xs[i]? = some x → P i σ → ∃ σ', (b (enc x) σ).go = some σ' ∧ P (i + 1) σ') :
    ∃ σ', vforL b (xs.map enc) σ = .nx σ' ∧ P xs.length σ' := by
  suffices H : ∀ (ys zs : List β) (σ : VEnv), ys ++ zs = xs → P ys.length σ → ∃ σ', vforL b (zs.map enc) σ = .nx σ' ∧ P xs.length σ' from H [] xs σ rfl h0
  intro ys zs
  induction zs generalizing ys with
  | nil => intro σ e p; rw [List.append_nil] at e; subst e; exact ⟨σ, rfl, p⟩
  | cons z zs ih =>
    intro σ e p
    obtain ⟨σ', h1, h2⟩ := h ys.length z σ (by rw [← e]; simp) p
    rw [List.map_cons, vfor_go h1]
    exact ih (ys ++ [z]) σ' (by rw [← e]; simp) (by simpa using h2)
def vend (o : Option VF) (σ : VEnv) : VOut := match o with
  | some p => .rt p
  | none => .nx σ
@[simp] theorem vend_some {p : VF} {σ : VEnv} : vend (some p) σ = .rt p := wrfl rfl
@[simp] theorem vend_none {σ : VEnv} : vend none σ = .nx σ := wrfl rfl
theorem vend_if {c : Prop} [Decidable c] {p : VF} {σ : VEnv} : vend (if c then some p else none) σ = if c then .rt p else .nx σ := by
  by_cases h : c <;> simp [h]
/-- a loop that leaves all as it is, or returns -/
theorem vfor_find (enc : β → Vl) (f : β → Option VF) {σ : VEnv} : ∀ (xs : List β), (∀ x ∈ xs, b (enc x) σ = vend (f x) σ ∨ (f x = none ∧ (b (enc x) σ).go = some σ)) → vforL b (xs.map enc) σ = vend (xs.findSome? f) σ
  | [], h => rfl
  | x :: xs, h => by
    rw [List.map_cons, List.findSome?_cons]
    rcases h x List.mem_cons_self with e | ⟨e1, e2⟩
    · cases q : f x with
      | some p => rw [q] at e; exact vfor_rt e
      | none => rw [q] at e; rw [vfor_go (σ' := σ) (by rw [e]; rfl)]; exact vfor_find enc f xs fun y hy => h y (List.mem_cons_of_mem _ hy)
    · rw [e1, vfor_go e2]
      exact vfor_find enc f xs fun y hy => h y (List.mem_cons_of_mem _ hy)
/-- a loop whose test never holds -/
theorem vfor_pass (enc : β → Vl) {σ : VEnv} : ∀ (xs : List β), (∀ x ∈ xs, (b (enc x) σ).go = some σ) → vforL b (xs.map enc) σ = .nx σ
  | [], h => rfl
  | x :: xs, h => by
    rw [List.map_cons, vfor_go (h x List.mem_cons_self)]
    exact vfor_pass enc xs fun y hy => h y (List.mem_cons_of_mem _ hy)
/-- comprehensions -/
theorem vlc_fm {blk : Vl → VR (Option Vl)} (enc : β → Vl) (g : β → Option Vl) : ∀ (xs : List β), (∀ x ∈ xs, blk (enc x) = .ok (g x)) → vlc blk (xs.map enc) = .ok (xs.filterMap g)
  | [], h => rfl
  | x :: xs, h => by
    rw [List.map_cons, vlc, h x List.mem_cons_self, vb_ok, vlc_fm enc g xs fun y hy => h y (List.mem_cons_of_mem _ hy), vb_ok, List.filterMap_cons]
    cases g x <;> rfl
theorem vlc_map {blk : Vl → VR (Option Vl)} (enc : β → Vl) (f : β → Vl) (xs : List β) (h : ∀ x ∈ xs, blk (enc x) = .ok (some (f x))) : vlc blk (xs.map enc) = .ok (xs.map f) := by
  rw [vlc_fm enc (fun x => some (f x)) xs h, List.filterMap_eq_map']
theorem vlc_if {blk : Vl → VR (Option Vl)} (enc : β → Vl) (p : β → Prop) [DecidablePred p] (f : β → Vl) (xs : List β) (h : ∀ x ∈ xs, blk (enc x) = if p x then .ok (some (f x)) else .ok none) : vlc blk (xs.map enc) = .ok ((xs.filter fun x => decide (p x)).map f) := by
  rw [vlc_fm enc (fun x => if p x then some (f x) else none) xs fun x hx => by rw [h x hx]; split <;> rfl]
  congr 1
  clear h
  induction xs with
  | nil => rfl
  | cons x xs ih =>
    rw [List.filterMap_cons, List.filter_cons]
    by_cases hp : p x <;> simp [hp, ih]
end
section
variable {α : Type} {c : VEnv → VR Bool} {b : VEnv → VOut}
theorem vwhile_stop {σ : VEnv} (h : c σ = .ok false) : vwhileD c b σ = .nx σ := vwhile_of (n := 1) (by rw [vwhileN, h]; rfl)
theorem vwhile_step {σ σ' : VEnv} (h : c σ = .ok true) (hb : (b σ).go = some σ') : vwhileD c b σ = vwhileD c b σ' := by
  have key : ∀ n, vwhileN c b (n + 1) σ = vwhileN c b n σ' := fun n => by
    rw [vwhileN, h]
    simp only [if_true]
    cases q : b σ with
    | nx τ => rw [q] at hb; cases hb; rfl
    | ct τ => rw [q] at hb; cases hb; rfl
    | _ => rw [q] at hb; cases hb
  by_cases he : ∃ n o, vwhileN c b n σ' = some o
  · obtain ⟨n, o, e⟩ := he
    rw [vwhile_of e, vwhile_of (n := n + 1) (by rw [key]; exact e)]
  · have he2 : ¬ ∃ n o, vwhileN c b n σ = some o := fun ⟨n, o, e⟩ => by
      cases n with
      | zero => cases e
      | succ n => rw [key] at e; exact he ⟨n, o, e⟩
    unfold vwhileD
    rw [dif_neg he, dif_neg he2]
theorem vwhile_rt {σ : VEnv} {p : VF} (h : c σ = .ok true) (hb : b σ = .rt p) : vwhileD c b σ = .rt p := vwhile_of (n := 1) (by rw [vwhileN, h]; simp only [if_true, hb])
theorem vwhile_bk {σ σ' : VEnv} (h : c σ = .ok true) (hb : b σ = .bk σ') : vwhileD c b σ = .nx σ' := vwhile_of (n := 1) (by rw [vwhileN, h]; simp only [if_true, hb])
/-- by a measure -/
theorem vwhile_inv (I : VEnv → Prop) (m : VEnv → Nat) (h : ∀ σ, I σ → c σ = .ok false ∨ (c σ = .ok true ∧ ∃ σ', (b σ).go = some σ' ∧ I σ' ∧ m σ' < m σ)) :
    ∀ (n : Nat) (σ : VEnv), m σ ≤ n → I σ → ∃ σ', vwhileD c b σ = .nx σ' ∧ I σ' ∧ c σ' = .ok false
  | 0, σ, hm, hi => by
    rcases h σ hi with h | ⟨_, σ', _, _, hl⟩
    · exact ⟨σ, vwhile_stop h, hi, h⟩
    · omega
  | n + 1, σ, hm, hi => by
    rcases h σ hi with h | ⟨hc, σ', hb, hi', hl⟩
    · exact ⟨σ, vwhile_stop h, hi, h⟩
    · rw [vwhile_step hc hb]
      exact vwhile_inv I m h n σ' (by omega) hi'
end
/-! ### pop, put -/
def vpo (σ : VEnv) (x : Nat) (vs : List Vl) : Option (Option VF) → VR (VF × VEnv)
  | some (some (.lst xs, true)) => (match vpopN xs vs with
    | some k => (match xs[k]? with
      | some v => .ok ((v, false), σ.set x (some (.lst (xs.eraseIdx k), true)))
      | none => .bad)
    | none => .bad)
  | _ => .bad
theorem vevp_pop {c : VCx} {σ : VEnv} {x : Nat} {es : List E} : vevp c (.mth .pop (.var x) es) σ = (vnoExc (vevs c es σ)).bind fun vs => vpo σ x vs (vat σ x) := by
  rw [← vat_eq]
  rfl
@[simp] theorem vpo_0 {σ : VEnv} {x : Nat} {y : Vl} {ys : List Vl} : vpo σ x [.int 0] (some (some (.lst (y :: ys), true))) = .ok ((y, false), σ.set x (some (.lst ys, true))) := by
  have e : ixN (y :: ys).length 0 = some 0 := by simp [ixN]
  simp only [vpo, vpopN, e]
  simp
theorem vpo_last {σ : VEnv} {x : Nat} {y : Vl} {ys : List Vl} : vpo σ x [] (some (some (.lst (ys ++ [y]), true))) = .ok ((y, false), σ.set x (some (.lst ys, true))) := by
  simp only [vpo, vpopN]
  have e : (ys ++ [y]).length - 1 = ys.length := by simp
  rw [e]
  have e2 : (ys ++ [y]).eraseIdx ys.length = ys := by
    have := List.eraseIdx_length_sub_one (l := ys ++ [y])
    rw [e, List.dropLast_concat] at this
    exact this
  rw [e2]
  simp
@[simp] theorem vx_expop {c : VCx} {σ : VEnv} {x : Nat} {es : List E} : vex c (.exp (.mth .pop (.var x) es)) σ = ((vnoExc (vevs c es σ)).bind fun vs => vpo σ x vs (vat σ x)).out σ fun q => .nx q.2 := by rw [vx_expp, vevp_pop]
@[simp] theorem vx_setpop {c : VCx} {σ : VEnv} {i x : Nat} {es : List E} : vex c (.set i (.mth .pop (.var x) es)) σ = ((vnoExc (vevs c es σ)).bind fun vs => vpo σ x vs (vat σ x)).out σ fun q => .nx (q.2.set i (some q.1)) := by rw [vx_setp, vevp_pop]
@[simp] theorem vput_l0 {x v : Vl} {xs : List Vl} : vput (.lst (x :: xs)) (.int 0) v = some (.lst (v :: xs)) := by
  have e : ixN (x :: xs).length 0 = some 0 := by simp [ixN]
  simp only [vput, e, List.set_cons_zero]
theorem vput_l {xs : List Vl} {i : Int} {v : Vl} (h : 0 ≤ i ∧ i < xs.length) : vput (.lst xs) (.int i) v = some (.lst (xs.set i.toNat v)) := by
  have e : ixN xs.length i = some i.toNat := by
    have : i = (i.toNat : Int) := by omega
    rw [this]
    exact ixN_nat' (by omega)
  simp only [vput, e]
@[simp] theorem vkeep_tup {xs : List Vl} {g : Bool} {X : List Nat} {σ : VEnv} (h : (Vl.dns xs).isSome = true) : vkeep (.tup xs, g) X σ = σ := vkeep_pure (by rw [dn_tup]; simpa using h)
@[simp] theorem vkeep_lst {xs : List Vl} {X : List Nat} {σ : VEnv} (h : (Vl.dns xs).isSome = true) : vkeep (.lst xs, true) X σ = σ := vkeep_new h
/-! ### tables -/
section
variable {κ α : Type} [DecidableEq κ]
def alget : List (κ × α) → κ → Option α
  | [], _ => none
  | p :: r, k => if p.1 = k then some p.2 else alget r k
def alset (T : List (κ × α)) (k : κ) (v : α) : List (κ × α) := T.map fun p => if p.1 = k then (k, v) else p
def alput (T : List (κ × α)) (k : κ) (v : α) : List (κ × α) := match alget T k with
  | some _ => alset T k v
  | none => T ++ [(k, v)]
def encT (kk : κ → Ky) (f : α → Vl) (T : List (κ × α)) : Vl := .dk (T.map fun p => kk p.1) (T.map fun p => f p.2)
variable {kk : κ → Ky} {f : α → Vl}
theorem getV_al (hk : ∀ a b, kk a = kk b → a = b) : ∀ (T : List (κ × α)) (k : κ), getV (T.map fun p => kk p.1) (T.map fun p => f p.2) (kk k) = (alget T k).map f
  | [], k => by simp [getV, alget]
  | p :: r, k => by
    simp only [List.map_cons, getV, alget]
    by_cases h : p.1 = k
    · rw [if_pos h, if_pos (by rw [h])]; rfl
    · rw [if_neg h, if_neg (fun e => h (hk _ _ e)), getV_al hk r k]
theorem setV_al (hk : ∀ a b, kk a = kk b → a = b) (k : κ) (v : α) : ∀ (T : List (κ × α)), setV (T.map fun p => kk p.1) (T.map fun p => f p.2) (kk k) (f v) = (alset T k v).map fun p => f p.2
  | [] => by simp [setV, alset]
  | p :: r => by
    have ih := setV_al hk k v r
    unfold alset at ih ⊢
    simp only [List.map_cons, setV]
    rw [ih]
    by_cases h : p.1 = k
    · rw [if_pos h, if_pos (by rw [h])]
    · rw [if_neg h, if_neg (fun e => h (hk _ _ e))]
theorem alset_keys (T : List (κ × α)) (k : κ) (v : α) : (alset T k v).map (·.1) = T.map (·.1) := by
  unfold alset
  rw [List.map_map]
  refine List.map_congr_left fun p _ => ?_
  simp only [Function.comp]
  split
  · rename_i h; exact h.symm
  · rfl
theorem putV_al (hk : ∀ a b, kk a = kk b → a = b) (T : List (κ × α)) (k : κ) (v : α) : putV (T.map fun p => kk p.1) (T.map fun p => f p.2) (kk k) (f v) = ((alput T k v).map (fun p => kk p.1), (alput T k v).map (fun p => f p.2)) := by
  unfold putV alput
  rw [getV_al hk]
  cases q : alget T k with
  | none => simp
  | some w =>
    simp only [Option.map_some]
    rw [setV_al hk]
    have : (alset T k v).map (fun p => kk p.1) = T.map fun p => kk p.1 := by
      have h := congrArg (List.map kk) (alset_keys T k v)
      simpa [List.map_map, Function.comp_def] using h
    rw [this]
theorem kstr_inj : ∀ (a b : Str), (Sum.inr a : Ky) = .inr b → a = b := fun _ _ e => by cases e; rfl
theorem kint_inj : ∀ (a b : Int), (Sum.inl a : Ky) = .inl b → a = b := fun _ _ e => by cases e; rfl
theorem get_al (hk : ∀ a b, kk a = kk b → a = b) {T : List (κ × α)} {k x : Vl} {q : κ} (h : vkey k = some (kk q)) : vmth .get (encT kk f T) [k, x] = .ok (((alget T q).map f).getD x, false) := by
  simp only [vmth, encT, h, getV_al hk]
  cases alget T q <;> rfl
theorem put_al (hk : ∀ a b, kk a = kk b → a = b) {T : List (κ × α)} {k : Vl} {q : κ} {v : α} (h : vkey k = some (kk q)) (hl : T.length < 16777216) : vput (encT kk f T) k (f v) = some (encT kk f (alput T q v)) := by
  simp only [vput, encT, h]
  rw [if_pos (by simpa [lim] using hl), putV_al hk]
theorem ix_al (hk : ∀ a b, kk a = kk b → a = b) {T : List (κ × α)} {k : Vl} {q : κ} {v : α} (h : vkey k = some (kk q)) (hq : alget T q = some v) : vix (encT kk f T) k = .ok (f v, false) := by
  simp only [vix, encT, h, Option.bind_some, getV_al hk, hq, Option.map_some]
theorem in_al (hk : ∀ a b, kk a = kk b → a = b) {T : List (κ × α)} {k : Vl} {q : κ} (h : vkey k = some (kk q)) : vin k (encT kk f T) = some (alget T q).isSome := by
  simp only [vin, encT, h, Option.map_some, getV_al hk, Option.isSome_map]
end
/-! ### blocks -/
theorem vexs_app {c : VCx} {σ : VEnv} : ∀ (xs ys : List S), vexs c (xs ++ ys) σ = (vexs c xs σ).andThen (vexs c ys)
  | [], ys => by simp
  | x :: xs, ys => by
    rw [List.cons_append, vxs_cons, vxs_cons]
    cases vex c x σ with
    | nx τ => simp only [va_nx]; exact vexs_app xs ys
    | _ => rfl
/-- the first n statements, then the others -/
theorem vexs_split {c : VCx} {σ : VEnv} (n : Nat) (ss : List S) : vexs c ss σ = (vexs c (ss.take n) σ).andThen (vexs c (ss.drop n)) := by
  rw [← vexs_app, List.take_append_drop]
/-! ### calls -/
theorem vrun_s {T : String → Option Def} {G : String → Option D} {k : Nat} {f : String} {vs : List Vl} {d : Def} (h : T f = some d) (hl : vs.length = d.params) : vrun T G (k + 1) f vs = vleave (vexs ⟨vrun T G k, vG G⟩ d.body (vinit d vs)) := by
  rw [vrun, h]
  simp only [hl, if_true]
theorem fuel {n k : Nat} (h : n + 1 ≤ k) : ∃ j, k = j + 1 ∧ n ≤ j := ⟨k - 1, by omega, by omega⟩
end Sk
end
section
set_option Elab.async false
set_option linter.all false
set_option autoImplicit false
set_option maxRecDepth 100000
/-! SkW3: plain tools: pools, texts, slices, order. -/
namespace Sk
open PySem (Str)
theorem getD_get {α : Type} {l : List α} {d : α} {i : Nat} (h : i < l.length) : l.getD i d = l[i] := by simp [h]
/-! ### a pool of ints -/
def Pl (vs : List Int) : Prop := ∀ v ∈ vs, 0 ≤ v ∧ v < 1000
theorem pl_snoc {vs : List Int} {v : Int} (h : Pl vs) (h1 : 0 ≤ v ∧ v < 1000) : Pl (vs ++ [v]) := fun x hx => by
  rcases List.mem_append.mp hx with hx | hx
  · exact h x hx
  · rw [List.mem_singleton.mp hx]; exact h1
def getI (vs : List Int) (i : Int) : Int := vs.getD i.toNat 0
theorem pl_get {vs : List Int} (h : Pl vs) (i : Int) : 0 ≤ getI vs i ∧ getI vs i < 1000 := by
  unfold getI
  by_cases hi : i.toNat < vs.length
  · rw [getD_get hi]
    exact h _ (List.getElem_mem hi)
  · rw [List.getD_eq_getElem?_getD, List.getElem?_eq_none (by omega)]
    simp
@[simp] theorem ix_ints {vs : List Int} {i : Int} (h : 0 ≤ i ∧ i < vs.length) : vix (.lst (vs.map Vl.int)) (.int i) = .ok (.int (getI vs i), false) := by
  rw [ix_l h.1 (by simpa using h.2)]
  unfold getI
  rw [List.getElem_map, getD_get (by omega)]
@[simp] theorem ix_tints {vs : List Int} {i : Int} (h : 0 ≤ i ∧ i < vs.length) : vix (.tup (vs.map Vl.int)) (.int i) = .ok (.int (getI vs i), false) := by
  rw [ix_t h.1 (by simpa using h.2)]
  unfold getI
  rw [List.getElem_map, getD_get (by omega)]
/-- an index into given items -/
theorem ix_mem {xs : List Vl} {i : Int} (h0 : 0 ≤ i) (h : i < xs.length) : ∃ v ∈ xs, vix (.tup xs) (.int i) = .ok (v, false) :=
  ⟨_, List.getElem_mem _, ix_t h0 h⟩
theorem ixs_mem {s : Str} {i : Int} (h0 : 0 ≤ i) (h : i < s.length) : ∃ c ∈ s.cps.toList, vix (.str s) (.int i) = .ok (.str ⟨#[c]⟩, false) := by
  have hl : i.toNat < s.cps.toList.length := by
    have : s.length = s.cps.size := rfl
    simp
    omega
  refine ⟨s.cps.toList[i.toNat], List.getElem_mem _, ?_⟩
  simp only [vix]
  rw [atI_of' h0 (by omega), List.getElem?_eq_getElem hl]
/-- an index into mapped items -/
theorem ix_tmap {α : Type} [Inhabited α] {f : α → Vl} {l : List α} {i : Int} (h : 0 ≤ i ∧ i < l.length) : vix (.tup (l.map f)) (.int i) = .ok (f (l.getD i.toNat default), false) := by
  rw [ix_t h.1 (by simpa using h.2), List.getElem_map, getD_get (by omega)]
theorem ix_lmap {α : Type} [Inhabited α] {f : α → Vl} {l : List α} {i : Int} (h : 0 ≤ i ∧ i < l.length) : vix (.lst (l.map f)) (.int i) = .ok (f (l.getD i.toNat default), false) := by
  rw [ix_l h.1 (by simpa using h.2), List.getElem_map, getD_get (by omega)]
@[simp] theorem w_rep {s : Str} {k : Int} (h : k ≤ 1000000 ∧ -1000000 ≤ k ∧ s.length ≤ 16) : vbin .mul (.str s) (.int k) = .ok (.str (strRep s k), false) := by simp [vbin, vmul, h]
theorem w_reps {xs : List Vl} {k : Int} (h : xs ≠ [] ∧ 2 ≤ k ∧ k ≤ 1000 ∧ xs.length ≤ 1000) : vbin .mul (.tup xs) (.int k) = .ok (.tup (List.replicate k.toNat xs).flatten, false) := by simp [vbin, vmul, h]
/-! ### slices -/
theorem cut_map {α β : Type} {f : α → β} {l : List α} {lo hi : Option Int} : cut (l.map f) lo hi = (cut l lo hi).map f := by
  unfold cut
  simp [List.map_take, List.map_drop]
theorem cut_mem {α : Type} {l : List α} {lo hi : Option Int} : ∀ x ∈ cut l lo hi, x ∈ l := fun x hx => List.mem_of_mem_drop (List.mem_of_mem_take hx)
theorem cut_len {α : Type} {l : List α} {lo hi : Option Int} : (cut l lo hi).length ≤ l.length := by
  unfold cut
  simp
  try omega
theorem cut_lo {α : Type} {l : List α} {lo : Int} {hi : Option Int} (h : 0 ≤ lo) : (cut l (some lo) hi).length ≤ l.length - lo.toNat := by
  unfold cut
  simp [sIx, h]
  try omega
theorem cut_to {α : Type} {l : List α} {hi : Int} (h : 0 ≤ hi) : cut l none (some hi) = l.take hi.toNat := by
  unfold cut sIx
  simp [h]
theorem cut_from {α : Type} {l : List α} {lo : Int} (h : 0 ≤ lo) : cut l (some lo) none = l.drop lo.toNat := by
  unfold cut sIx
  simp only [if_pos h]
  by_cases h2 : lo.toNat ≤ l.length
  · rw [Nat.min_eq_left h2]
    exact List.take_of_length_le (by simp)
  · rw [Nat.min_eq_right (by omega), List.drop_length, List.drop_of_length_le (by omega)]
    simp
@[simp] theorem vslcL_t {xs : List Vl} {i : Int} : vslcL (.tup xs) (.int i) = .ok (.tup (cut xs (some i) none), false) := wrfl rfl
@[simp] theorem vslcU_t {xs : List Vl} {i : Int} : vslcU (.tup xs) (.int i) = .ok (.tup (cut xs none (some i)), false) := wrfl rfl
@[simp] theorem vslcLU_t {xs : List Vl} {i j : Int} : vslcLU (.tup xs) (.int i) (.int j) = .ok (.tup (cut xs (some i) (some j)), false) := wrfl rfl
@[simp] theorem vslcLU_r {xs : List Vl} {i j : Int} : vslcLU (.ro xs) (.int i) (.int j) = .ok (.lst (cut xs (some i) (some j)), true) := wrfl rfl
@[simp] theorem vslcL_l {xs : List Vl} {i : Int} : vslcL (.lst xs) (.int i) = .ok (.lst (cut xs (some i) none), true) := wrfl rfl
@[simp] theorem vslcU_l {xs : List Vl} {i : Int} : vslcU (.lst xs) (.int i) = .ok (.lst (cut xs none (some i)), true) := wrfl rfl
@[simp] theorem vslcL_r {xs : List Vl} {i : Int} : vslcL (.ro xs) (.int i) = .ok (.lst (cut xs (some i) none), true) := wrfl rfl
@[simp] theorem vslcU_r {xs : List Vl} {i : Int} : vslcU (.ro xs) (.int i) = .ok (.lst (cut xs none (some i)), true) := wrfl rfl
@[simp] theorem isInt_int {i : Int} : isInt (.int i) = true := wrfl rfl
/-! ### two values that are the same -/
/-- small data: at most n deep -/
def smv : Nat → Vl → Bool
  | _, .non => true
  | _, .bl _ => true
  | _, .int _ => true
  | _, .str _ => true
  | n + 1, .tup xs => decide (xs.length ≤ 16000000) && xs.all (smv n)
  | _, _ => false
theorem map_range_getD {α : Type} [Inhabited α] (l : List α) : (List.range l.length).map (fun i => l.getD i default) = l := by
  refine List.ext_getElem (by simp) fun i h1 h2 => ?_
  simp
  rw [List.getElem?_eq_getElem (by simpa using h2)]
  rfl
theorem str_refl (s : Str) : (s == s) = true := by simp
end Sk
end
section
set_option Elab.async false
set_option linter.all false
set_option autoImplicit false
set_option maxRecDepth 100000
/-! SkW4: plain tools: tables, sorted names, sums. -/
namespace Sk
open PySem (Str)
section
variable {κ α : Type} [DecidableEq κ]
def ins (l : List κ) (s : κ) : List κ := if s ∈ l then l else l ++ [s]
theorem ins_mem {l : List κ} {s u : κ} : u ∈ ins l s ↔ u ∈ l ∨ u = s := by
  unfold ins
  split
  · constructor
    · exact .inl
    · rintro (h | rfl)
      · exact h
      · assumption
  · simp
theorem ins_nodup {l : List κ} {s : κ} (h : l.Nodup) : (ins l s).Nodup := by
  unfold ins
  split
  · exact h
  · rename_i hs
    exact List.nodup_append.mpr ⟨h, by simp, fun a ha b hb => by cases List.mem_singleton.mp hb; rintro rfl; exact hs ha⟩
theorem ins_len (l : List κ) (s : κ) : (ins l s).length ≤ l.length + 1 := by
  unfold ins
  split <;> simp
theorem alget_mem : ∀ (T : List (κ × α)) (s : κ), (alget T s).isSome = decide (s ∈ T.map (·.1))
  | [], s => by simp [alget]
  | p :: r, s => by
    unfold alget
    by_cases h : p.1 = s
    · simp [h]
    · have h' : ¬ s = p.1 := fun e => h e.symm
      simp [h, h', alget_mem r s]
theorem alget_some {T : List (κ × α)} {s : κ} (h : s ∈ T.map (·.1)) : ∃ v, alget T s = some v := by
  have hm := alget_mem T s
  rw [decide_eq_true h] at hm
  exact Option.isSome_iff_exists.mp hm
theorem alput_keys (T : List (κ × α)) (s : κ) (v : α) : (alput T s v).map (·.1) = ins (T.map (·.1)) s := by
  have hm := alget_mem T s
  unfold alput ins
  cases e : alget T s with
  | some i =>
    rw [e] at hm
    have : s ∈ T.map (·.1) := by simpa using hm.symm
    rw [if_pos this]
    exact alset_keys T s v
  | none =>
    rw [e] at hm
    have : s ∉ T.map (·.1) := by simpa using hm.symm
    rw [if_neg this]
    simp
theorem alget_set (T : List (κ × α)) (s u : κ) (v : α) : alget (alset T s v) u = if u = s then (alget T s).map fun _ => v else alget T u := by
  unfold alset
  induction T with
  | nil => simp [alget]
  | cons p r ih =>
    rw [List.map_cons]
    by_cases h : p.1 = s
    · rw [if_pos h]
      unfold alget
      by_cases hu : u = s
      · subst hu
        simp [h]
      · have h1 : ¬ s = u := fun e => hu e.symm
        have h2 : ¬ p.1 = u := fun e => hu (e ▸ h)
        simp only [h1, h2, if_false, ih, hu]
    · rw [if_neg h]
      unfold alget
      by_cases hu : u = s
      · subst hu
        simp only [h, if_false, ih, if_true]
      · simp only [ih, hu, if_false]
theorem alget_app (T : List (κ × α)) (s u : κ) (v : α) : alget (T ++ [(s, v)]) u = (alget T u).or (if s = u then some v else none) := by
  induction T with
  | nil => simp [alget]
  | cons p r ih =>
    rw [List.cons_append]
    unfold alget
    by_cases h : p.1 = u
    · simp [h]
    · simp only [h, if_false, ih]
theorem alput_get (T : List (κ × α)) (s u : κ) (v : α) : alget (alput T s v) u = if u = s then some v else alget T u := by
  unfold alput
  cases e : alget T s with
  | some i =>
    simp only
    rw [alget_set, e]
    rfl
  | none =>
    simp only
    rw [alget_app]
    by_cases hu : u = s
    · subst hu
      simp [e]
    · have : ¬ s = u := fun h => hu h.symm
      simp only [hu, this, if_false, Option.or_none]
theorem alput_len (T : List (κ × α)) (s : κ) (v : α) : (alput T s v).length ≤ T.length + 1 := by
  have h := congrArg List.length (alput_keys T s v)
  have := ins_len (T.map (·.1)) s
  simp only [List.length_map] at h this
  omega
end
/-! ### sorted names -/
def unS : D → Str
  | .str s => s
  | _ => ⟨#[]⟩
def sortS (l : List Str) : List Str := (sortD (l.map D.str)).map unS
theorem sortD_mem {xs : List D} {d : D} : d ∈ sortD xs ↔ d ∈ xs := by
  unfold sortD
  exact List.mem_mergeSort
theorem sortS_D (l : List Str) : (sortS l).map D.str = sortD (l.map D.str) := by
  unfold sortS
  rw [List.map_map]
  conv => rhs; rw [← List.map_id (sortD (l.map D.str))]
  refine List.map_congr_left fun d hd => ?_
  obtain ⟨s, _, rfl⟩ := List.mem_map.mp (sortD_mem.mp hd)
  rfl
theorem sortS_perm (l : List Str) : (sortS l).Perm l := by
  unfold sortS
  have h1 : (sortD (l.map D.str)).Perm (l.map D.str) := List.mergeSort_perm _ _
  have h2 := h1.map unS
  rw [List.map_map] at h2
  have : (unS ∘ D.str) = id := rfl
  rw [this, List.map_id] at h2
  exact h2
theorem sortS_mem {l : List Str} {s : Str} : s ∈ sortS l ↔ s ∈ l := (sortS_perm l).mem_iff
theorem sortS_len (l : List Str) : (sortS l).length = l.length := (sortS_perm l).length_eq
theorem ups_strs (l : List Str) : D.ups (l.map D.str) = l.map Vl.str := by
  induction l with
  | nil => simp [D.ups]
  | cons a l ih => simp [D.ups, D.up, ih]
theorem ups_ints (l : List Int) : D.ups (l.map D.int) = l.map Vl.int := by
  induction l with
  | nil => simp [D.ups]
  | cons a l ih => simp [D.ups, D.up, ih]
theorem okSort_strs (l : List Str) : okSort (l.map D.str) = true := by
  have hall : ∀ (p : D → Bool), (∀ s, p (.str s) = true) → (l.map D.str).all p = true := fun p hp => by
    rw [List.all_eq_true]
    intro a ha
    obtain ⟨x, _, rfl⟩ := List.mem_map.mp ha
    exact hp x
  have h1 : allAlike (l.map D.str) = true := hall _ fun s => hall _ fun t => by simp [D.alike]
  have h2 : D.pures (l.map D.str) = true := D.pures_iff.mpr fun d hd => by
    obtain ⟨s, _, rfl⟩ := List.mem_map.mp hd
    simp [D.pure]
  have h3 : D.dles (l.map D.str) 50 = true := by
    clear h1 h2 hall
    induction l with
    | nil => simp [D.dles]
    | cons a l ih => simp [D.dles, D.dle, ih]
  have h4 : ((l.map D.str).all fun d => !d.isNon) = true := hall _ fun s => rfl
  have h5 : (l.map D.str).all D.noTup = true := hall _ fun s => rfl
  unfold okSort okOrd
  rw [h1, h2, h3, h4, h5]
  simp
@[simp] theorem w_sorted_s {l : List Str} : vblt .sorted [.lst (l.map Vl.str)] = .ok (.lst ((sortS l).map Vl.str), true) := by
  simp only [vblt, vsorted, dns_strs]
  rw [if_pos (show okSrt (l.map D.str) = true by unfold okSrt; rw [okSort_strs l]; rfl), ← sortS_D, ups_strs]
theorem w_sorted_T {α : Type} {f : α → Vl} {T : List (Str × α)} (h : ∀ s ∈ T.map (·.1), strFit s = true) : vblt .sorted [encT Sum.inr f T] = .ok (.lst ((sortS (T.map (·.1))).map Vl.str), true) := by
  have e : (T.map fun p => (Sum.inr p.1 : Ky)).map kD = (T.map (·.1)).map D.str := by
    rw [List.map_map, List.map_map]
    rfl
  have hk : kfit (T.map fun p => (Sum.inr p.1 : Ky)) = true := by
    unfold kfit
    rw [List.all_map, List.all_eq_true]
    intro p hp
    exact h p.1 (List.mem_map.mpr ⟨p, hp, rfl⟩)
  simp only [vblt, vsorted, encT, e]
  rw [if_pos ⟨okSort_strs _, hk⟩, ← sortS_D, ups_strs]
theorem dles_strs (l : List Str) : D.dles (l.map D.str) 50 = true := by
  induction l with
  | nil => simp [D.dles]
  | cons a l ih => simp [D.dles, D.dle, ih]
theorem anyIn_strs {l : List Str} {s : Str} : anyIn (.str s) (l.map Vl.str) = some (decide (s ∈ l)) := by
  unfold anyIn
  have h2 : ((l.map D.str).any fun y => D.eqv y (.str s)) = decide (s ∈ l) := by
    induction l with
    | nil => rfl
    | cons a l ih =>
      rw [List.map_cons, List.any_cons, ih]
      have e : D.eqv (.str a) (.str s) = decide (a = s) := by
        simp only [D.eqv]
        by_cases h : a = s <;> simp [h]
      rw [e]
      by_cases h : a = s
      · simp [h]
      · have h' : ¬ s = a := fun e => h e.symm
        simp [h, h']
  simp [dles_strs, h2, D.dle]
@[simp] theorem w_in_l {l : List Str} {s : Str} : vcmp .in (.str s) (.lst (l.map Vl.str)) = .ok (.bl (decide (s ∈ l)), false) := by simp [vcmp, vin, anyIn_strs, voptB]
@[simp] theorem w_in_t {l : List Str} {s : Str} : vcmp .in (.str s) (.tup (l.map Vl.str)) = .ok (.bl (decide (s ∈ l)), false) := by simp [vcmp, vin, anyIn_strs, voptB]
@[simp] theorem w_nin_l {l : List Str} {s : Str} : vcmp .notin (.str s) (.lst (l.map Vl.str)) = .ok (.bl (!decide (s ∈ l)), false) := by simp [vcmp, vin, anyIn_strs, voptB]
@[simp] theorem w_nin_t {l : List Str} {s : Str} : vcmp .notin (.str s) (.tup (l.map Vl.str)) = .ok (.bl (!decide (s ∈ l)), false) := by simp [vcmp, vin, anyIn_strs, voptB]
@[simp] theorem dns_i {β : Type} {f : β → Int} {l : List β} : (Vl.dns (l.map fun b => Vl.int (f b))).isSome = true := dns_mem fun x hx => by
  obtain ⟨b, _, rfl⟩ := List.mem_map.mp hx
  simp
@[simp] theorem dns_s {β : Type} {f : β → Str} {l : List β} : (Vl.dns (l.map fun b => Vl.str (f b))).isSome = true := dns_mem fun x hx => by
  obtain ⟨b, _, rfl⟩ := List.mem_map.mp hx
  simp
@[simp] theorem dns_ic {β : Type} {f : β → Int} {l : List β} : (Vl.dns (l.map (Vl.int ∘ f))).isSome = true := dns_i
@[simp] theorem dns_sc {β : Type} {f : β → Str} {l : List β} : (Vl.dns (l.map (Vl.str ∘ f))).isSome = true := dns_s
@[simp] theorem vput_ints {l : List Int} {i v : Int} (h : 0 ≤ i ∧ i < l.length) : vput (.lst (l.map Vl.int)) (.int i) (.int v) = some (.lst ((l.set i.toNat v).map Vl.int)) := by
  rw [vput_l (by simpa using h), List.map_set]
theorem getI_set {l : List Int} {i j v : Int} (hi : 0 ≤ i ∧ i < l.length) (hj : 0 ≤ j) : getI (l.set i.toNat v) j = if j = i then v else getI l j := by
  unfold getI
  by_cases h : j = i
  · subst h
    rw [if_pos rfl, getD_get (by rw [List.length_set]; omega), List.getElem_set_self]
  · rw [if_neg h, List.getD_eq_getElem?_getD, List.getD_eq_getElem?_getD, List.getElem?_set_ne (by omega)]
theorem filter_off {p p' : Nat → Bool} {i : Nat} : ∀ {l r : List Nat}, l.Nodup → l.filter p = i :: r → (∀ k, k ≠ i → p' k = p k) → l.filter p' = if p' i = true then i :: r else r
  | [], r, _, h, _ => by cases h
  | x :: xs, r, nd, h, hp => by
    obtain ⟨n1, n2⟩ := List.nodup_cons.mp nd
    rw [List.filter_cons] at h ⊢
    by_cases hx : p x = true
    · rw [if_pos hx] at h
      simp only [List.cons.injEq] at h
      obtain ⟨rfl, h⟩ := h
      have e : xs.filter p' = xs.filter p := List.filter_congr fun k hk => hp k fun e => n1 (e ▸ hk)
      rw [e, h]
    · rw [if_neg hx] at h
      have hi : x ≠ i := by
        rintro rfl
        have : x ∈ xs.filter p := by rw [h]; exact List.mem_cons_self
        exact n1 (List.mem_filter.mp this).1
      rw [hp x hi, if_neg hx]
      exact filter_off n2 h hp
theorem filter_getD {α β : Type} [Inhabited α] (nm : List α) (q : α → Bool) (g : α → β) : ((List.range nm.length).filter fun i => q (nm.getD i default)).map (fun i => g (nm.getD i default)) = (nm.filter q).map g := by
  have h1 : ((List.range nm.length).map fun i => nm.getD i default).filter q = ((List.range nm.length).filter (q ∘ fun i => nm.getD i default)).map fun i => nm.getD i default := List.filter_map
  rw [map_range_getD] at h1
  rw [h1, List.map_map]
  rfl
/-! ### sums -/
theorem sum_one {l : List Str} {x : Str} {a : Int} (nd : l.Nodup) (h : x ∈ l) : (l.map fun s => if x = s then a else 0).sum = a := by
  induction l with
  | nil => cases h
  | cons y l ih =>
    obtain ⟨n1, n2⟩ := List.nodup_cons.mp nd
    rw [List.map_cons, List.sum_cons]
    rcases List.mem_cons.mp h with e0 | h2
    · subst e0
      have : (l.map fun s => if x = s then a else 0).sum = 0 := by
        have hz : ∀ s ∈ l, (if x = s then a else 0) = 0 := fun s hs => by
          rw [if_neg]
          rintro rfl
          exact n1 hs
        clear ih nd h n2 n1
        induction l with
        | nil => rfl
        | cons z l ih => rw [List.map_cons, List.sum_cons, hz z List.mem_cons_self, ih fun s hs => hz s (List.mem_cons_of_mem _ hs)]; rfl
      simp [this]
    · have hne : ¬ x = y := fun e => n1 (e ▸ h2)
      rw [if_neg hne, ih n2 h2]
      omega
theorem sum_sub {β : Type} (l : List β) (f g : β → Int) : (l.map fun s => f s - g s).sum = (l.map f).sum - (l.map g).sum := by
  induction l with
  | nil => rfl
  | cons x l ih => simp only [List.map_cons, List.sum_cons, ih]; omega
theorem sum_add {β : Type} (l : List β) (f g : β → Int) : (l.map fun s => f s + g s).sum = (l.map f).sum + (l.map g).sum := by
  induction l with
  | nil => rfl
  | cons x l ih => simp only [List.map_cons, List.sum_cons, ih]; omega
theorem sum_le {β : Type} (l : List β) (f g : β → Int) (h : ∀ x ∈ l, f x ≤ g x) : (l.map f).sum ≤ (l.map g).sum := by
  induction l with
  | nil => simp
  | cons x l ih =>
    have h1 := h x List.mem_cons_self
    have h2 := ih fun y hy => h y (List.mem_cons_of_mem _ hy)
    simp only [List.map_cons, List.sum_cons]
    omega
end Sk
end
section
set_option Elab.async false
set_option linter.all false
set_option autoImplicit false
set_option maxRecDepth 100000
/-! SkW5: least, greatest, equal lists, sorted rows of numbers. -/
namespace Sk
open PySem (Str)
@[simp] theorem vob_b {b : Bool} {x y : VR VF} : vonBl (.bl b) x y = if b = true then x else y := rfl
theorem vx_rai {c : VCx} {f : String} {es : List E} {σ : VEnv} : vex c (.rai f es) σ = .bad := by rw [vex]
/-! ### equal to itself -/
mutual
theorem D.eqv_refl : ∀ {d : D}, d.pure = true → D.eqv d d = true
  | .non, _ => by simp [D.eqv]
  | .bl b, _ => by simp [D.eqv]
  | .int i, _ => by simp [D.eqv]
  | .str s, _ => by simp [D.eqv]
  | .ref i, h => by simp [D.pure] at h
  | .tup xs, h => by
    simp only [D.pure] at h
    simp only [D.eqv]
    exact D.eqvs_refl h
theorem D.eqvs_refl : ∀ {ds : List D}, D.pures ds = true → D.eqvs ds ds = true
  | [], _ => by simp [D.eqvs]
  | d :: ds, h => by
    simp only [D.pures, Bool.and_eq_true] at h
    simp only [D.eqvs, Bool.and_eq_true]
    exact ⟨D.eqv_refl h.1, D.eqvs_refl h.2⟩
end
theorem dles_mem {n : Nat} : ∀ {ds : List D}, (∀ d ∈ ds, d.dle n = true) → D.dles ds n = true
  | [], _ => by simp [D.dles]
  | d :: ds, h => by
    simp only [D.dles, Bool.and_eq_true]
    exact ⟨h d List.mem_cons_self, dles_mem fun e he => h e (List.mem_cons_of_mem _ he)⟩
theorem dles_of {α : Type} {f : α → D} {l : List α} {n : Nat} (h : ∀ x ∈ l, (f x).dle n = true) : D.dles (l.map f) n = true := dles_mem fun d hd => by
  obtain ⟨x, hx, rfl⟩ := List.mem_map.mp hd
  exact h x hx
theorem dle_tup {xs : List D} {n : Nat} (h : D.dles xs n = true) : (D.tup xs).dle (n + 1) = true := by simpa [D.dle] using h
theorem w_eq_self {xs : List Vl} {ds : List D} (h : Vl.dns xs = some ds) (hd : D.dles ds 50 = true) : vcmp .eq (.lst xs) (.lst xs) = .ok (.bl true, false) := by
  have hp := (Vl.dns_pure h).1
  have e : D.eqv (.tup ds) (.tup ds) = true := D.eqv_refl (by simpa [D.pure] using hp)
  simp [vcmp, veq, Vl.lp, h, okd, hd, e, voptB]
theorem w_ne_self {xs : List Vl} {ds : List D} (h : Vl.dns xs = some ds) (hd : D.dles ds 50 = true) : vcmp .ne (.lst xs) (.lst xs) = .ok (.bl false, false) := by
  have hp := (Vl.dns_pure h).1
  have e : D.eqv (.tup ds) (.tup ds) = true := D.eqv_refl (by simpa [D.pure] using hp)
  simp [vcmp, veq, Vl.lp, h, okd, hd, e, voptB]
/-! ### ints -/
theorem all_map {α : Type} {f : α → D} {l : List α} {p : D → Bool} (h : ∀ x ∈ l, p (f x) = true) : (l.map f).all p = true := by
  rw [List.all_eq_true]
  intro a ha
  obtain ⟨x, hx, rfl⟩ := List.mem_map.mp ha
  exact h x hx
theorem okOrd_ints (l : List Int) : okOrd (l.map D.int) = true := by
  have h1 : allAlike (l.map D.int) = true := all_map fun s _ => all_map fun t _ => by simp [D.alike]
  have h2 : D.pures (l.map D.int) = true := D.pures_iff.mpr fun d hd => by
    obtain ⟨s, _, rfl⟩ := List.mem_map.mp hd
    simp [D.pure]
  have h3 : D.dles (l.map D.int) 50 = true := dles_of fun x _ => by simp [D.dle]
  have h4 : ((l.map D.int).all fun d => !d.isNon) = true := all_map fun s _ => rfl
  unfold okOrd
  rw [h1, h2, h3, h4]
  rfl
def maxI : List Int → Int
  | [] => 0
  | n :: ns => ns.foldl (fun a y => if y > a then y else a) n
def minI : List Int → Int
  | [] => 0
  | n :: ns => ns.foldl (fun a y => if y < a then y else a) n
theorem bestMax_ints (ns : List Int) : ∀ n : Int, bestMax (.int n) (ns.map D.int) = .int (ns.foldl (fun a y => if y > a then y else a) n) := by
  unfold bestMax
  induction ns with
  | nil => intro n; rfl
  | cons a l ih =>
    intro n
    simp only [List.map_cons, List.foldl_cons, D.lt, decide_eq_true_eq]
    by_cases h : n < a
    · simp only [h, if_true, gt_iff_lt, ih]
    · simp only [h, if_false, gt_iff_lt, ih]
theorem bestMin_ints (ns : List Int) : ∀ n : Int, bestMin (.int n) (ns.map D.int) = .int (ns.foldl (fun a y => if y < a then y else a) n) := by
  unfold bestMin
  induction ns with
  | nil => intro n; rfl
  | cons a l ih =>
    intro n
    simp only [List.map_cons, List.foldl_cons, D.lt, decide_eq_true_eq]
    by_cases h : a < n
    · simp only [h, if_true, ih]
    · simp only [h, if_false, ih]
theorem fmax_le : ∀ (ns : List Int) (n : Int), n ≤ ns.foldl (fun a y => if y > a then y else a) n ∧ ∀ x ∈ ns, x ≤ ns.foldl (fun a y => if y > a then y else a) n
  | [], n => ⟨by simp, by simp⟩
  | a :: l, n => by
    simp only [List.foldl_cons]
    obtain ⟨h1, h2⟩ := fmax_le l (if a > n then a else n)
    generalize hz : (if a > n then a else n) = z at h1 h2 ⊢
    have hr : n ≤ z ∧ a ≤ z := by
      rw [← hz]
      split <;> omega
    refine ⟨by omega, fun x hx => ?_⟩
    rcases List.mem_cons.mp hx with rfl | hx
    · omega
    · exact h2 x hx
theorem fmax_mem : ∀ (ns : List Int) (n : Int), ns.foldl (fun a y => if y > a then y else a) n ∈ n :: ns
  | [], n => by simp
  | a :: l, n => by
    simp only [List.foldl_cons]
    have := fmax_mem l (if a > n then a else n)
    rcases List.mem_cons.mp this with h | h
    · rw [h]
      split <;> simp
    · simp [h]
theorem fmin_le : ∀ (ns : List Int) (n : Int), ns.foldl (fun a y => if y < a then y else a) n ≤ n ∧ ∀ x ∈ ns, ns.foldl (fun a y => if y < a then y else a) n ≤ x
  | [], n => ⟨by simp, by simp⟩
  | a :: l, n => by
    simp only [List.foldl_cons]
    obtain ⟨h1, h2⟩ := fmin_le l (if a < n then a else n)
    generalize hz : (if a < n then a else n) = z at h1 h2 ⊢
    have hr : z ≤ n ∧ z ≤ a := by
      rw [← hz]
      split <;> omega
    refine ⟨by omega, fun x hx => ?_⟩
    rcases List.mem_cons.mp hx with rfl | hx
    · omega
    · exact h2 x hx
theorem le_maxI {l : List Int} {x : Int} (h : x ∈ l) : x ≤ maxI l := by
  cases l with
  | nil => cases h
  | cons n ns =>
    rcases List.mem_cons.mp h with rfl | h
    · exact (fmax_le ns x).1
    · exact (fmax_le ns n).2 x h
theorem maxI_mem {l : List Int} (h : l ≠ []) : maxI l ∈ l := by
  cases l with
  | nil => exact absurd rfl h
  | cons n ns => exact fmax_mem ns n
theorem minI_le {l : List Int} {x : Int} (h : x ∈ l) : minI l ≤ x := by
  cases l with
  | nil => cases h
  | cons n ns =>
    rcases List.mem_cons.mp h with rfl | h
    · exact (fmin_le ns x).1
    · exact (fmin_le ns n).2 x h
theorem w_max_l {l : List Int} (h : l ≠ []) : vblt .max [.lst (l.map Vl.int)] = .ok (.int (maxI l), false) := by
  cases l with
  | nil => exact absurd rfl h
  | cons n ns =>
    have ho := okOrd_ints (n :: ns)
    simp only [List.map_cons] at ho
    have hd := dns_ints (l := n :: ns)
    simp only [List.map_cons] at hd
    simp only [vblt, vbest, vseq, Option.bind_some, List.map_cons, hd, ho, if_true, bestMax_ints, maxI, D.up]
theorem w_min_l {l : List Int} (h : l ≠ []) : vblt .min [.lst (l.map Vl.int)] = .ok (.int (minI l), false) := by
  cases l with
  | nil => exact absurd rfl h
  | cons n ns =>
    have ho := okOrd_ints (n :: ns)
    simp only [List.map_cons] at ho
    have hd := dns_ints (l := n :: ns)
    simp only [List.map_cons] at hd
    simp only [vblt, vbest, vseq, Option.bind_some, List.map_cons, hd, ho, if_true, bestMin_ints, minI, D.up]
theorem w_minD_l {l : List Int} {z : Vl} : vblt .minD [.lst (l.map Vl.int), z] = .ok (if l = [] then z else .int (minI l), false) := by
  cases l with
  | nil => simp [vblt, vminD, vseq]
  | cons n ns =>
    have ho := okOrd_ints (n :: ns)
    simp only [List.map_cons] at ho
    have hd := dns_ints (l := n :: ns)
    simp only [List.map_cons] at hd
    simp only [vblt, vminD, vseq, Option.bind_some, List.map_cons, hd, ho, if_true, bestMin_ints, minI, D.up]
    simp
/-! ### rows of small numbers -/
def nD (i : Nat) : D := .int (i : Int)
def encN (l : List Nat) : Vl := .tup (l.map fun i : Nat => Vl.int (i : Int))
def encD (l : List Nat) : D := .tup (l.map nD)
def unN : D → Nat
  | .int i => i.toNat
  | _ => 0
def decN : D → List Nat
  | .tup xs => xs.map unN
  | _ => []
theorem decN_enc (l : List Nat) : decN (encD l) = l := by
  simp only [decN, encD, List.map_map]
  have : (unN ∘ nD) = id := by funext i; simp [unN, nD]
  rw [this, List.map_id]
theorem dns_nats (l : List Nat) : Vl.dns (l.map fun i : Nat => Vl.int (i : Int)) = some (l.map nD) := dns_map l fun x _ => by simp [nD]
theorem dn_encN (l : List Nat) : (encN l).dn = some (encD l) := by
  unfold encN encD
  rw [dn_tup, dns_nats]
  rfl
theorem dns_encN (L : List (List Nat)) : Vl.dns (L.map encN) = some (L.map encD) := dns_map L fun x _ => dn_encN x
/-- in order -/
def srtN (L : List (List Nat)) : List (List Nat) := (sortD (L.map encD)).map decN
theorem srtN_D (L : List (List Nat)) : (srtN L).map encD = sortD (L.map encD) := by
  unfold srtN
  rw [List.map_map]
  conv => rhs; rw [← List.map_id (sortD (L.map encD))]
  refine List.map_congr_left fun d hd => ?_
  obtain ⟨l, _, rfl⟩ := List.mem_map.mp (sortD_mem.mp hd)
  show encD (decN (encD l)) = encD l
  rw [decN_enc]
theorem srtN_perm (L : List (List Nat)) : (srtN L).Perm L := by
  unfold srtN
  have h1 : (sortD (L.map encD)).Perm (L.map encD) := List.mergeSort_perm _ _
  have h2 := h1.map decN
  rw [List.map_map] at h2
  have : (decN ∘ encD) = id := by funext l; exact decN_enc l
  rw [this, List.map_id] at h2
  exact h2
theorem srtN_mem {L : List (List Nat)} {l : List Nat} : l ∈ srtN L ↔ l ∈ L := (srtN_perm L).mem_iff
theorem ups_encN (L : List (List Nat)) : D.ups (L.map encD) = L.map encN := (Vl.dns_pure (dns_encN L)).2
theorem alikes_nats : ∀ (a b : List Nat), D.alikes (a.map nD) (b.map nD) = true
  | [], _ => by simp [D.alikes]
  | _ :: _, [] => by simp [D.alikes]
  | x :: a, y :: b => by
    simp only [List.map_cons, D.alikes, nD, D.alike, Bool.true_and]
    exact alikes_nats a b
theorem okOrd_encN (L : List (List Nat)) : okOrd (L.map encD) = true := by
  have h1 : allAlike (L.map encD) = true := all_map fun s _ => all_map fun t _ => by
    simp only [encD, D.alike]
    exact alikes_nats s t
  have h2 : D.pures (L.map encD) = true := (Vl.dns_pure (dns_encN L)).1
  have h3 : D.dles (L.map encD) 50 = true := dles_of fun x _ => dle_tup (n := 49) (dles_of fun i _ => by simp [nD, D.dle])
  have h4 : ((L.map encD).all fun d => !d.isNon) = true := all_map fun s _ => rfl
  unfold okOrd
  rw [h1, h2, h3, h4]
  rfl
/-- sorted of rows, the first of them empty -/
theorem w_sorted_N {L : List (List Nat)} : vblt .sorted [.lst (([] :: L).map encN)] = .ok (.lst ((srtN ([] :: L)).map encN), true) := by
  have h : okSrt (([] :: L).map encD) = true := by
    unfold okSrt okSortE
    rw [okOrd_encN]
    simp [encD]
  simp only [vblt, vsorted, dns_encN]
  rw [if_pos h, ← srtN_D, ups_encN]
theorem anyIn_nats {l : List Nat} {s : Nat} : anyIn (.int (s : Int)) (l.map fun i : Nat => Vl.int (i : Int)) = some (decide (s ∈ l)) := by
  unfold anyIn
  have h2 : ((l.map nD).any fun y => D.eqv y (.int (s : Int))) = decide (s ∈ l) := by
    induction l with
    | nil => rfl
    | cons a l ih =>
      rw [List.map_cons, List.any_cons, ih]
      have e : D.eqv (nD a) (.int (s : Int)) = decide (a = s) := by
        simp only [nD, D.eqv]
        by_cases h : a = s
        · simp [h]
        · simp only [h, decide_false, beq_eq_false_iff_ne]
          intro z
          exact h (by exact_mod_cast z)
      rw [e]
      by_cases h : a = s
      · simp [h]
      · have h' : ¬ s = a := fun e => h e.symm
        simp [h, h']
  have h3 : D.dles (l.map nD) 50 = true := dles_of fun i _ => by simp [nD, D.dle]
  simp [dns_nats, h2, h3, D.dle]
@[simp] theorem w_nin_n {l : List Nat} {s : Nat} : vcmp .notin (.int (s : Int)) (.tup (l.map fun i : Nat => Vl.int (i : Int))) = .ok (.bl (!decide (s ∈ l)), false) := by simp [vcmp, vin, anyIn_nats, voptB]
@[simp] theorem w_in_n {l : List Nat} {s : Nat} : vcmp .in (.int (s : Int)) (.tup (l.map fun i : Nat => Vl.int (i : Int))) = .ok (.bl (decide (s ∈ l)), false) := by simp [vcmp, vin, anyIn_nats, voptB]
end Sk
end
section
set_option Elab.async false
set_option linter.all false
set_option autoImplicit false
set_option maxRecDepth 100000
/-! SkW6: plain tools: exceptions. -/
namespace Sk
open PySem (Str)
section
variable {c : VCx} {σ : VEnv} {a e : E} {cls f g : String} {fl : Bool} {ss : List S} {cs : List (String × Option Nat)} {bs : List (List S)} {x : Exc} {b : List S}
@[simp] theorem v_fld : vev c (.fld a f) σ = (vev c a σ).bind fun x => vfld x.1 f := by rw [vev]
@[simp] theorem vfld_i {i : Int} : vfld (.xo f (.inl i)) f = .ok (.int i, false) := by unfold vfld; simp [vK]
@[simp] theorem vfld_s {s : Str} : vfld (.xo f (.inr s)) f = .ok (.str s, false) := by unfold vfld; simp [vK]
@[simp] theorem vx_rse (h : npop e = true) : vex c (.rse cls f e) σ = (vev c e σ).out σ fun p => vrse cls f (p, vkeep p e.vars σ) := by
  rw [vex, vp_gen h]
  cases vev c e σ <;> rfl
@[simp] theorem vrse_i {i : Int} : vrse cls f ((.int i, fl), σ) = .exc ⟨cls, f, .inl i⟩ σ := wrfl rfl
@[simp] theorem vrse_s {s : Str} : vrse cls f ((.str s, fl), σ) = .exc ⟨cls, f, .inr s⟩ σ := wrfl rfl
/-- a try behind its body -/
noncomputable def vtri (c : VCx) (cs : List (String × Option Nat)) (bs : List (List S)) : VOut → VOut
  | .exc x σ1 => vexh c cs bs x σ1
  | o => o
@[simp] theorem vx_tri : vex c (.tri ss cs bs) σ = vtri c cs bs (vexs c ss σ) := by
  rw [vex]
  cases vexs c ss σ <;> rfl
@[simp] theorem vtri_nx : vtri c cs bs (.nx σ) = .nx σ := wrfl rfl
@[simp] theorem vtri_rt {p : VF} : vtri c cs bs (.rt p) = .rt p := wrfl rfl
@[simp] theorem vtri_bk : vtri c cs bs (.bk σ) = .bk σ := wrfl rfl
@[simp] theorem vtri_ct : vtri c cs bs (.ct σ) = .ct σ := wrfl rfl
@[simp] theorem vtri_bad : vtri c cs bs .bad = .bad := wrfl rfl
@[simp] theorem vtri_exc : vtri c cs bs (.exc x σ) = vexh c cs bs x σ := wrfl rfl
@[simp] theorem vtri_if {p : Prop} [Decidable p] {u v : VOut} : vtri c cs bs (if p then u else v) = if p then vtri c cs bs u else vtri c cs bs v := by
  by_cases h : p <;> simp [h]
@[simp] theorem vxh_nil : vexh c cs [] x σ = .exc x σ := by rw [vexh]
@[simp] theorem vxh_cons {q : String × Option Nat} : vexh c (q :: cs) (b :: bs) x σ = if q.1 = x.cls then ((vexs c b (vbndX q.2 x σ)).noX).kill (slotX q.2) else vexh c cs bs x σ := by rw [vexh]
@[simp] theorem vbx_some {i : Nat} : vbndX (some i) x σ = σ.set i (some (.xo x.f x.k, false)) := wrfl rfl
@[simp] theorem vbx_none : vbndX none x σ = σ := wrfl rfl
@[simp] theorem slx_some {i : Nat} : slotX (some i) = [i] := wrfl rfl
@[simp] theorem slx_none : slotX none = [] := wrfl rfl
@[simp] theorem nox_nx : (VOut.nx σ).noX = .nx σ := wrfl rfl
@[simp] theorem nox_rt {p : VF} : (VOut.rt p).noX = .rt p := wrfl rfl
@[simp] theorem nox_bk : (VOut.bk σ).noX = .bk σ := wrfl rfl
@[simp] theorem nox_ct : (VOut.ct σ).noX = .ct σ := wrfl rfl
@[simp] theorem nox_if {p : Prop} [Decidable p] {u v : VOut} : (if p then u else v).noX = if p then u.noX else v.noX := by
  by_cases h : p <;> simp [h]
/-- a loop ends with an exception -/
theorem vfor_x1 {b : Vl → VEnv → VOut} {v : Vl} {vs : List Vl} {σ σ' : VEnv} {x : Exc} (h : b v σ = .exc x σ') : vforL b (v :: vs) σ = .exc x σ' := by
  unfold vforL
  rw [h]
theorem vfor_xs {β : Type} {b : Vl → VEnv → VOut} (enc : β → Vl) {σ σ' : VEnv} {x : Exc} {a : β} {post : List β} : ∀ (pre : List β), (∀ y ∈ pre, (b (enc y) σ).go = some σ) → b (enc a) σ = .exc x σ' → vforL b ((pre ++ a :: post).map enc) σ = .exc x σ'
  | [], _, h => by rw [List.nil_append, List.map_cons]; exact vfor_x1 h
  | y :: pre, h1, h => by
    rw [List.cons_append, List.map_cons, vfor_go (h1 y List.mem_cons_self)]
    exact vfor_xs enc pre (fun z hz => h1 z (List.mem_cons_of_mem _ hz)) h
end
end Sk
end
section
set_option Elab.async false
set_option linter.all false
set_option autoImplicit false
set_option maxRecDepth 100000
/-! SkW7: plain tools: sorted texts, more. -/
namespace Sk
open PySem (Str)
def lsle (a b : Str) : Bool := !decide (b.cps.toList < a.cps.toList)
theorem lsle_total (a b : Str) : (lsle a b || lsle b a) = true := by
  unfold lsle
  by_cases h : b.cps.toList < a.cps.toList
  · have : ¬ a.cps.toList < b.cps.toList := Std.not_lt.mpr (Std.le_of_lt h)
    simp [this]
  · simp [h]
theorem lsle_trans (a b c : Str) (h1 : lsle a b = true) (h2 : lsle b c = true) : lsle a c = true := by
  unfold lsle at *
  simp only [Bool.not_eq_true', decide_eq_false_iff_not, Std.not_lt] at *
  exact Std.le_trans h1 h2
theorem lsle_anti (a b : Str) (h1 : lsle a b = true) (h2 : lsle b a = true) : a = b := by
  unfold lsle at *
  simp only [Bool.not_eq_true', decide_eq_false_iff_not, Std.not_lt] at *
  have := Std.le_antisymm h1 h2
  cases a; cases b
  simp at this
  subst this
  rfl
theorem sortS_merge (l : List Str) : sortS l = l.mergeSort lsle := by
  have h1 := sortS_D l
  have h2 : (l.mergeSort lsle).map D.str = sortD (l.map D.str) := by
    unfold sortD
    refine List.map_mergeSort fun a _ b _ => ?_
    unfold lsle
    simp only [D.lt]
  have h3 : (sortS l).map D.str = (l.mergeSort lsle).map D.str := h1.trans h2.symm
  exact (List.map_inj_right fun a b e => by cases e; rfl).mp h3
theorem sortS_pw (l : List Str) : (sortS l).Pairwise (fun a b => lsle a b = true) := by
  rw [sortS_merge]
  exact List.pairwise_mergeSort lsle_trans lsle_total l
/-- a sorted list is known by its members -/
theorem sortS_eq {l m : List Str} (hl : l.Nodup) (hm : m.Nodup) (h : ∀ s, s ∈ l ↔ s ∈ m) (hs : m.Pairwise (fun a b => lsle a b = true)) : sortS l = m := by
  refine List.Perm.eq_of_pairwise (le := fun a b => lsle a b = true) (fun a b _ _ => lsle_anti a b) (sortS_pw l) hs ?_
  exact (sortS_perm l).trans ((List.perm_ext_iff_of_nodup hl hm).mpr h)
theorem sortS_perm_eq {l m : List Str} (h : l.Perm m) : sortS l = sortS m :=
  List.Perm.eq_of_pairwise (le := fun a b => lsle a b = true) (fun a b _ _ => lsle_anti a b) (sortS_pw l) (sortS_pw m) ((sortS_perm l).trans (h.trans (sortS_perm m).symm))
end Sk
end
section
set_option Elab.async false
set_option linter.all false
set_option maxRecDepth 100000
namespace K73
open Sk
def s_is_whole : List S :=
  [.ret (.and (.isi (.var 0) ["int"]) (.not (.isi (.var 0) ["bool"])))]
def d_is_whole : Def := ⟨1, ["value"], s_is_whole⟩
def s_whole_in : List S :=
  [.ret (.and (.call "is_whole" [(.var 0)]) (.chain .le .le (.var 1) (.var 0) (.var 2)))]
def d_whole_in : Def := ⟨3, ["value", "low", "high"], s_whole_in⟩
def b_is_name_1 : List S :=
  [.iff (.cmp .notin (.var 1) (.glb "LETTERS"))
    [.ret (.cst (.bl false))]
    []]
def s_is_name : List S :=
  [.iff (.or (.not (.isi (.var 0) ["str"])) (.not (.chain .le .le (.cst (.int 1)) (.blt .len [(.var 0)]) (.cst (.int 8)))))
   [.ret (.cst (.bl false))]
   [],
  .for (.one 1) .val [(.var 0)]
   b_is_name_1 [1],
  .ret (.cst (.bl true))]
def d_is_name : Def := ⟨1, ["value", "char"], s_is_name⟩
def s_is_row : List S :=
  [.ret (.and (.isi (.var 0) ["tuple"]) (.cmp .eq (.blt .len [(.var 0)]) (.var 1)))]
def d_is_row : Def := ⟨2, ["value", "size"], s_is_row⟩
def s_check_trip_count : List S :=
  [.iff (.cmp .gt (.blt .len [(.var 0)]) (.glb "MOST_TRIPS"))
   [.rse "TooLarge" "limit" (.glb "MOST_TRIPS")]
   []]
def d_check_trip_count : Def := ⟨1, ["trips"], s_check_trip_count⟩
def b_carried_1 : List S :=
  [.put (.bin .add (.mth .get (.var 2) [(.ix (.ix (.var 0) (.var 3)) (.cst (.int 0))), (.cst (.int 0))]) (.blt .sum [(.ix (.var 1) (.var 3))])) (.var 2) (.ix (.ix (.var 0) (.var 3)) (.cst (.int 0)))]
def s_carried : List S :=
  [.exp (.call "check_trip_count" [(.var 0)]),
  .set 2 (.dct false),
  .for (.one 3) .rng [(.blt .len [(.var 0)])]
   b_carried_1 [3],
  .ret (.blt .tuple [(.lc (.tup [(.var 4), (.ix (.var 2) (.var 4))]) (.one 4) .val [(.blt .sorted [(.var 2)])] [] [4])])]
def d_carried : Def := ⟨2, ["trips", "deliveries", "total", "i", "boat"], s_carried⟩
def s_booking_fault : List S :=
  [.iff (.not (.call "is_row" [(.var 0), (.cst (.int 4))]))
   [.ret (.cst (.str ⟨#[115, 104, 97, 112, 101]⟩))]
   [],
  .unp [1, 2, 3, 4] (.var 0),
  .iff (.or (.not (.call "is_name" [(.var 1)])) (.or (.not (.call "is_name" [(.var 2)])) (.not (.call "is_name" [(.var 3)]))))
   [.ret (.cst (.str ⟨#[110, 97, 109, 101]⟩))]
   [],
  .iff (.cmp .eq (.var 2) (.var 3))
   [.ret (.cst (.str ⟨#[115, 101, 108, 102]⟩))]
   [],
  .iff (.not (.call "whole_in" [(.var 4), (.cst (.int 1)), (.glb "MOST_AMOUNT")]))
   [.ret (.cst (.str ⟨#[97, 109, 111, 117, 110, 116]⟩))]
   [],
  .ret (.cst .non)]
def d_booking_fault : Def := ⟨1, ["value", "word", "payer", "taker", "amount"], s_booking_fault⟩
def b_journal_fault_1 : List S :=
  [.set 2 (.call "booking_fault" [(.ix (.var 0) (.var 1))]),
   .iff (.cmp .isnot (.var 2) (.cst .non))
    [.ret (.tup [(.bin .add (.var 1) (.cst (.int 1))), (.var 2)])]
    []]
def s_journal_fault : List S :=
  [.iff (.not (.isi (.var 0) ["tuple"]))
   [.ret (.tup [(.cst (.int 0)), (.cst (.str ⟨#[115, 104, 97, 112, 101]⟩))])]
   [],
  .for (.one 1) .rng [(.blt .len [(.var 0)])]
   b_journal_fault_1 [1, 2],
  .iff (.cmp .gt (.blt .len [(.var 0)]) (.glb "MOST_BOOKINGS"))
   [.ret (.tup [(.bin .add (.glb "MOST_BOOKINGS") (.cst (.int 1))), (.cst (.str ⟨#[109, 97, 110, 121]⟩))])]
   [],
  .ret (.cst .non)]
def d_journal_fault : Def := ⟨1, ["value", "i", "word"], s_journal_fault⟩
def b_balance_table_1 : List S :=
  [.set 3 (.ix (.var 2) (.cst (.int 1))),
   .set 4 (.ix (.var 2) (.cst (.int 2))),
   .put (.bin .sub (.mth .get (.var 1) [(.var 3), (.cst (.int 0))]) (.ix (.var 2) (.cst (.int 3)))) (.var 1) (.var 3),
   .put (.bin .add (.mth .get (.var 1) [(.var 4), (.cst (.int 0))]) (.ix (.var 2) (.cst (.int 3)))) (.var 1) (.var 4)]
def s_balance_table : List S :=
  [.set 1 (.dct false),
  .for (.one 2) .val [(.var 0)]
   b_balance_table_1 [2, 3, 4],
  .ret (.var 1)]
def d_balance_table : Def := ⟨1, ["journal", "table", "booking", "payer", "taker"], s_balance_table⟩
def s_balances : List S :=
  [.set 1 (.call "balance_table" [(.var 0)]),
  .ret (.blt .tuple [(.lc (.tup [(.var 2), (.ix (.var 1) (.var 2))]) (.one 2) .val [(.blt .sorted [(.var 1)])] [] [2])])]
def d_balances : Def := ⟨1, ["journal", "table", "account"], s_balances⟩
def s_balance_of : List S :=
  [.ret (.mth .get (.call "balance_table" [(.var 0)]) [(.var 1), (.cst (.int 0))])]
def d_balance_of : Def := ⟨2, ["journal", "account"], s_balance_of⟩
def s_turnover : List S :=
  [.ret (.blt .sum [(.lc (.ix (.var 2) (.cst (.int 3))) (.one 2) .val [(.var 0)] [(.cmp .eq (.ix (.var 2) (.cst (.int 0))) (.var 1))] [2])])]
def d_turnover : Def := ⟨2, ["journal", "word", "booking"], s_turnover⟩
def b_oil_bookings_1 : List S :=
  [.iff (.cmp .lt (.var 8) (.cst (.int 1)))
    [.cnt]
    [],
   .iff (.cmp .eq (.var 7) (.var 6))
    [.rse "Clash" "name" (.var 7)]
    [],
   .app (.var 3) (.tup [(.cst (.str ⟨#[111, 105, 108]⟩)), (.var 7), (.var 6), (.bin .mul (.var 8) (.var 2))])]
def b_oil_bookings_2 : List S :=
  [.set 6 (.ix (.var 4) (.cst (.int 0))),
   .for (.many [7, 8]) .zip [(.ix (.var 4) (.cst (.int 2))), (.var 5)]
    b_oil_bookings_1 [7, 8]]
def s_oil_bookings : List S :=
  [.set 3 (.lst []),
  .for (.many [4, 5]) .zip [(.var 0), (.var 1)]
   b_oil_bookings_2 [4, 5, 6, 7, 8],
  .ret (.blt .tuple [(.var 3)])]
def d_oil_bookings : Def := ⟨3, ["trips", "deliveries", "price", "found", "trip", "numbers", "boat", "light", "number"], s_oil_bookings⟩
def b_law_trips_1 : List S :=
  [.app (.var 3) (.tup [(.ix (.tup [(.cst (.str ⟨#[98, 111]⟩)), (.cst (.str ⟨#[99, 121]⟩))]) (.bin .mod (.ix (.var 0) (.bin .add (.cst (.int 30)) (.var 4))) (.cst (.int 2)))), (.bin .mod (.ix (.var 0) (.bin .add (.cst (.int 40)) (.var 4))) (.cst (.int 4))), (.ix (.var 2) (.bin .mod (.ix (.var 0) (.bin .add (.cst (.int 50)) (.var 4))) (.cst (.int 6))))])]
def s_law_trips : List S :=
  [.set 2 (.tup [(.tup [(.cst (.str ⟨#[101, 97, 115, 116]⟩))]), (.tup [(.cst (.str ⟨#[109, 105, 100]⟩))]), (.tup [(.cst (.str ⟨#[101, 97, 115, 116]⟩)), (.cst (.str ⟨#[109, 105, 100]⟩))]), (.tup [(.cst (.str ⟨#[109, 105, 100]⟩)), (.cst (.str ⟨#[119, 101, 115, 116]⟩))]), (.tup [(.cst (.str ⟨#[101, 97, 115, 116]⟩)), (.cst (.str ⟨#[119, 101, 115, 116]⟩))]), (.tup [(.cst (.str ⟨#[101, 97, 115, 116]⟩)), (.cst (.str ⟨#[109, 105, 100]⟩)), (.cst (.str ⟨#[119, 101, 115, 116]⟩))])]),
  .set 3 (.lst []),
  .for (.one 4) .rng [(.var 1)]
   b_law_trips_1 [4],
  .ret (.blt .tuple [(.var 3)])]
def d_law_trips : Def := ⟨2, ["pool", "many", "stops", "found", "k"], s_law_trips⟩
def b_law_same_1 : List S :=
  [.iff (.not (.call "_law_same" [(.ix (.var 0) (.var 2)), (.ix (.var 1) (.var 2))]))
    [.ret (.cst (.bl false))]
    []]
def s_law_same : List S :=
  [.iff (.isi (.var 1) ["tuple"])
   [.iff (.or (.not (.isi (.var 0) ["tuple"])) (.cmp .ne (.blt .len [(.var 0)]) (.blt .len [(.var 1)])))
     [.ret (.cst (.bl false))]
     [],
    .for (.one 2) .rng [(.blt .len [(.var 1)])]
     b_law_same_1 [2],
    .ret (.cst (.bl true))]
   [],
  .iff (.isi (.var 1) ["str"])
   [.ret (.and (.isi (.var 0) ["str"]) (.cmp .eq (.var 0) (.var 1)))]
   [],
  .iff (.isi (.var 1) ["bool"])
   [.ret (.and (.isi (.var 0) ["bool"]) (.cmp .eq (.var 0) (.var 1)))]
   [],
  .iff (.cmp .is (.var 1) (.cst .non))
   [.ret (.cmp .is (.var 0) (.cst .non))]
   [],
  .ret (.and (.isi (.var 0) ["int"]) (.and (.not (.isi (.var 0) ["bool"])) (.cmp .eq (.var 0) (.var 1))))]
def d_law_same : Def := ⟨2, ["told", "due", "k"], s_law_same⟩
def s_law_mix : List S :=
  [.set 3 (.bin .mod (.blt .int [(.var 0)]) (.cst (.int 1000003))),
  .set 4 (.bin .mod (.bin .mul (.bin .add (.var 3) (.cst (.int 1))) (.bin .add (.bin .add (.cst (.int 48271)) (.bin .mul (.bin .mul (.cst (.int 2)) (.var 2)) (.var 2))) (.bin .mul (.cst (.int 6)) (.var 1)))) (.cst (.int 2147483647))),
  .set 5 (.bin .mod (.bin .add (.bin .mul (.var 4) (.cst (.int 69621))) (.bin .mul (.bin .fdiv (.var 4) (.cst (.int 8191))) (.bin .add (.var 2) (.cst (.int 3))))) (.cst (.int 2147483629))),
  .ret (.bin .mod (.bin .fdiv (.var 5) (.cst (.int 7))) (.cst (.int 1000)))]
def d_law_mix : Def := ⟨3, ["cell", "k", "j", "small", "one", "two"], s_law_mix⟩
def b_law_pool_1 : List S :=
  [.iff (.cmp .gt (.var 4) (.cst (.int 0)))
    [.app (.var 1) (.bin .mod (.blt .int [(.var 4)]) (.cst (.int 1000))),
     .set 4 (.bin .fdiv (.var 4) (.cst (.int 1000)))]
    [.app (.var 1) (.call "_law_mix" [(.var 3), (.var 2), (.var 5)])]]
def b_law_pool_2 : List S :=
  [.set 3 (.cst (.int 0)),
   .iff (.cmp .lt (.var 2) (.blt .len [(.var 0)]))
    [.set 3 (.blt .abs [(.ix (.var 0) (.var 2))])]
    [],
   .set 4 (.cst (.int 0)),
   .iff (.cmp .ge (.var 3) (.bin .pow (.cst (.int 10)) (.cst (.int 18))))
    [.set 4 (.var 3)]
    [],
   .for (.one 5) .rng [(.cst (.int 40))]
    b_law_pool_1 [5]]
def s_law_pool : List S :=
  [.set 1 (.lst []),
  .for (.one 2) .rng [(.cst (.int 6))]
   b_law_pool_2 [2, 3, 4, 5],
  .ret (.var 1)]
def d_law_pool : Def := ⟨1, ["script", "pool", "k", "cell", "rest", "j"], s_law_pool⟩
def b_law_runs_of_boats_1 : List S :=
  [.set 3 (.ix (.var 2) (.cst (.int 0))),
   .iff (.and (.cmp .eq (.bin .mod (.ix (.var 0) (.cst (.int 29))) (.cst (.int 3))) (.cst (.int 0))) (.cmp .eq (.bin .mod (.ix (.var 0) (.bin .add (.cst (.int 100)) (.blt .len [(.var 1)]))) (.cst (.int 4))) (.cst (.int 0))))
    [.set 3 (.cst (.str ⟨#[109, 105, 100]⟩))]
    [],
   .app (.var 1) (.tup [(.var 3), (.ix (.var 2) (.cst (.int 1))), (.ix (.var 2) (.cst (.int 2)))])]
def s_law_runs_of_boats : List S :=
  [.set 1 (.lst []),
  .for (.one 2) .val [(.call "_law_trips" [(.var 0), (.bin .mod (.ix (.var 0) (.cst (.int 28))) (.cst (.int 9)))])]
   b_law_runs_of_boats_1 [2, 3],
  .ret (.blt .tuple [(.var 1)])]
def d_law_runs_of_boats : Def := ⟨1, ["pool", "found", "trip", "boat"], s_law_runs_of_boats⟩
def b_law_numbers_1 : List S :=
  [.set 6 (.ix (.var 0) (.bin .add (.bin .add (.cst (.int 110)) (.bin .mul (.cst (.int 3)) (.var 3))) (.var 5))),
   .iff (.cmp .eq (.bin .mod (.ix (.var 0) (.bin .add (.bin .add (.cst (.int 140)) (.bin .mul (.cst (.int 3)) (.var 3))) (.var 5))) (.cst (.int 3))) (.cst (.int 0)))
    [.set 6 (.cst (.int 0))]
    [],
   .app (.var 4) (.var 6)]
def b_law_numbers_2 : List S :=
  [.set 4 (.lst []),
   .for (.one 5) .rng [(.blt .len [(.ix (.ix (.var 1) (.var 3)) (.cst (.int 2)))])]
    b_law_numbers_1 [5, 6],
   .app (.var 2) (.blt .tuple [(.var 4)])]
def s_law_numbers : List S :=
  [.set 2 (.lst []),
  .for (.one 3) .rng [(.blt .len [(.var 1)])]
   b_law_numbers_2 [3, 4, 5, 6],
  .ret (.blt .tuple [(.var 2)])]
def d_law_numbers : Def := ⟨2, ["pool", "trips", "found", "i", "row", "k", "number"], s_law_numbers⟩
def b_law_due_1 : List S :=
  [.set 6 (.ix (.ix (.ix (.var 0) (.var 4)) (.cst (.int 2))) (.var 5)),
   .iff (.and (.cmp .gt (.ix (.ix (.var 1) (.var 4)) (.var 5)) (.cst (.int 0))) (.cmp .eq (.var 6) (.ix (.ix (.var 0) (.var 4)) (.cst (.int 0)))))
    [.ret (.var 6)]
    [],
   .iff (.cmp .gt (.ix (.ix (.var 1) (.var 4)) (.var 5)) (.cst (.int 0)))
    [.app (.var 3) (.tup [(.cst (.str ⟨#[111, 105, 108]⟩)), (.var 6), (.ix (.ix (.var 0) (.var 4)) (.cst (.int 0))), (.bin .mul (.ix (.ix (.var 1) (.var 4)) (.var 5)) (.var 2))])]
    []]
def b_law_due_2 : List S :=
  [.for (.one 5) .rng [(.blt .len [(.ix (.ix (.var 0) (.var 4)) (.cst (.int 2)))])]
    b_law_due_1 [5, 6]]
def s_law_due : List S :=
  [.set 3 (.lst []),
  .for (.one 4) .rng [(.blt .len [(.var 0)])]
   b_law_due_2 [4, 5, 6],
  .ret (.blt .tuple [(.var 3)])]
def d_law_due : Def := ⟨3, ["trips", "numbers", "price", "found", "i", "k", "light"], s_law_due⟩
def b_law_booked_1 : List S :=
  [.set 3 (.call "oil_bookings" [(.var 0), (.var 1), (.var 2)])]
def s_law_booked : List S :=
  [.tri b_law_booked_1 [("Clash", some 4)]
   [[.ret (.fld (.var 4) "name")]],
  .ret (.var 3)]
def d_law_booked : Def := ⟨3, ["trips", "numbers", "price", "told", "err"], s_law_booked⟩
def s_law_balance : List S :=
  [.set 2 (.blt .sum [(.lc (.ix (.var 3) (.cst (.int 3))) (.one 3) .val [(.var 0)] [(.cmp .eq (.ix (.var 3) (.cst (.int 2))) (.var 1))] [3])]),
  .ret (.bin .sub (.var 2) (.blt .sum [(.lc (.ix (.var 3) (.cst (.int 3))) (.one 3) .val [(.var 0)] [(.cmp .eq (.ix (.var 3) (.cst (.int 1))) (.var 1))] [3])]))]
def d_law_balance : Def := ⟨2, ["bookings", "name", "gained", "row"], s_law_balance⟩
def b_law_sums_1 : List S :=
  [.set 4 (.bin .add (.var 4) (.lc (.var 5) (.one 5) .val [(.slcLU (.var 3) (.cst (.int 1)) (.cst (.int 3)))] [(.cmp .notin (.var 5) (.var 4))] [5]))]
def b_law_sums_2 : List S :=
  [.iff (.not (.call "_law_same" [(.call "balance_of" [(.var 0), (.ix (.var 3) (.cst (.int 0)))]), (.call "_law_balance" [(.var 0), (.ix (.var 3) (.cst (.int 0)))])]))
    [.ret (.cst (.bl false))]
    []]
def s_law_sums : List S :=
  [.iff (.cmp .isnot (.call "journal_fault" [(.var 0)]) (.cst .non))
   [.ret (.cst (.bl false))]
   [],
  .iff (.not (.call "_law_same" [(.call "turnover" [(.var 0), (.cst (.str ⟨#[111, 105, 108]⟩))]), (.bin .mul (.var 2) (.blt .sum [(.lc (.ix (.var 3) (.cst (.int 1))) (.one 3) .val [(.var 1)] [] [3])]))]))
   [.ret (.cst (.bl false))]
   [],
  .set 4 (.lst []),
  .for (.one 3) .val [(.var 0)]
   b_law_sums_1 [3],
  .set 6 (.blt .tuple [(.lc (.tup [(.var 5), (.call "_law_balance" [(.var 0), (.var 5)])]) (.one 5) .val [(.blt .sorted [(.var 4)])] [] [5])]),
  .iff (.not (.call "_law_same" [(.call "balances" [(.var 0)]), (.var 6)]))
   [.ret (.cst (.bl false))]
   [],
  .for (.one 3) .val [(.var 1)]
   b_law_sums_2 [3],
  .ret (.cst (.bl true))]
def d_law_sums : Def := ⟨3, ["bookings", "loads", "price", "row", "names", "name", "due"], s_law_sums⟩
def b_law_refused_1 : List S :=
  [.exp (.call "carried" [(.var 2), (.var 3)])]
def s_law_refused : List S :=
  [.set 2 (.slcU (.bin .add (.var 0) (.bin .mul (.tup [(.tup [(.cst (.str ⟨#[98, 111]⟩)), (.cst (.int 0)), (.tup [(.cst (.str ⟨#[101, 97, 115, 116]⟩))])])]) (.cst (.int 9)))) (.cst (.int 9))),
  .set 3 (.slcU (.bin .add (.var 1) (.bin .mul (.tup [(.tup [(.cst (.int 1))])]) (.cst (.int 9)))) (.cst (.int 9))),
  .tri b_law_refused_1 [("TooLarge", some 4)]
   [[.ret (.cmp .eq (.fld (.var 4) "limit") (.cst (.int 8)))]],
  .ret (.cst (.bl false))]
def d_law_refused : Def := ⟨2, ["trips", "numbers", "many", "rows", "err"], s_law_refused⟩
def b_law_1 : List S :=
  [.set 7 (.lc (.blt .sum [(.ix (.var 3) (.var 8))]) (.one 8) .rng [(.blt .len [(.var 2)])] [(.cmp .eq (.ix (.ix (.var 2) (.var 8)) (.cst (.int 0))) (.var 6))] [8]),
   .iff (.cmp .gt (.blt .len [(.var 7)]) (.cst (.int 0)))
    [.app (.var 5) (.tup [(.var 6), (.blt .sum [(.var 7)])])]
    []]
def s_law : List S :=
  [.set 1 (.call "_law_pool" [(.var 0)]),
  .set 2 (.call "_law_runs_of_boats" [(.var 1)]),
  .set 3 (.call "_law_numbers" [(.var 1), (.var 2)]),
  .set 4 (.bin .add (.cst (.int 1)) (.bin .mod (.ix (.var 1) (.cst (.int 3))) (.cst (.int 99)))),
  .set 5 (.lst []),
  .for (.one 6) .val [(.tup [(.cst (.str ⟨#[98, 111]⟩)), (.cst (.str ⟨#[99, 121]⟩)), (.cst (.str ⟨#[109, 105, 100]⟩))])]
   b_law_1 [6, 7],
  .iff (.not (.call "_law_same" [(.call "carried" [(.var 2), (.var 3)]), (.blt .tuple [(.var 5)])]))
   [.ret (.cst (.bl false))]
   [],
  .set 9 (.call "_law_due" [(.var 2), (.var 3), (.var 4)]),
  .set 10 (.call "_law_booked" [(.var 2), (.var 3), (.var 4)]),
  .iff (.or (.not (.call "_law_same" [(.var 10), (.var 9)])) (.not (.call "_law_refused" [(.var 2), (.var 3)])))
   [.ret (.cst (.bl false))]
   [],
  .ret (.or (.isi (.var 9) ["str"]) (.call "_law_sums" [(.var 10), (.var 5), (.var 4)]))]
def d_law : Def := ⟨1, ["script", "pool", "trips", "numbers", "price", "loads", "boat", "rows", "i", "due", "told"], s_law⟩
def pg : Pg := ⟨[("is_whole", d_is_whole), ("whole_in", d_whole_in), ("is_name", d_is_name), ("is_row", d_is_row), ("check_trip_count", d_check_trip_count), ("carried", d_carried), ("booking_fault", d_booking_fault), ("journal_fault", d_journal_fault), ("balance_table", d_balance_table), ("balances", d_balances), ("balance_of", d_balance_of), ("turnover", d_turnover), ("oil_bookings", d_oil_bookings), ("_law_trips", d_law_trips), ("_law_same", d_law_same), ("_law_mix", d_law_mix), ("_law_pool", d_law_pool), ("_law_runs_of_boats", d_law_runs_of_boats), ("_law_numbers", d_law_numbers), ("_law_due", d_law_due), ("_law_booked", d_law_booked), ("_law_balance", d_law_balance), ("_law_sums", d_law_sums), ("_law_refused", d_law_refused), ("law", d_law)], [("LETTERS", (.str ⟨#[97, 98, 99, 100, 101, 102, 103, 104, 105, 106, 107, 108, 109, 110, 111, 112, 113, 114, 115, 116, 117, 118, 119, 120, 121, 122]⟩)), ("MOST_TRIPS", (.int 8)), ("MOST_AMOUNT", (.int 99999)), ("MOST_BOOKINGS", (.int 60))], [("TooLarge", "limit"), ("Clash", "name")]⟩
theorem u_is_whole {k : Nat} {a0 : Vl} : vrun pg.T pg.G (k + 1) "is_whole" [a0] = vleave (vexs ⟨vrun pg.T pg.G k, vG pg.G⟩ s_is_whole [some (a0, false)]) := by
  rw [vrun_s (d := d_is_whole) rfl rfl] <;> rfl
theorem u_whole_in {k : Nat} {a0 a1 a2 : Vl} : vrun pg.T pg.G (k + 1) "whole_in" [a0, a1, a2] = vleave (vexs ⟨vrun pg.T pg.G k, vG pg.G⟩ s_whole_in [some (a0, false), some (a1, false), some (a2, false)]) := by
  rw [vrun_s (d := d_whole_in) rfl rfl] <;> rfl
theorem u_is_name {k : Nat} {a0 : Vl} : vrun pg.T pg.G (k + 1) "is_name" [a0] = vleave (vexs ⟨vrun pg.T pg.G k, vG pg.G⟩ s_is_name [some (a0, false), none]) := by
  rw [vrun_s (d := d_is_name) rfl rfl] <;> rfl
theorem u_is_row {k : Nat} {a0 a1 : Vl} : vrun pg.T pg.G (k + 1) "is_row" [a0, a1] = vleave (vexs ⟨vrun pg.T pg.G k, vG pg.G⟩ s_is_row [some (a0, false), some (a1, false)]) := by
  rw [vrun_s (d := d_is_row) rfl rfl] <;> rfl
theorem u_check_trip_count {k : Nat} {a0 : Vl} : vrun pg.T pg.G (k + 1) "check_trip_count" [a0] = vleave (vexs ⟨vrun pg.T pg.G k, vG pg.G⟩ s_check_trip_count [some (a0, false)]) := by
  rw [vrun_s (d := d_check_trip_count) rfl rfl] <;> rfl
theorem u_carried {k : Nat} {a0 a1 : Vl} : vrun pg.T pg.G (k + 1) "carried" [a0, a1] = vleave (vexs ⟨vrun pg.T pg.G k, vG pg.G⟩ s_carried [some (a0, false), some (a1, false), none, none, none]) := by
  rw [vrun_s (d := d_carried) rfl rfl] <;> rfl
theorem u_booking_fault {k : Nat} {a0 : Vl} : vrun pg.T pg.G (k + 1) "booking_fault" [a0] = vleave (vexs ⟨vrun pg.T pg.G k, vG pg.G⟩ s_booking_fault [some (a0, false), none, none, none, none]) := by
  rw [vrun_s (d := d_booking_fault) rfl rfl] <;> rfl
theorem u_journal_fault {k : Nat} {a0 : Vl} : vrun pg.T pg.G (k + 1) "journal_fault" [a0] = vleave (vexs ⟨vrun pg.T pg.G k, vG pg.G⟩ s_journal_fault [some (a0, false), none, none]) := by
  rw [vrun_s (d := d_journal_fault) rfl rfl] <;> rfl
theorem u_balance_table {k : Nat} {a0 : Vl} : vrun pg.T pg.G (k + 1) "balance_table" [a0] = vleave (vexs ⟨vrun pg.T pg.G k, vG pg.G⟩ s_balance_table [some (a0, false), none, none, none, none]) := by
  rw [vrun_s (d := d_balance_table) rfl rfl] <;> rfl
theorem u_balances {k : Nat} {a0 : Vl} : vrun pg.T pg.G (k + 1) "balances" [a0] = vleave (vexs ⟨vrun pg.T pg.G k, vG pg.G⟩ s_balances [some (a0, false), none, none]) := by
  rw [vrun_s (d := d_balances) rfl rfl] <;> rfl
theorem u_balance_of {k : Nat} {a0 a1 : Vl} : vrun pg.T pg.G (k + 1) "balance_of" [a0, a1] = vleave (vexs ⟨vrun pg.T pg.G k, vG pg.G⟩ s_balance_of [some (a0, false), some (a1, false)]) := by
  rw [vrun_s (d := d_balance_of) rfl rfl] <;> rfl
theorem u_turnover {k : Nat} {a0 a1 : Vl} : vrun pg.T pg.G (k + 1) "turnover" [a0, a1] = vleave (vexs ⟨vrun pg.T pg.G k, vG pg.G⟩ s_turnover [some (a0, false), some (a1, false), none]) := by
  rw [vrun_s (d := d_turnover) rfl rfl] <;> rfl
theorem u_oil_bookings {k : Nat} {a0 a1 a2 : Vl} : vrun pg.T pg.G (k + 1) "oil_bookings" [a0, a1, a2] = vleave (vexs ⟨vrun pg.T pg.G k, vG pg.G⟩ s_oil_bookings [some (a0, false), some (a1, false), some (a2, false), none, none, none, none, none, none]) := by
  rw [vrun_s (d := d_oil_bookings) rfl rfl] <;> rfl
theorem u_law_trips {k : Nat} {a0 a1 : Vl} : vrun pg.T pg.G (k + 1) "_law_trips" [a0, a1] = vleave (vexs ⟨vrun pg.T pg.G k, vG pg.G⟩ s_law_trips [some (a0, false), some (a1, false), none, none, none]) := by
  rw [vrun_s (d := d_law_trips) rfl rfl] <;> rfl
theorem u_law_same {k : Nat} {a0 a1 : Vl} : vrun pg.T pg.G (k + 1) "_law_same" [a0, a1] = vleave (vexs ⟨vrun pg.T pg.G k, vG pg.G⟩ s_law_same [some (a0, false), some (a1, false), none]) := by
  rw [vrun_s (d := d_law_same) rfl rfl] <;> rfl
theorem u_law_mix {k : Nat} {a0 a1 a2 : Vl} : vrun pg.T pg.G (k + 1) "_law_mix" [a0, a1, a2] = vleave (vexs ⟨vrun pg.T pg.G k, vG pg.G⟩ s_law_mix [some (a0, false), some (a1, false), some (a2, false), none, none, none]) := by
  rw [vrun_s (d := d_law_mix) rfl rfl] <;> rfl
theorem u_law_pool {k : Nat} {a0 : Vl} : vrun pg.T pg.G (k + 1) "_law_pool" [a0] = vleave (vexs ⟨vrun pg.T pg.G k, vG pg.G⟩ s_law_pool [some (a0, false), none, none, none, none, none]) := by
  rw [vrun_s (d := d_law_pool) rfl rfl] <;> rfl
theorem u_law_runs_of_boats {k : Nat} {a0 : Vl} : vrun pg.T pg.G (k + 1) "_law_runs_of_boats" [a0] = vleave (vexs ⟨vrun pg.T pg.G k, vG pg.G⟩ s_law_runs_of_boats [some (a0, false), none, none, none]) := by
  rw [vrun_s (d := d_law_runs_of_boats) rfl rfl] <;> rfl
theorem u_law_numbers {k : Nat} {a0 a1 : Vl} : vrun pg.T pg.G (k + 1) "_law_numbers" [a0, a1] = vleave (vexs ⟨vrun pg.T pg.G k, vG pg.G⟩ s_law_numbers [some (a0, false), some (a1, false), none, none, none, none, none]) := by
  rw [vrun_s (d := d_law_numbers) rfl rfl] <;> rfl
theorem u_law_due {k : Nat} {a0 a1 a2 : Vl} : vrun pg.T pg.G (k + 1) "_law_due" [a0, a1, a2] = vleave (vexs ⟨vrun pg.T pg.G k, vG pg.G⟩ s_law_due [some (a0, false), some (a1, false), some (a2, false), none, none, none, none]) := by
  rw [vrun_s (d := d_law_due) rfl rfl] <;> rfl
theorem u_law_booked {k : Nat} {a0 a1 a2 : Vl} : vrun pg.T pg.G (k + 1) "_law_booked" [a0, a1, a2] = vleave (vexs ⟨vrun pg.T pg.G k, vG pg.G⟩ s_law_booked [some (a0, false), some (a1, false), some (a2, false), none, none]) := by
  rw [vrun_s (d := d_law_booked) rfl rfl] <;> rfl
theorem u_law_balance {k : Nat} {a0 a1 : Vl} : vrun pg.T pg.G (k + 1) "_law_balance" [a0, a1] = vleave (vexs ⟨vrun pg.T pg.G k, vG pg.G⟩ s_law_balance [some (a0, false), some (a1, false), none, none]) := by
  rw [vrun_s (d := d_law_balance) rfl rfl] <;> rfl
theorem u_law_sums {k : Nat} {a0 a1 a2 : Vl} : vrun pg.T pg.G (k + 1) "_law_sums" [a0, a1, a2] = vleave (vexs ⟨vrun pg.T pg.G k, vG pg.G⟩ s_law_sums [some (a0, false), some (a1, false), some (a2, false), none, none, none, none]) := by
  rw [vrun_s (d := d_law_sums) rfl rfl] <;> rfl
theorem u_law_refused {k : Nat} {a0 a1 : Vl} : vrun pg.T pg.G (k + 1) "_law_refused" [a0, a1] = vleave (vexs ⟨vrun pg.T pg.G k, vG pg.G⟩ s_law_refused [some (a0, false), some (a1, false), none, none, none]) := by
  rw [vrun_s (d := d_law_refused) rfl rfl] <;> rfl
theorem u_law {k : Nat} {a0 : Vl} : vrun pg.T pg.G (k + 1) "law" [a0] = vleave (vexs ⟨vrun pg.T pg.G k, vG pg.G⟩ s_law [some (a0, false), none, none, none, none, none, none, none, none, none, none]) := by
  rw [vrun_s (d := d_law) rfl rfl] <;> rfl
@[simp] theorem g_LETTERS : vG pg.G "LETTERS" = some (.str ⟨#[97, 98, 99, 100, 101, 102, 103, 104, 105, 106, 107, 108, 109, 110, 111, 112, 113, 114, 115, 116, 117, 118, 119, 120, 121, 122]⟩) := wrfl rfl
@[simp] theorem g_MOST_TRIPS : vG pg.G "MOST_TRIPS" = some (.int 8) := wrfl rfl
@[simp] theorem g_MOST_AMOUNT : vG pg.G "MOST_AMOUNT" = some (.int 99999) := wrfl rfl
@[simp] theorem g_MOST_BOOKINGS : vG pg.G "MOST_BOOKINGS" = some (.int 60) := wrfl rfl
end K73
end
section
set_option Elab.async false
set_option linter.all false
set_option autoImplicit false
set_option maxRecDepth 100000
namespace K73
open Sk
open PySem (Str)
theorem r_mix {k : Nat} (hk : 1 ≤ k) {cell a b : Int} (ha : 0 ≤ a ∧ a < 6) (hb : 0 ≤ b ∧ b < 40) : ∃ v : Int, (0 ≤ v ∧ v < 1000) ∧ vrun pg.T pg.G k "_law_mix" [.int cell, .int a, .int b] = .ok (.int v, false) := by
  obtain ⟨j, rfl, hj⟩ := fuel hk
  rw [u_law_mix]
  simp (disch := first | omega | (simp; first | done | omega)) [s_law_mix]
  exact ⟨Int.emod_nonneg _ (by decide), Int.emod_lt_of_pos _ (by decide)⟩
theorem pool_in {k : Nat} (hk : 1 ≤ k) {r : List Vl} {a cell rest : Int} {vs0 : List Int} (ha : 0 ≤ a ∧ a < 6) (hl : vs0.length ≤ 200) (h0 : Pl vs0) :
    ∃ (vs : List Int) (rest' : Int), vs.length = vs0.length + 40 ∧ Pl vs ∧ vforL (vbd ⟨vrun pg.T pg.G k, vG pg.G⟩ (.one 5) b_law_pool_1 [5]) (vrng 0 40) [some (.ro r, false), some (.lst (vs0.map Vl.int), true), some (.int a, false), some (.int cell, false), some (.int rest, false), none] =
      .nx [some (.ro r, false), some (.lst (vs.map Vl.int), true), some (.int a, false), some (.int cell, false), some (.int rest', false), none] := by
  obtain ⟨σ, h1, vs, rest', h2, h3, rfl⟩ := vfor_inv (b := vbd ⟨vrun pg.T pg.G k, vG pg.G⟩ (.one 5) b_law_pool_1 [5]) (fun i : Nat => Vl.int (0 + (i : Int))) (fun i σ => ∃ (vs : List Int) (rest' : Int), vs.length = vs0.length + i ∧ Pl vs ∧ σ = [some (.ro r, false), some (.lst (vs.map Vl.int), true), some (.int a, false), some (.int cell, false), some (.int rest', false), none])
    (xs := List.range 40) (σ := [some (.ro r, false), some (.lst (vs0.map Vl.int), true), some (.int a, false), some (.int cell, false), some (.int rest, false), none]) ⟨vs0, rest, rfl, h0, rfl⟩ (fun i x σ hx ⟨vs, rest', h2, h3, h4⟩ => by
      subst h4
      have hi : i < 40 ∧ x = i := by
        have := (List.getElem?_eq_some_iff.mp hx).1
        rw [List.getElem?_range (by simpa using this)] at hx
        cases hx
        exact ⟨by simpa using this, rfl⟩
      obtain ⟨hi, rfl⟩ := hi
      obtain ⟨v, hv, e⟩ := r_mix hk (cell := cell) (a := a) (b := (0 + (x : Int))) ha (by omega)
      by_cases hr : 0 < rest'
      · refine ⟨_, ?_, vs ++ [rest' % 1000], rest' / 1000, by simp; omega, pl_snoc h3 (by omega), rfl⟩
        simp (disch := first | omega | (simp; first | done | omega)) [vbd_one, b_law_pool_1, hr]
      · refine ⟨_, ?_, vs ++ [v], rest', by simp; omega, pl_snoc h3 (by omega), rfl⟩
        rw [Int.zero_add] at e ⊢
        simp (disch := first | omega | (simp; first | done | omega)) [vbd_one, b_law_pool_1, hr, e])
  exact ⟨vs, rest', by simpa using h2, h3, h1⟩
theorem r_pool {k : Nat} (hk : 2 ≤ k) {ns : List Int} (hn : ns.length ≤ 63) : ∃ vs : List Int, vs.length = 240 ∧ Pl vs ∧ vrun pg.T pg.G k "_law_pool" [.ro (ns.map Vl.int)] = .ok (.lst (vs.map Vl.int), true) := by
  obtain ⟨j, rfl, hj⟩ := fuel hk
  rw [u_law_pool]
  obtain ⟨σ, h1, vs, h2, h3, rfl⟩ := vfor_inv (b := vbd ⟨vrun pg.T pg.G j, vG pg.G⟩ (.one 2) b_law_pool_2 [2, 3, 4, 5]) (fun i : Nat => Vl.int (0 + (i : Int))) (fun i σ => ∃ (vs : List Int), vs.length = 40 * i ∧ Pl vs ∧ σ = [some (.ro (ns.map Vl.int), false), some (.lst (vs.map Vl.int), true), none, none, none, none])
    (xs := List.range 6) (σ := [some (.ro (ns.map Vl.int), false), some (.lst [], true), none, none, none, none]) ⟨[], rfl, fun _ h => (by cases h), rfl⟩ (fun i x σ hx ⟨vs, h2, h3, h4⟩ => by
      subst h4
      have hi : i < 6 ∧ x = i := by
        have := (List.getElem?_eq_some_iff.mp hx).1
        rw [List.getElem?_range (by simpa using this)] at hx
        cases hx
        exact ⟨by simpa using this, rfl⟩
      obtain ⟨hi, rfl⟩ := hi
      rw [Int.zero_add]
      have go : ∀ cell rest : Int, ∃ (vs' : List Int) (rest' : Int), vs'.length = 40 * (x + 1) ∧ Pl vs' ∧ _ := fun cell rest => by
        obtain ⟨vs', rest', g1, g2, g3⟩ := pool_in hj (r := ns.map Vl.int) (a := x) (cell := cell) (rest := rest) (vs0 := vs) (by omega) (by omega) h3
        exact ⟨vs', rest', by omega, g2, g3⟩
      by_cases h : x < ns.length
      · have hix : vix (.ro (ns.map Vl.int)) (.int (x : Int)) = .ok (.int (ns[x]), false) := by
          rw [ix_r (by omega) (by simpa using h)]
          simp
        by_cases hc : 1000000000000000000 ≤ (if ns[x] < 0 then -ns[x] else ns[x])
        · obtain ⟨vs', rest', g1, g2, g3⟩ := go (if ns[x] < 0 then -ns[x] else ns[x]) (if ns[x] < 0 then -ns[x] else ns[x])
          refine ⟨_, ?_, vs', g1, g2, rfl⟩
          simp (disch := first | omega | (simp; first | done | omega)) [vbd_one, b_law_pool_2, h, hix, hc, g3]
        · obtain ⟨vs', rest', g1, g2, g3⟩ := go (if ns[x] < 0 then -ns[x] else ns[x]) 0
          refine ⟨_, ?_, vs', g1, g2, rfl⟩
          simp (disch := first | omega | (simp; first | done | omega)) [vbd_one, b_law_pool_2, h, hix, hc, g3]
      · obtain ⟨vs', rest', g1, g2, g3⟩ := go 0 0
        refine ⟨_, ?_, vs', g1, g2, rfl⟩
        simp (disch := first | omega | (simp; first | done | omega)) [vbd_one, b_law_pool_2, h, g3])
  refine ⟨vs, by simpa using h2, h3, ?_⟩
  have h1 : vforL (vbd ⟨vrun pg.T pg.G j, vG pg.G⟩ (.one 2) b_law_pool_2 [2, 3, 4, 5]) (vrng 0 6) [some (.ro (ns.map Vl.int), false), some (.lst [], true), none, none, none, none] = .nx _ := h1
  simp (disch := first | omega | (simp; first | done | omega)) [s_law_pool, h1]
end K73
end
section
set_option Elab.async false
set_option linter.all false
set_option autoImplicit false
set_option maxRecDepth 100000
namespace K73
open Sk
open PySem (Str)
theorem r_same : ∀ (n : Nat) (v : Vl), smv n v = true → ∀ k, n + 2 ≤ k → vrun pg.T pg.G k "_law_same" [v, v] = .ok (.bl true, false)
  | n, .non, _, k, hk => by
    obtain ⟨j, rfl, hj⟩ := fuel hk
    rw [u_law_same]
    simp [s_law_same]
  | n, .bl b, _, k, hk => by
    obtain ⟨j, rfl, hj⟩ := fuel hk
    rw [u_law_same]
    simp [s_law_same]
  | n, .int i, _, k, hk => by
    obtain ⟨j, rfl, hj⟩ := fuel hk
    rw [u_law_same]
    simp [s_law_same]
  | n, .str i, _, k, hk => by
    obtain ⟨j, rfl, hj⟩ := fuel hk
    rw [u_law_same]
    simp [s_law_same]
  | n, .lst _, h, _, _ => by cases n <;> simp [smv] at h
  | n, .ro _, h, _, _ => by cases n <;> simp [smv] at h
  | n, .dk _ _, h, _, _ => by cases n <;> simp [smv] at h
  | n, .xo _ _, h, _, _ => by cases n <;> simp [smv] at h
  | 0, .tup _, h, _, _ => by simp [smv] at h
  | n + 1, .tup xs, h, k, hk => by
    obtain ⟨j, rfl, hj⟩ := fuel hk
    rw [u_law_same]
    simp only [smv, Bool.and_eq_true, decide_eq_true_eq, List.all_eq_true] at h
    have hf := vfor_pass (b := vbd ⟨vrun pg.T pg.G j, vG pg.G⟩ (.one 2) b_law_same_1 [2]) (fun i : Nat => Vl.int (0 + (i : Int))) (σ := [some (.tup xs, false), some (.tup xs, false), none]) (List.range xs.length) (fun i hi => by
      have hi : i < xs.length := by simpa using hi
      have hx : vix (.tup xs) (.int (i : Int)) = .ok (xs[i], false) := by
        rw [ix_t (by omega) (by omega)]
        simp
      have hr := r_same n xs[i] (h.2 _ (List.getElem_mem hi)) j (by omega)
      rw [Int.zero_add]
      simp [vbd_one, b_law_same_1, hx, hr])
    have hf : vforL (vbd ⟨vrun pg.T pg.G j, vG pg.G⟩ (.one 2) b_law_same_1 [2]) (vrng 0 xs.length) [some (.tup xs, false), some (.tup xs, false), none] = .nx _ := hf
    simp (disch := first | omega | (simp; first | done | omega)) [s_law_same, hf]
/-- a text of plain letters -/
def okS (s : Str) : Bool := decide (s.length ≤ 9) && s.cps.toList.all fun c => decide (c < 128)
theorem okS_fit {s : Str} (h : okS s = true) : strFit s = true := by
  unfold okS at h
  simp only [Bool.and_eq_true, decide_eq_true_eq, List.all_eq_true] at h
  unfold strFit lim
  simp only [Bool.and_eq_true, decide_eq_true_eq, Array.all_eq_true]
  refine ⟨by omega, fun i hi => ?_⟩
  have := h.2 s.cps[i] (by simp)
  omega
/-- a booking -/
structure B where
  w : Str
  p : Str
  t : Str
  a : Int
  deriving Inhabited
def bV (b : B) : Vl := .tup [.str b.w, .str b.p, .str b.t, .int b.a]
structure B.Ok (b : B) : Prop where
  w : okS b.w = true
  p : okS b.p = true
  t : okS b.t = true
  a0 : 1 ≤ b.a
  a1 : b.a ≤ 99999
end K73
end
section
set_option Elab.async false
set_option linter.all false
set_option autoImplicit false
set_option maxRecDepth 100000
namespace K73
open Sk
open PySem (Str)
/-! ### the table of a journal -/
abbrev Tb := List (Str × Int)
def tadd (T : Tb) (s : Str) (x : Int) : Tb := alput T s ((alget T s).getD 0 + x)
def tsub (T : Tb) (s : Str) (x : Int) : Tb := alput T s ((alget T s).getD 0 - x)
def tstep (T : Tb) (b : B) : Tb := tadd (tsub T b.p b.a) b.t b.a
def tab (js : List B) : Tb := js.foldl tstep []
def accs (js : List B) : List Str := js.foldl (fun l b => ins (ins l b.p) b.t) []
def bal (js : List B) (u : Str) : Int := (js.map fun b => (if b.t = u then b.a else 0) - (if b.p = u then b.a else 0)).sum
theorem tadd_get (T : Tb) (s u : Str) (x : Int) : (alget (tadd T s x) u).getD 0 = (alget T u).getD 0 + if u = s then x else 0 := by
  unfold tadd
  rw [alput_get]
  by_cases h : u = s
  · subst h
    simp
  · simp [h]
theorem tsub_get (T : Tb) (s u : Str) (x : Int) : (alget (tsub T s x) u).getD 0 = (alget T u).getD 0 - if u = s then x else 0 := by
  unfold tsub
  rw [alput_get]
  by_cases h : u = s
  · subst h
    simp
  · simp [h]
theorem tab_keys (js : List B) : (tab js).map (·.1) = accs js := by
  unfold tab accs
  have : ∀ (js : List B) (T : Tb) (l : List Str), T.map (·.1) = l → (js.foldl tstep T).map (·.1) = js.foldl (fun l b => ins (ins l b.p) b.t) l := fun js => by
    induction js with
    | nil => intro T l h; exact h
    | cons b js ih =>
      intro T l h
      rw [List.foldl_cons, List.foldl_cons]
      refine ih _ _ ?_
      unfold tstep tadd tsub
      rw [alput_keys, alput_keys, h]
  exact this js [] [] rfl
theorem tab_get (js : List B) (u : Str) : (alget (tab js) u).getD 0 = bal js u := by
  have : ∀ (js : List B) (T : Tb), (alget (js.foldl tstep T) u).getD 0 = (alget T u).getD 0 + bal js u := fun js => by
    induction js with
    | nil => intro T; simp [bal]
    | cons b js ih =>
      intro T
      rw [List.foldl_cons, ih]
      unfold tstep
      rw [tadd_get, tsub_get]
      simp only [bal, List.map_cons, List.sum_cons]
      have e1 : (if u = b.p then b.a else 0) = (if b.p = u then b.a else 0) := by
        by_cases h : b.p = u
        · simp [h]
        · have h' : ¬ u = b.p := fun e => h e.symm
          simp [h, h']
      have e2 : (if u = b.t then b.a else 0) = (if b.t = u then b.a else 0) := by
        by_cases h : b.t = u
        · simp [h]
        · have h' : ¬ u = b.t := fun e => h e.symm
          simp [h, h']
      rw [e1, e2]
      omega
  have := this js []
  simpa [tab, alget] using this
theorem tab_some (js : List B) {u : Str} (h : u ∈ accs js) : alget (tab js) u = some (bal js u) := by
  obtain ⟨v, hv⟩ := alget_some (T := tab js) (s := u) (by rw [tab_keys]; exact h)
  have := tab_get js u
  rw [hv] at this
  rw [hv, ← this]
  rfl
theorem accs_len (js : List B) : (accs js).length ≤ 2 * js.length := by
  unfold accs
  have : ∀ (js : List B) (l : List Str), (js.foldl (fun l b => ins (ins l b.p) b.t) l).length ≤ l.length + 2 * js.length := fun js => by
    induction js with
    | nil => intro l; simp
    | cons b js ih =>
      intro l
      rw [List.foldl_cons]
      have h1 := ih (ins (ins l b.p) b.t)
      have h2 := ins_len (ins l b.p) b.t
      have h3 := ins_len l b.p
      rw [List.length_cons]
      omega
  simpa using this js []
theorem accs_mem (js : List B) {s : Str} : s ∈ accs js ↔ ∃ b ∈ js, s = b.p ∨ s = b.t := by
  unfold accs
  have : ∀ (js : List B) (l : List Str), s ∈ js.foldl (fun l b => ins (ins l b.p) b.t) l ↔ s ∈ l ∨ ∃ b ∈ js, s = b.p ∨ s = b.t := fun js => by
    induction js with
    | nil => intro l; simp
    | cons b js ih =>
      intro l
      rw [List.foldl_cons, ih, ins_mem, ins_mem]
      simp only [List.mem_cons, exists_eq_or_imp]
      constructor
      · rintro (((h | h) | h) | h)
        · exact .inl h
        · exact .inr (.inl (.inl h))
        · exact .inr (.inl (.inr h))
        · exact .inr (.inr h)
      · rintro (h | (h | h) | h)
        · exact .inl (.inl (.inl h))
        · exact .inl (.inl (.inr h))
        · exact .inl (.inr h)
        · exact .inr h
  simpa using this js []
theorem accs_nodup (js : List B) : (accs js).Nodup := by
  unfold accs
  have : ∀ (js : List B) (l : List Str), l.Nodup → (js.foldl (fun l b => ins (ins l b.p) b.t) l).Nodup := fun js => by
    induction js with
    | nil => intro l h; exact h
    | cons b js ih =>
      intro l h
      rw [List.foldl_cons]
      exact ih _ (ins_nodup (ins_nodup h))
  exact this js [] List.nodup_nil
def names (js : List B) : List Str := sortS (accs js)
theorem names_mem {js : List B} {s : Str} : s ∈ names js ↔ s ∈ accs js := sortS_mem
theorem names_nodup (js : List B) : (names js).Nodup := (sortS_perm _).nodup_iff.mpr (accs_nodup js)
theorem names_len (js : List B) : (names js).length ≤ 2 * js.length := by
  unfold names
  rw [sortS_len]
  exact accs_len js
theorem accs_fit {js : List B} (hj : ∀ b ∈ js, b.Ok) {s : Str} (h : s ∈ accs js) : strFit s = true := by
  obtain ⟨b, hb, e⟩ := (accs_mem js).mp h
  rcases e with rfl | rfl
  · exact okS_fit (hj b hb).p
  · exact okS_fit (hj b hb).t
theorem bal_zero {l : List Str} (nd : l.Nodup) : ∀ js : List B, (∀ b ∈ js, b.p ∈ l ∧ b.t ∈ l) → (l.map (bal js)).sum = 0
  | [], _ => by
    have : ∀ l : List Str, (l.map (bal [])).sum = 0 := fun l => by
      induction l with
      | nil => rfl
      | cons x l ih => rw [List.map_cons, List.sum_cons, ih]; rfl
    exact this l
  | b :: js, h => by
    have e : (fun s => bal (b :: js) s) = fun s => ((if b.t = s then b.a else 0) - (if b.p = s then b.a else 0)) + bal js s := by
      funext s
      simp [bal]
    show (l.map fun s => bal (b :: js) s).sum = 0
    rw [e, sum_add l (fun s => (if b.t = s then b.a else 0) - (if b.p = s then b.a else 0)) (bal js), sum_sub l (fun s => if b.t = s then b.a else 0) (fun s => if b.p = s then b.a else 0), sum_one nd (h b List.mem_cons_self).2, sum_one nd (h b List.mem_cons_self).1]
    have := bal_zero nd js fun x hx => h x (List.mem_cons_of_mem _ hx)
    show b.a - b.a + (l.map (bal js)).sum = 0
    rw [this]
    omega
theorem names_zero (js : List B) : ((names js).map (bal js)).sum = 0 := by
  refine bal_zero (names_nodup js) js fun b hb => ⟨?_, ?_⟩
  · exact names_mem.mpr ((accs_mem js).mpr ⟨b, hb, .inl rfl⟩)
  · exact names_mem.mpr ((accs_mem js).mpr ⟨b, hb, .inr rfl⟩)
/-! ### the program's balances -/
abbrev encB (T : Tb) : Vl := encT (Sum.inr : Str → Ky) Vl.int T
theorem tab_len (js : List B) : (tab js).length ≤ 2 * js.length := by
  have := accs_len js
  rw [← tab_keys, List.length_map] at this
  exact this
theorem r_table {k : Nat} (hk : 1 ≤ k) {js : List B} (hl : js.length ≤ 100000) : vrun pg.T pg.G k "balance_table" [.tup (js.map bV)] = .ok (encB (tab js), true) := by
  obtain ⟨j, rfl, hj⟩ := fuel hk
  rw [u_balance_table]
  obtain ⟨σ, h1, T, h2, h3, rfl⟩ := vfor_inv (b := vbd ⟨vrun pg.T pg.G j, vG pg.G⟩ (.one 2) b_balance_table_1 [2, 3, 4]) bV (fun i σ => ∃ T : Tb, T = tab (js.take i) ∧ T.length ≤ 2 * i ∧ σ = [some (.tup (js.map bV), false), some (encB T, true), none, none, none])
    (xs := js) (σ := [some (.tup (js.map bV), false), some (encB [], true), none, none, none]) ⟨[], by simp [tab], by simp, rfl⟩ (fun i b σ hx ⟨T, h2, h3, h4⟩ => by
      subst h4
      have hi : i < js.length := (List.getElem?_eq_some_iff.mp hx).1
      have hT : tstep T b = tab (js.take (i + 1)) := by
        rw [List.take_add_one, hx, h2]
        simp [tab]
      have l1 : (tsub T b.p b.a).length ≤ T.length + 1 := alput_len _ _ _
      have l2 : (tstep T b).length ≤ (tsub T b.p b.a).length + 1 := alput_len _ _ _
      have hg : ∀ (T : Tb) (s : Str), vmth .get (encB T) [.str s, .int 0] = .ok (.int ((alget T s).getD 0), false) := fun T s => by
        rw [get_al kstr_inj (q := s) rfl]
        cases alget T s <;> rfl
      have hp : ∀ (T : Tb) (s : Str) (v : Int), T.length < 16777216 → vput (encB T) (.str s) (.int v) = some (encB (alput T s v)) := fun T s v h => put_al kstr_inj (q := s) rfl h
      have hty : ∀ T : Tb, vty .get (encB T) = true := fun T => rfl
      refine ⟨_, ?_, tstep T b, hT, ?_, rfl⟩
      · simp (disch := first | omega | (simp; first | done | omega)) [vbd_one, b_balance_table_1, bV, hg, hty]
        rw [hp _ _ _ (by omega)]
        simp (disch := first | omega | (simp; first | done | omega)) [hg, hty]
        unfold tsub at l1
        rw [hp _ _ _ (by omega)]
        simp [tstep, tadd, tsub]
      · omega)
  have h2 : T = tab js := by rw [h2, List.take_length]
  subst h2
  have h1 : vforL (vbd ⟨vrun pg.T pg.G j, vG pg.G⟩ (.one 2) b_balance_table_1 [2, 3, 4]) (js.map bV) [some (.tup (js.map bV), false), some (.dk [] [], true), none, none, none] = .nx _ := h1
  simp [s_balance_table, h1]
def pr (js : List B) (s : Str) : Vl := .tup [.str s, .int (bal js s)]
theorem r_balances {k : Nat} (hk : 2 ≤ k) {js : List B} (hj : ∀ b ∈ js, b.Ok) (hl : js.length ≤ 100000) : vrun pg.T pg.G k "balances" [.tup (js.map bV)] = .ok (.tup ((names js).map (pr js)), false) := by
  obtain ⟨j, rfl, hj'⟩ := fuel hk
  rw [u_balances]
  have ht := r_table hj' hl
  have hs : vblt .sorted [encB (tab js)] = .ok (.lst ((names js).map Vl.str), true) := by
    rw [w_sorted_T (by rw [tab_keys]; exact fun s h => accs_fit hj h), tab_keys]
    rfl
  have hn := names_len js
  simp (disch := first | omega | (simp; first | done | omega)) [s_balances, ht, hs]
  rw [vlc_map Vl.str (pr js) (names js) fun s hs => by
    have hx : vix (encB (tab js)) (.str s) = .ok (.int (bal js s), false) := ix_al kstr_inj (q := s) rfl (tab_some js (names_mem.mp hs))
    simp [vblk_one, hx, pr]]
  simp
theorem bal_sums (js : List B) (s : Str) : bal js s = ((js.filter fun b => decide (b.t = s)).map (·.a)).sum - ((js.filter fun b => decide (b.p = s)).map (·.a)).sum := by
  induction js with
  | nil => rfl
  | cons b js ih =>
    simp only [bal, List.map_cons, List.sum_cons, List.filter_cons] at ih ⊢
    rw [ih]
    by_cases h1 : b.t = s <;> by_cases h2 : b.p = s <;> simp [h1, h2] <;> omega
theorem r_law_balance {k : Nat} (hk : 1 ≤ k) {js : List B} {s : Str} (hl : js.length ≤ 100000) : vrun pg.T pg.G k "_law_balance" [.tup (js.map bV), .str s] = .ok (.int (bal js s), false) := by
  obtain ⟨j, rfl, hj⟩ := fuel hk
  rw [u_law_balance]
  simp (disch := first | omega | (simp; first | done | omega)) [s_law_balance]
  rw [vlc_if bV (fun b => b.t = s) (fun b => .int b.a) js fun b hb => by simp [vblk_one, bV]]
  simp (disch := first | omega | (simp; first | done | omega))
  rw [vlc_if bV (fun b => b.p = s) (fun b => .int b.a) js fun b hb => by simp [vblk_one, bV]]
  rw [bal_sums]
  simp (disch := first | omega | (simp; first | done | omega))
end K73
end
section
set_option Elab.async false
set_option linter.all false
set_option autoImplicit false
set_option maxRecDepth 100000
/-! K73d: drawn trips, drawn numbers. -/
namespace K73
open Sk
open PySem (Str)
abbrev sBo : Str := ⟨#[98, 111]⟩
abbrev sCy : Str := ⟨#[99, 121]⟩
abbrev sMid : Str := ⟨#[109, 105, 100]⟩
abbrev sEast : Str := ⟨#[101, 97, 115, 116]⟩
abbrev sWest : Str := ⟨#[119, 101, 115, 116]⟩
structure Tp where
  b : Str
  d : Int
  st : List Str
  deriving Inhabited
def tpV (t : Tp) : Vl := .tup [.str t.b, .int t.d, .tup (t.st.map Vl.str)]
structure Tp.Ok (t : Tp) : Prop where
  b : t.b ∈ [sBo, sCy, sMid]
  st : ∀ s ∈ t.st, s ∈ [sEast, sMid, sWest]
  n : t.st.length ≤ 3
theorem dn_tpV {t : Tp} : (tpV t).dn.isSome = true := by
  unfold tpV
  simp
theorem dns_tpV {ts : List Tp} : (Vl.dns (ts.map tpV)).isSome = true := dns_mem fun x hx => by
  obtain ⟨t, _, rfl⟩ := List.mem_map.mp hx
  exact dn_tpV
theorem range_get {n i x : Nat} (hx : (List.range n)[i]? = some x) : i < n ∧ x = i := by
  have := (List.getElem?_eq_some_iff.mp hx).1
  rw [List.getElem?_range (by simpa using this)] at hx
  cases hx
  exact ⟨by simpa using this, rfl⟩
def stopsV : List Vl := [.tup [.str sEast], .tup [.str sMid], .tup [.str sEast, .str sMid], .tup [.str sMid, .str sWest], .tup [.str sEast, .str sWest], .tup [.str sEast, .str sMid, .str sWest]]
theorem stops_ix {i : Int} (h0 : 0 ≤ i) (h : i < 6) : ∃ st : List Str, (∀ s ∈ st, s ∈ [sEast, sMid, sWest]) ∧ st.length ≤ 3 ∧ vix (.tup stopsV) (.int i) = .ok (.tup (st.map Vl.str), false) := by
  obtain ⟨v, hv, e⟩ := ix_mem (xs := stopsV) (i := i) h0 (by simp [stopsV]; omega)
  simp only [stopsV, List.mem_cons, List.not_mem_nil, or_false] at hv
  rcases hv with rfl | rfl | rfl | rfl | rfl | rfl
  · exact ⟨[sEast], by simp, by simp, e⟩
  · exact ⟨[sMid], by simp, by simp, e⟩
  · exact ⟨[sEast, sMid], by simp, by simp, e⟩
  · exact ⟨[sMid, sWest], by simp, by simp, e⟩
  · exact ⟨[sEast, sWest], by simp, by simp, e⟩
  · exact ⟨[sEast, sMid, sWest], by simp, by simp, e⟩
theorem bo_ix {i : Int} (h0 : 0 ≤ i) (h : i < 2) : ∃ b : Str, b ∈ [sBo, sCy, sMid] ∧ vix (.tup [.str sBo, .str sCy]) (.int i) = .ok (.str b, false) := by
  obtain ⟨v, hv, e⟩ := ix_mem (xs := [.str sBo, .str sCy]) (i := i) h0 (by simp; omega)
  simp only [List.mem_cons, List.not_mem_nil, or_false] at hv
  rcases hv with rfl | rfl
  · exact ⟨sBo, by simp, e⟩
  · exact ⟨sCy, by simp, e⟩
theorem r_trips {k : Nat} (hk : 1 ≤ k) {vs : List Int} (hv : vs.length = 240) {m : Int} (h0 : 0 ≤ m) (hm : m ≤ 8) : ∃ ts : List Tp, (∀ t ∈ ts, t.Ok) ∧ ts.length ≤ 8 ∧ vrun pg.T pg.G k "_law_trips" [.lst (vs.map Vl.int), .int m] = .ok (.tup (ts.map tpV), false) := by
  obtain ⟨j, rfl, hj⟩ := fuel hk
  rw [u_law_trips]
  obtain ⟨σ, h1, ts, h2, h3, rfl⟩ := vfor_inv (b := vbd ⟨vrun pg.T pg.G j, vG pg.G⟩ (.one 4) b_law_trips_1 [4]) (fun i : Nat => Vl.int (i : Int)) (fun i σ => ∃ ts : List Tp, (∀ t ∈ ts, t.Ok) ∧ ts.length ≤ i ∧ σ = [some (.lst (vs.map Vl.int), false), some (.int m, false), some (.tup stopsV, false), some (.lst (ts.map tpV), true), none])
    (xs := List.range m.toNat) (σ := [some (.lst (vs.map Vl.int), false), some (.int m, false), some (.tup stopsV, false), some (.lst [], true), none]) ⟨[], fun _ h => (by cases h), by simp, rfl⟩ (fun i x σ hx ⟨ts, h2, h3, h4⟩ => by
      subst h4
      obtain ⟨hi, rfl⟩ := range_get hx
      have e1 := ix_ints (vs := vs) (i := 30 + (x : Int)) (by omega)
      have e2 := ix_ints (vs := vs) (i := 40 + (x : Int)) (by omega)
      have e3 := ix_ints (vs := vs) (i := 50 + (x : Int)) (by omega)
      obtain ⟨b, hb, eb⟩ := bo_ix (i := getI vs (30 + (x : Int)) % 2) (by omega) (by omega)
      obtain ⟨st, hs, hl, es⟩ := stops_ix (i := getI vs (50 + (x : Int)) % 6) (by omega) (by omega)
      refine ⟨_, ?_, ts ++ [⟨b, getI vs (40 + (x : Int)) % 4, st⟩], fun t ht => ?_, by simp; omega, rfl⟩
      · simp (disch := first | omega | (simp; first | done | omega)) [vbd_one, b_law_trips_1, e1, e2, e3, eb, es, tpV]
      · rcases List.mem_append.mp ht with ht | ht
        · exact h2 t ht
        · rw [List.mem_singleton.mp ht]
          exact ⟨hb, hs, hl⟩)
  refine ⟨ts, h2, by simpa using (by simp at h3; omega : ts.length ≤ 8), ?_⟩
  have hst : (Vl.tup [.tup [.str sEast], .tup [.str sMid], .tup [.str sEast, .str sMid], .tup [.str sMid, .str sWest], .tup [.str sEast, .str sWest], .tup [.str sEast, .str sMid, .str sWest]]) = .tup stopsV := rfl
  rw [← vrng0] at h1
  simp (disch := first | omega | (simp; first | done | omega)) [s_law_trips, hst, h1]
theorem r_runs {k : Nat} (hk : 2 ≤ k) {vs : List Int} (hv : vs.length = 240) : ∃ ts : List Tp, (∀ t ∈ ts, t.Ok) ∧ ts.length ≤ 8 ∧ vrun pg.T pg.G k "_law_runs_of_boats" [.lst (vs.map Vl.int)] = .ok (.tup (ts.map tpV), false) := by
  obtain ⟨j, rfl, hj⟩ := fuel hk
  rw [u_law_runs_of_boats]
  have e0 := ix_ints (vs := vs) (i := 28) (by omega)
  have e29 := ix_ints (vs := vs) (i := 29) (by omega)
  obtain ⟨us, u1, u2, u3⟩ := r_trips hj hv (m := getI vs 28 % 9) (by omega) (by omega)
  obtain ⟨σ, h1, ts, h2, h3, rfl⟩ := vfor_inv (b := vbd ⟨vrun pg.T pg.G j, vG pg.G⟩ (.one 2) b_law_runs_of_boats_1 [2, 3]) tpV (fun i σ => ∃ ts : List Tp, (∀ t ∈ ts, t.Ok) ∧ ts.length = i ∧ σ = [some (.lst (vs.map Vl.int), false), some (.lst (ts.map tpV), true), none, none])
    (xs := us) (σ := [some (.lst (vs.map Vl.int), false), some (.lst [], true), none, none]) ⟨[], fun _ h => (by cases h), by simp, rfl⟩ (fun i x σ hx ⟨ts, h2, h3, h4⟩ => by
      subst h4
      have hi : i < us.length := (List.getElem?_eq_some_iff.mp hx).1
      have hxo := u1 x (List.mem_of_getElem? hx)
      have e1 := ix_ints (vs := vs) (i := 100 + (ts.length : Int)) (by omega)
      have i0 : vix (tpV x) (.int 0) = .ok (.str x.b, false) := by simp [tpV]
      have i1 : vix (tpV x) (.int 1) = .ok (.int x.d, false) := by simp [tpV]
      have i2 : vix (tpV x) (.int 2) = .ok (.tup (x.st.map Vl.str), false) := by simp [tpV]
      by_cases c1 : getI vs 29 % 3 = 0
      · by_cases c2 : getI vs (100 + (ts.length : Int)) % 4 = 0
        · refine ⟨_, ?_, ts ++ [⟨sMid, x.d, x.st⟩], fun t ht => ?_, by simp [h3], rfl⟩
          · simp (disch := first | omega | (simp; first | done | omega)) [vbd_one, b_law_runs_of_boats_1, e29, e1, i0, i1, i2, c1, c2, tpV]
          · rcases List.mem_append.mp ht with ht | ht
            · exact h2 t ht
            · rw [List.mem_singleton.mp ht]
              exact ⟨by simp, hxo.st, hxo.n⟩
        · refine ⟨_, ?_, ts ++ [x], fun t ht => ?_, by simp [h3], rfl⟩
          · simp (disch := first | omega | (simp; first | done | omega)) [vbd_one, b_law_runs_of_boats_1, e29, e1, i0, i1, i2, c1, c2, tpV]
          · rcases List.mem_append.mp ht with ht | ht
            · exact h2 t ht
            · rw [List.mem_singleton.mp ht]
              exact hxo
      · refine ⟨_, ?_, ts ++ [x], fun t ht => ?_, by simp [h3], rfl⟩
        · simp (disch := first | omega | (simp; first | done | omega)) [vbd_one, b_law_runs_of_boats_1, e29, e1, i0, i1, i2, c1, tpV]
        · rcases List.mem_append.mp ht with ht | ht
          · exact h2 t ht
          · rw [List.mem_singleton.mp ht]
            exact hxo)
  refine ⟨ts, h2, by omega, ?_⟩
  simp (disch := first | omega | (simp; first | done | omega)) [s_law_runs_of_boats, e0, u3, h1]
/-- trips with their numbers -/
abbrev Q := Tp × List Int
def nsV (q : Q) : Vl := .tup (q.2.map Vl.int)
structure QOk (q : Q) : Prop where
  t : q.1.Ok
  l : q.2.length = q.1.st.length
  n : ∀ n ∈ q.2, 0 ≤ n ∧ n ≤ 999
theorem dns_nsV {qs : List Q} : (Vl.dns (qs.map nsV)).isSome = true := dns_mem fun x hx => by
  obtain ⟨q, _, rfl⟩ := List.mem_map.mp hx
  unfold nsV
  simp
theorem num_in {j : Nat} {vs : List Int} (hv : vs.length = 240) (hp : Pl vs) {i m : Nat} (hi : i < 8) (hm : m ≤ 3) {x : Option VF} {L : List Vl} :
    ∃ ns : List Int, ns.length = m ∧ (∀ n ∈ ns, 0 ≤ n ∧ n ≤ 999) ∧ vforL (vbd ⟨vrun pg.T pg.G j, vG pg.G⟩ (.one 5) b_law_numbers_1 [5, 6]) (vrng 0 m) [some (.lst (vs.map Vl.int), false), x, some (.lst L, true), some (.int (i : Int), false), some (.lst [], true), none, none] =
      .nx [some (.lst (vs.map Vl.int), false), x, some (.lst L, true), some (.int (i : Int), false), some (.lst (ns.map Vl.int), true), none, none] := by
  rw [vrng0]
  obtain ⟨σ, h1, ns, h2, h3, rfl⟩ := vfor_inv (b := vbd ⟨vrun pg.T pg.G j, vG pg.G⟩ (.one 5) b_law_numbers_1 [5, 6]) (fun i : Nat => Vl.int (i : Int)) (fun k σ => ∃ ns : List Int, ns.length = k ∧ (∀ n ∈ ns, 0 ≤ n ∧ n ≤ 999) ∧ σ = [some (.lst (vs.map Vl.int), false), x, some (.lst L, true), some (.int (i : Int), false), some (.lst (ns.map Vl.int), true), none, none])
    (xs := List.range m) (σ := [some (.lst (vs.map Vl.int), false), x, some (.lst L, true), some (.int (i : Int), false), some (.lst [], true), none, none]) ⟨[], rfl, fun _ h => (by cases h), rfl⟩ (fun k y σ hx ⟨ns, h2, h3, h4⟩ => by
      subst h4
      obtain ⟨hk, rfl⟩ := range_get hx
      have e1 := ix_ints (vs := vs) (i := 110 + 3 * (i : Int) + (y : Int)) (by omega)
      have e2 := ix_ints (vs := vs) (i := 140 + 3 * (i : Int) + (y : Int)) (by omega)
      have hg := pl_get hp (110 + 3 * (i : Int) + (y : Int))
      by_cases c : getI vs (140 + 3 * (i : Int) + (y : Int)) % 3 = 0
      · refine ⟨_, ?_, ns ++ [0], by simp [h2], fun n hn => ?_, rfl⟩
        · simp (disch := first | omega | (simp; first | done | omega)) [vbd_one, b_law_numbers_1, e1, e2, c]
        · rcases List.mem_append.mp hn with hn | hn
          · exact h3 n hn
          · rw [List.mem_singleton.mp hn]; omega
      · refine ⟨_, ?_, ns ++ [getI vs (110 + 3 * (i : Int) + (y : Int))], by simp [h2], fun n hn => ?_, rfl⟩
        · simp (disch := first | omega | (simp; first | done | omega)) [vbd_one, b_law_numbers_1, e1, e2, c]
        · rcases List.mem_append.mp hn with hn | hn
          · exact h3 n hn
          · rw [List.mem_singleton.mp hn]; omega)
  exact ⟨ns, by simpa using h2, h3, h1⟩
theorem ix_tp {ts : List Tp} {i : Nat} (h : i < ts.length) : vix (.tup (ts.map tpV)) (.int (i : Int)) = .ok (tpV (ts.getD i default), false) := by
  rw [ix_t (by omega) (by simpa using h)]
  simp [h]
theorem r_numbers {k : Nat} (hk : 1 ≤ k) {vs : List Int} (hv : vs.length = 240) (hp : Pl vs) {ts : List Tp} (ht : ∀ t ∈ ts, t.Ok) (hl : ts.length ≤ 8) : ∃ qs : List Q, qs.map (·.1) = ts ∧ (∀ q ∈ qs, QOk q) ∧ vrun pg.T pg.G k "_law_numbers" [.lst (vs.map Vl.int), .tup (ts.map tpV)] = .ok (.tup (qs.map nsV), false) := by
  obtain ⟨j, rfl, hj⟩ := fuel hk
  rw [u_law_numbers]
  obtain ⟨σ, h1, qs, h2, h3, rfl⟩ := vfor_inv (b := vbd ⟨vrun pg.T pg.G j, vG pg.G⟩ (.one 3) b_law_numbers_2 [3, 4, 5, 6]) (fun i : Nat => Vl.int (i : Int)) (fun i σ => ∃ qs : List Q, qs.map (·.1) = ts.take i ∧ (∀ q ∈ qs, QOk q) ∧ σ = [some (.lst (vs.map Vl.int), false), some (.tup (ts.map tpV), false), some (.lst (qs.map nsV), true), none, none, none, none])
    (xs := List.range ts.length) (σ := [some (.lst (vs.map Vl.int), false), some (.tup (ts.map tpV), false), some (.lst [], true), none, none, none, none]) ⟨[], by simp, fun _ h => (by cases h), rfl⟩ (fun i x σ hx ⟨qs, h2, h3, h4⟩ => by
      subst h4
      obtain ⟨hi, rfl⟩ := range_get hx
      have hix := ix_tp hi
      have hgo : ts[x]? = some (ts.getD x default) := by rw [List.getElem?_eq_getElem hi]; simp [hi]
      generalize ts.getD x default = t at hix hgo
      have to := ht t (List.mem_of_getElem? hgo)
      have i2 : vix (tpV t) (.int 2) = .ok (.tup (t.st.map Vl.str), false) := by simp [tpV]
      have htn := to.n
      obtain ⟨ns, n1, n2, n3⟩ := num_in (j := j) hv hp (i := x) (m := t.st.length) (by omega) to.n (x := some (.tup (ts.map tpV), false)) (L := qs.map nsV)
      have hd : (Vl.dns (ns.map Vl.int)).isSome = true := dns_mem fun v hv => by obtain ⟨n, _, rfl⟩ := List.mem_map.mp hv; rfl
      have hq : qs.length ≤ 8 := by
        have := congrArg List.length h2
        simp at this
        omega
      refine ⟨_, ?_, qs ++ [(t, ns)], ?_, fun q hq => ?_, rfl⟩
      · simp (disch := first | omega | (simp; first | done | omega)) [vbd_one, b_law_numbers_2, hix, i2, n3, nsV]
      · rw [List.map_append, h2, List.take_add_one, hgo]
        rfl
      · rcases List.mem_append.mp hq with hq | hq
        · exact h3 q hq
        · rw [List.mem_singleton.mp hq]
          exact ⟨to, n1, n2⟩)
  refine ⟨qs, by simpa using h2, h3, ?_⟩
  rw [← vrng0] at h1
  simp (disch := first | omega | (simp; first | done | omega)) [s_law_numbers, h1]
end K73
end
section
set_option Elab.async false
set_option linter.all false
set_option autoImplicit false
set_option maxRecDepth 100000
/-! K73e: the bookings of oil. -/
namespace K73
open Sk
open PySem (Str)
abbrev clashX (n : Str) : Exc := ⟨"Clash", "name", .inr n⟩
abbrev sOil : Str := ⟨#[111, 105, 108]⟩
abbrev Cl := Str × Int
def cells (q : Q) : List Cl := q.1.st.zip q.2
def clV (c : Cl) : Vl := .tup [.str c.1, .int c.2]
def hitc (b : Str) (cs : List Cl) : Option Str := cs.findSome? fun c => if 0 < c.2 ∧ c.1 = b then some c.1 else none
def rowc (b : Str) (p : Int) (cs : List Cl) : List B := (cs.filter fun c => decide (0 < c.2)).map fun c => ⟨sOil, c.1, b, c.2 * p⟩
def clash (qs : List Q) : Option Str := qs.findSome? fun q => hitc q.1.b (cells q)
def books (p : Int) (qs : List Q) : List B := qs.flatMap fun q => rowc q.1.b p (cells q)
def tripsV (qs : List Q) : Vl := .tup (qs.map fun q => tpV q.1)
def numsV (qs : List Q) : Vl := .tup (qs.map nsV)
theorem cells_len {q : Q} (h : QOk q) : (cells q).length = q.1.st.length := by
  unfold cells
  rw [List.length_zip, h.l]
  omega
theorem zip_cells : ∀ (l : List Str) (n : List Int), List.zipWith (fun x y => Vl.tup [x, y]) (l.map Vl.str) (n.map Vl.int) = (l.zip n).map clV
  | [], _ => rfl
  | _ :: _, [] => rfl
  | a :: l, b :: n => by
    simp only [List.map_cons, List.zipWith_cons_cons, List.zip_cons_cons, zip_cells l n]
    rfl
theorem zip_qs : ∀ qs : List Q, List.zipWith (fun x y => Vl.tup [x, y]) (qs.map fun q => tpV q.1) (qs.map nsV) = qs.map fun q => .tup [tpV q.1, nsV q]
  | [] => rfl
  | q :: qs => by simp only [List.map_cons, List.zipWith_cons_cons, zip_qs qs]
theorem cell_ok {q : Q} (h : QOk q) {c : Cl} (hc : c ∈ cells q) : c.1 ∈ q.1.st ∧ 0 ≤ c.2 ∧ c.2 ≤ 999 := by
  unfold cells at hc
  obtain ⟨a, b⟩ := c
  have := List.of_mem_zip hc
  exact ⟨this.1, h.n b this.2⟩
section
variable {j : Nat} {p : Int}
theorem mul_small {n p : Int} (h0 : 0 ≤ n) (h1 : n ≤ 999) (p0 : 1 ≤ p) (p1 : p ≤ 99) : vbin .mul (.int n) (.int p) = .ok (.int (n * p), false) := by
  have : okMul n p = true := by
    unfold okMul smallI
    have h : -(2 ^ 64) < n ∧ n < 2 ^ 64 := by omega
    rw [Bool.or_eq_true, Bool.or_eq_true]
    exact .inl (.inl (decide_eq_true h))
  simp [vbin, vmul, this]
theorem ob_in (p0 : 1 ≤ p) (p1 : p ≤ 99) {b : Str} {x y z w : Option VF} : ∀ (cs : List Cl) (acc : List B), acc.length + cs.length ≤ 1000 → (∀ c ∈ cs, 0 ≤ c.2 ∧ c.2 ≤ 999) →
    (hitc b cs = none → vforL (vbd ⟨vrun pg.T pg.G j, vG pg.G⟩ (.many [7, 8]) b_oil_bookings_1 [7, 8]) (cs.map clV) [x, y, some (.int p, false), some (.lst (acc.map bV), true), z, w, some (.str b, false), none, none] =
      .nx [x, y, some (.int p, false), some (.lst ((acc ++ rowc b p cs).map bV), true), z, w, some (.str b, false), none, none]) ∧
    (∀ l, hitc b cs = some l → ∃ σ', vforL (vbd ⟨vrun pg.T pg.G j, vG pg.G⟩ (.many [7, 8]) b_oil_bookings_1 [7, 8]) (cs.map clV) [x, y, some (.int p, false), some (.lst (acc.map bV), true), z, w, some (.str b, false), none, none] = .exc (clashX l) σ')
  | [], acc, _, _ => ⟨fun _ => by simp [rowc, vforL], fun l h => by simp [hitc] at h⟩
  | c :: cs, acc, hl, hc => by
    obtain ⟨c0, c1⟩ := hc c List.mem_cons_self
    have hl' : acc.length + cs.length + 1 ≤ 1000 := by simpa [Nat.add_assoc] using hl
    by_cases hp : c.2 < 1
    · have hn : ¬ 0 < c.2 := by omega
      have hg : (vbd ⟨vrun pg.T pg.G j, vG pg.G⟩ (.many [7, 8]) b_oil_bookings_1 [7, 8] (clV c) [x, y, some (.int p, false), some (.lst (acc.map bV), true), z, w, some (.str b, false), none, none]).go = some [x, y, some (.int p, false), some (.lst (acc.map bV), true), z, w, some (.str b, false), none, none] := by
        unfold clV
        simp [vbd_many, b_oil_bookings_1, hp]
      obtain ⟨h1, h2⟩ := ob_in p0 p1 (x := x) (y := y) (z := z) (w := w) (b := b) cs acc (by omega) fun c h => hc c (List.mem_cons_of_mem _ h)
      have e1 : hitc b (c :: cs) = hitc b cs := by simp [hitc, hn]
      have e2 : rowc b p (c :: cs) = rowc b p cs := by simp [rowc, hn]
      rw [e1, e2, List.map_cons, vfor_go hg]
      exact ⟨h1, h2⟩
    · have hn : 0 < c.2 := by omega
      by_cases he : c.1 = b
      · have e1 : hitc b (c :: cs) = some b := by simp [hitc, hn, he]
        rw [e1]
        refine ⟨fun h => by (cases h), fun l h => ?_⟩
        cases h
        rw [List.map_cons]
        refine ⟨_, vfor_x1 (σ' := [x, y, some (.int p, false), some (.lst (acc.map bV), true), z, w, some (.str b, false), some (.str b, false), some (.int c.2, false)]) ?_⟩
        unfold clV
        simp [vbd_many, b_oil_bookings_1, hp, he]
      · have hm := mul_small c0 c1 p0 p1
        have hg : (vbd ⟨vrun pg.T pg.G j, vG pg.G⟩ (.many [7, 8]) b_oil_bookings_1 [7, 8] (clV c) [x, y, some (.int p, false), some (.lst (acc.map bV), true), z, w, some (.str b, false), none, none]).go = some [x, y, some (.int p, false), some (.lst ((acc ++ [(⟨sOil, c.1, b, c.2 * p⟩ : B)]).map bV), true), z, w, some (.str b, false), none, none] := by
          unfold clV
          simp (disch := first | omega | (simp; first | done | omega)) [vbd_many, b_oil_bookings_1, hp, he, hm, bV]
        obtain ⟨h1, h2⟩ := ob_in p0 p1 (x := x) (y := y) (z := z) (w := w) (b := b) cs (acc ++ [(⟨sOil, c.1, b, c.2 * p⟩ : B)]) (by simp; omega) fun c h => hc c (List.mem_cons_of_mem _ h)
        have e1 : hitc b (c :: cs) = hitc b cs := by simp [hitc, he]
        have e2 : acc ++ rowc b p (c :: cs) = acc ++ [(⟨sOil, c.1, b, c.2 * p⟩ : B)] ++ rowc b p cs := by simp [rowc, hn]
        rw [e1, e2, List.map_cons, vfor_go hg]
        exact ⟨h1, h2⟩
theorem books_len : ∀ {qs : List Q}, (∀ q ∈ qs, QOk q) → (books p qs).length ≤ 3 * qs.length
  | [], _ => by simp [books]
  | q :: qs, h => by
    have h1 := books_len fun x hx => h x (List.mem_cons_of_mem _ hx)
    have hq := h q List.mem_cons_self
    have h2 := cells_len hq
    have h3 := hq.t.n
    have h4 : (rowc q.1.b p (cells q)).length ≤ (cells q).length := by
      unfold rowc
      rw [List.length_map]
      exact List.length_filter_le _ _
    unfold books at h1 ⊢
    simp only [List.flatMap_cons, List.length_append, List.length_cons]
    omega
theorem rowc_len {q : Q} (h : QOk q) : (rowc q.1.b p (cells q)).length ≤ 3 := by
  have h2 := cells_len h
  have h3 := h.t.n
  have h4 : (rowc q.1.b p (cells q)).length ≤ (cells q).length := by
    unfold rowc
    rw [List.length_map]
    exact List.length_filter_le _ _
  omega
theorem vwkz {xs ys : List Vl} {f : List Vl → VOut} : vwkF .zip [.tup xs, .tup ys] f = f (List.zipWith (fun x y => Vl.tup [x, y]) xs ys) := rfl
theorem ob_out (p0 : 1 ≤ p) (p1 : p ≤ 99) {x y : Option VF} : ∀ (qs : List Q) (acc : List B), acc.length + 3 * qs.length ≤ 900 → (∀ q ∈ qs, QOk q) →
    (clash qs = none → vforL (vbd ⟨vrun pg.T pg.G j, vG pg.G⟩ (.many [4, 5]) b_oil_bookings_2 [4, 5, 6, 7, 8]) (qs.map fun q => .tup [tpV q.1, nsV q]) [x, y, some (.int p, false), some (.lst (acc.map bV), true), none, none, none, none, none] =
      .nx [x, y, some (.int p, false), some (.lst ((acc ++ books p qs).map bV), true), none, none, none, none, none]) ∧
    (∀ l, clash qs = some l → ∃ σ', vforL (vbd ⟨vrun pg.T pg.G j, vG pg.G⟩ (.many [4, 5]) b_oil_bookings_2 [4, 5, 6, 7, 8]) (qs.map fun q => .tup [tpV q.1, nsV q]) [x, y, some (.int p, false), some (.lst (acc.map bV), true), none, none, none, none, none] = .exc (clashX l) σ')
  | [], acc, _, _ => ⟨fun _ => by simp [books, vforL], fun l h => by simp [clash] at h⟩
  | q :: qs, acc, hl, hq => by
    have hqo := hq q List.mem_cons_self
    have hl' : acc.length + 3 * qs.length + 3 ≤ 900 := by simp only [List.length_cons] at hl; omega
    have hcl := cells_len hqo
    have hst := hqo.t.n
    obtain ⟨g1, g2⟩ := ob_in (j := j) p0 p1 (b := q.1.b) (x := x) (y := y) (z := some (tpV q.1, false)) (w := some (nsV q, false)) (cells q) acc (by omega) fun c hc => (cell_ok hqo hc).2
    have i0 : vix (tpV q.1) (.int 0) = .ok (.str q.1.b, false) := by simp [tpV]
    have i2 : vix (tpV q.1) (.int 2) = .ok (.tup (q.1.st.map Vl.str), false) := by simp [tpV]
    have hz : ∀ f : List Vl → VOut, vwkF .zip [.tup (q.1.st.map Vl.str), nsV q] f = f ((cells q).map clV) := fun f => by
      show f (List.zipWith _ _ _) = _
      rw [zip_cells]
      rfl
    have hd : (Vl.dns [.tup (q.1.st.map Vl.str), nsV q]).isSome = true := by
      refine dns_mem fun v hv => ?_
      simp only [List.mem_cons, List.not_mem_nil, or_false] at hv
      rcases hv with rfl | rfl
      · simp
      · simp [nsV]
    cases hh : hitc q.1.b (cells q) with
    | some l =>
      have e1 : clash (q :: qs) = some l := by simp [clash, hh]
      rw [e1]
      refine ⟨fun h => by (cases h), fun l' h => ?_⟩
      cases h
      obtain ⟨σ', g3⟩ := g2 l hh
      rw [List.map_cons]
      refine ⟨_, vfor_x1 (σ' := σ') ?_⟩
      simp [vbd_many, b_oil_bookings_2, i0, i2, hd, hz, g3]
    | none =>
      have e1 : clash (q :: qs) = clash qs := by simp [clash, hh]
      have e2 : acc ++ books p (q :: qs) = acc ++ rowc q.1.b p (cells q) ++ books p qs := by simp [books]
      have hg : (vbd ⟨vrun pg.T pg.G j, vG pg.G⟩ (.many [4, 5]) b_oil_bookings_2 [4, 5, 6, 7, 8] (.tup [tpV q.1, nsV q]) [x, y, some (.int p, false), some (.lst (acc.map bV), true), none, none, none, none, none]).go = some [x, y, some (.int p, false), some (.lst ((acc ++ rowc q.1.b p (cells q)).map bV), true), none, none, none, none, none] := by
        simp [vbd_many, b_oil_bookings_2, i0, i2, hd, hz, g1 hh]
      have hr := rowc_len (p := p) hqo
      obtain ⟨h1, h2⟩ := ob_out p0 p1 (x := x) (y := y) qs (acc ++ rowc q.1.b p (cells q)) (by simp; omega) fun z hz => hq z (List.mem_cons_of_mem _ hz)
      rw [e1, e2, List.map_cons, vfor_go hg]
      exact ⟨h1, h2⟩
theorem r_oil {k : Nat} (hk : 1 ≤ k) (p0 : 1 ≤ p) (p1 : p ≤ 99) {qs : List Q} (hq : ∀ q ∈ qs, QOk q) (hl : qs.length ≤ 8) :
    (clash qs = none → vrun pg.T pg.G k "oil_bookings" [tripsV qs, numsV qs, .int p] = .ok (.tup ((books p qs).map bV), false)) ∧
    (∀ l, clash qs = some l → vrun pg.T pg.G k "oil_bookings" [tripsV qs, numsV qs, .int p] = .exc (clashX l)) := by
  obtain ⟨j, rfl, hj⟩ := fuel hk
  have hz : ∀ f : List Vl → VOut, vwkF .zip [tripsV qs, numsV qs] f = f (qs.map fun q => .tup [tpV q.1, nsV q]) := fun f => by
    show f (List.zipWith _ _ _) = _
    rw [zip_qs]
  have hd : (Vl.dns [tripsV qs, numsV qs]).isSome = true := by
    refine dns_mem fun v hv => ?_
    simp only [List.mem_cons, List.not_mem_nil, or_false] at hv
    rcases hv with rfl | rfl
    · unfold tripsV
      rw [dn_tup, Option.isSome_map]
      exact dns_mem fun x hx => by obtain ⟨q, _, rfl⟩ := List.mem_map.mp hx; exact dn_tpV
    · unfold numsV
      rw [dn_tup, Option.isSome_map]
      exact dns_nsV
  obtain ⟨h1, h2⟩ := ob_out (j := j) p0 p1 (x := some (tripsV qs, false)) (y := some (numsV qs, false)) qs [] (by simp; omega) hq
  refine ⟨fun h => ?_, fun l h => ?_⟩
  · rw [u_oil_bookings]
    have h1 := h1 h
    simp only [List.map_nil, List.nil_append] at h1
    simp [s_oil_bookings, hd, hz, h1]
  · rw [u_oil_bookings]
    obtain ⟨σ', h2⟩ := h2 l h
    simp only [List.map_nil] at h2
    simp [s_oil_bookings, hd, hz, h2]
end
end K73
end
section
set_option Elab.async false
set_option linter.all false
set_option autoImplicit false
set_option maxRecDepth 100000
/-! K73f: the law's own bookings. -/
namespace K73
open Sk
open PySem (Str)
/-- a loop over the numbers from a on -/
def rngF (a m : Nat) : List Vl := (List.range' a m).map fun i : Nat => Vl.int (i : Int)
theorem rngF_0 (m : Nat) : vrng 0 m = rngF 0 m := by
  rw [vrng0]
  unfold rngF
  rw [List.range_eq_range']
theorem rngF_s (a m : Nat) : rngF a (m + 1) = .int (a : Int) :: rngF (a + 1) m := by
  unfold rngF
  rw [List.range'_succ, List.map_cons]
theorem drop_at {α : Type} {l : List α} {a : Nat} (h : a < l.length) : l.drop a = l[a] :: l.drop (a + 1) := List.drop_eq_getElem_cons h
section
variable {j : Nat} {p : Int} {qs : List Q}
theorem ix_trips {i : Nat} (h : i < qs.length) : vix (tripsV qs) (.int (i : Int)) = .ok (tpV qs[i].1, false) := by
  unfold tripsV
  rw [ix_t (by omega) (by simpa using h)]
  simp
theorem ix_nums {i : Nat} (h : i < qs.length) : vix (numsV qs) (.int (i : Int)) = .ok (nsV qs[i], false) := by
  unfold numsV
  rw [ix_t (by omega) (by simpa using h)]
  simp
theorem due_in (p0 : 1 ≤ p) (p1 : p ≤ 99) {i : Nat} (hi : i < qs.length) (hq : QOk qs[i]) : ∀ (m a : Nat) (acc : List B), a + m = (cells qs[i]).length → acc.length + m ≤ 1000 →
    vforL (vbd ⟨vrun pg.T pg.G j, vG pg.G⟩ (.one 5) b_law_due_1 [5, 6]) (rngF a m) [some (tripsV qs, false), some (numsV qs, false), some (.int p, false), some (.lst (acc.map bV), true), some (.int (i : Int), false), none, none] =
      (match hitc qs[i].1.b ((cells qs[i]).drop a) with
        | some l => .rt (.str l, false)
        | none => .nx [some (tripsV qs, false), some (numsV qs, false), some (.int p, false), some (.lst ((acc ++ rowc qs[i].1.b p ((cells qs[i]).drop a)).map bV), true), some (.int (i : Int), false), none, none])
  | 0, a, acc, ha, hl => by
    rw [List.drop_eq_nil_of_le (by omega)]
    simp [hitc, rowc, rngF, vforL]
  | m + 1, a, acc, ha, hl => by
    have hlt : a < (cells qs[i]).length := by omega
    have hcl := cells_len hq
    have hst : a < qs[i].1.st.length := by omega
    have hnl : a < qs[i].2.length := by rw [hq.l]; exact hst
    rw [drop_at hlt, rngF_s]
    have hc : (cells qs[i])[a] = (qs[i].1.st[a], qs[i].2[a]) := by simp [cells]
    have it := ix_trips hi
    have inn := ix_nums hi
    have i0 : vix (tpV qs[i].1) (.int 0) = .ok (.str qs[i].1.b, false) := by simp [tpV]
    have i2 : vix (tpV qs[i].1) (.int 2) = .ok (.tup (qs[i].1.st.map Vl.str), false) := by simp [tpV]
    have ia : vix (.tup (qs[i].1.st.map Vl.str)) (.int (a : Int)) = .ok (.str qs[i].1.st[a], false) := by
      rw [ix_t (by omega) (by simpa using hst)]
      simp
    have ib : vix (nsV qs[i]) (.int (a : Int)) = .ok (.int qs[i].2[a], false) := by
      unfold nsV
      rw [ix_t (by omega) (by simpa using hnl)]
      simp
    obtain ⟨n0, n1⟩ := hq.n _ (List.getElem_mem hnl)
    have hm := mul_small n0 n1 p0 p1
    rw [hc]
    generalize qs[i].1.st[a] = l at ia
    generalize qs[i].2[a] = n at ib n0 n1 hm
    by_cases hn : 0 < n
    · by_cases he : l = qs[i].1.b
      · have e1 : hitc qs[i].1.b ((l, n) :: (cells qs[i]).drop (a + 1)) = some qs[i].1.b := by simp [hitc, hn, he]
        rw [e1]
        refine vfor_rt ?_
        subst he
        simp [vbd_one, b_law_due_1, it, inn, i0, i2, ia, ib, hn]
      · have e1 : hitc qs[i].1.b ((l, n) :: (cells qs[i]).drop (a + 1)) = hitc qs[i].1.b ((cells qs[i]).drop (a + 1)) := by simp [hitc, he]
        have e2 : acc ++ rowc qs[i].1.b p ((l, n) :: (cells qs[i]).drop (a + 1)) = acc ++ [(⟨sOil, l, qs[i].1.b, n * p⟩ : B)] ++ rowc qs[i].1.b p ((cells qs[i]).drop (a + 1)) := by simp [rowc, hn]
        have hg : (vbd ⟨vrun pg.T pg.G j, vG pg.G⟩ (.one 5) b_law_due_1 [5, 6] (.int (a : Int)) [some (tripsV qs, false), some (numsV qs, false), some (.int p, false), some (.lst (acc.map bV), true), some (.int (i : Int), false), none, none]).go = some [some (tripsV qs, false), some (numsV qs, false), some (.int p, false), some (.lst ((acc ++ [(⟨sOil, l, qs[i].1.b, n * p⟩ : B)]).map bV), true), some (.int (i : Int), false), none, none] := by
          simp (disch := first | omega | (simp; first | done | omega)) [vbd_one, b_law_due_1, it, inn, i0, i2, ia, ib, hn, he, hm, bV]
        rw [e1, e2, vfor_go hg]
        exact due_in p0 p1 hi hq m (a + 1) _ (by omega) (by simp; omega)
    · have e1 : hitc qs[i].1.b ((l, n) :: (cells qs[i]).drop (a + 1)) = hitc qs[i].1.b ((cells qs[i]).drop (a + 1)) := by simp [hitc, hn]
      have e2 : rowc qs[i].1.b p ((l, n) :: (cells qs[i]).drop (a + 1)) = rowc qs[i].1.b p ((cells qs[i]).drop (a + 1)) := by simp [rowc, hn]
      have hg : (vbd ⟨vrun pg.T pg.G j, vG pg.G⟩ (.one 5) b_law_due_1 [5, 6] (.int (a : Int)) [some (tripsV qs, false), some (numsV qs, false), some (.int p, false), some (.lst (acc.map bV), true), some (.int (i : Int), false), none, none]).go = some [some (tripsV qs, false), some (numsV qs, false), some (.int p, false), some (.lst (acc.map bV), true), some (.int (i : Int), false), none, none] := by
        simp (disch := first | omega | (simp; first | done | omega)) [vbd_one, b_law_due_1, it, inn, i0, i2, ia, ib, hn]
      rw [e1, e2, vfor_go hg]
      exact due_in p0 p1 hi hq m (a + 1) _ (by omega) (by omega)
theorem clash_some {q : Q} {qs : List Q} {l : Str} (h : hitc q.1.b (cells q) = some l) : clash (q :: qs) = some l := by simp [clash, h]
theorem clash_none {q : Q} {qs : List Q} (h : hitc q.1.b (cells q) = none) : clash (q :: qs) = clash qs := by simp [clash, h]
theorem books_cons {p : Int} {q : Q} {qs : List Q} : books p (q :: qs) = rowc q.1.b p (cells q) ++ books p qs := by simp [books]
theorem due_out (p0 : 1 ≤ p) (p1 : p ≤ 99) (hq : ∀ q ∈ qs, QOk q) : ∀ (m a : Nat) (acc : List B), a + m = qs.length → acc.length + 3 * m ≤ 900 →
    vforL (vbd ⟨vrun pg.T pg.G j, vG pg.G⟩ (.one 4) b_law_due_2 [4, 5, 6]) (rngF a m) [some (tripsV qs, false), some (numsV qs, false), some (.int p, false), some (.lst (acc.map bV), true), none, none, none] =
      (match clash (qs.drop a) with
        | some l => .rt (.str l, false)
        | none => .nx [some (tripsV qs, false), some (numsV qs, false), some (.int p, false), some (.lst ((acc ++ books p (qs.drop a)).map bV), true), none, none, none])
  | 0, a, acc, ha, hl => by
    rw [List.drop_eq_nil_of_le (by omega)]
    simp [clash, books, rngF, vforL]
  | m + 1, a, acc, ha, hl => by
    have hlt : a < qs.length := by omega
    rw [drop_at hlt, rngF_s]
    have hqo := hq _ (List.getElem_mem hlt)
    have it := ix_trips hlt
    have i2 : vix (tpV qs[a].1) (.int 2) = .ok (.tup (qs[a].1.st.map Vl.str), false) := by simp [tpV]
    have hcl := cells_len hqo
    have hst := hqo.t.n
    have hd := due_in (j := j) p0 p1 hlt hqo (cells qs[a]).length 0 acc (by omega) (by omega)
    rw [List.drop_zero, ← rngF_0, hcl] at hd
    cases hh : hitc qs[a].1.b (cells qs[a]) with
    | some l =>
      rw [hh] at hd
      have e1 : clash (qs[a] :: qs.drop (a + 1)) = some l := clash_some hh
      rw [e1]
      refine vfor_rt ?_
      simp (disch := first | omega | (simp; first | done | omega)) [vbd_one, b_law_due_2, it, i2, hd]
    | none =>
      rw [hh] at hd
      have e1 : clash (qs[a] :: qs.drop (a + 1)) = clash (qs.drop (a + 1)) := clash_none hh
      have e2 : acc ++ books p (qs[a] :: qs.drop (a + 1)) = acc ++ rowc qs[a].1.b p (cells qs[a]) ++ books p (qs.drop (a + 1)) := by rw [books_cons, List.append_assoc]
      have hg : (vbd ⟨vrun pg.T pg.G j, vG pg.G⟩ (.one 4) b_law_due_2 [4, 5, 6] (.int (a : Int)) [some (tripsV qs, false), some (numsV qs, false), some (.int p, false), some (.lst (acc.map bV), true), none, none, none]).go = some [some (tripsV qs, false), some (numsV qs, false), some (.int p, false), some (.lst ((acc ++ rowc qs[a].1.b p (cells qs[a])).map bV), true), none, none, none] := by
        simp (disch := first | omega | (simp; first | done | omega)) [vbd_one, b_law_due_2, it, i2, hd]
      have hr := rowc_len (p := p) hqo
      rw [e1, e2, vfor_go hg]
      exact due_out p0 p1 hq m (a + 1) _ (by omega) (by simp; omega)
theorem len_trips : vblt .len [tripsV qs] = .ok (.int (qs.length : Int), false) := by simp [tripsV]
def dueV (p : Int) (qs : List Q) : Vl := match clash qs with
  | some l => .str l
  | none => .tup ((books p qs).map bV)
theorem r_due {k : Nat} (hk : 1 ≤ k) (p0 : 1 ≤ p) (p1 : p ≤ 99) (hq : ∀ q ∈ qs, QOk q) (hl : qs.length ≤ 8) : vrun pg.T pg.G k "_law_due" [tripsV qs, numsV qs, .int p] = .ok (dueV p qs, false) := by
  obtain ⟨j, rfl, hj⟩ := fuel hk
  rw [u_law_due]
  have h := due_out (j := j) p0 p1 hq qs.length 0 [] (by omega) (by simp; omega)
  rw [List.drop_zero, ← rngF_0] at h
  simp only [List.map_nil, List.nil_append] at h
  unfold dueV
  cases hc : clash qs with
  | some l =>
    rw [hc] at h
    simp (disch := first | omega | (simp; first | done | omega)) [s_law_due, len_trips, h]
  | none =>
    rw [hc] at h
    simp (disch := first | omega | (simp; first | done | omega)) [s_law_due, len_trips, h]
theorem r_booked {k : Nat} (hk : 2 ≤ k) (p0 : 1 ≤ p) (p1 : p ≤ 99) (hq : ∀ q ∈ qs, QOk q) (hl : qs.length ≤ 8) : vrun pg.T pg.G k "_law_booked" [tripsV qs, numsV qs, .int p] = .ok (dueV p qs, false) := by
  obtain ⟨j, rfl, hj⟩ := fuel hk
  rw [u_law_booked]
  obtain ⟨h1, h2⟩ := r_oil hj p0 p1 hq hl
  unfold dueV
  cases hc : clash qs with
  | some l => simp [s_law_booked, b_law_booked_1, h2 l hc]
  | none =>
    have hk : ∀ (X : List Nat) (σ : VEnv), vkeep (.tup ((books p qs).map bV), false) X σ = σ := fun X σ => vkeep_pure (by
      rw [dn_tup, Option.isSome_map]
      exact dns_mem fun x hx => by
        obtain ⟨b, _, rfl⟩ := List.mem_map.mp hx
        simp [bV])
    simp [s_law_booked, b_law_booked_1, h1 hc, hk]
end
end K73
end
section
set_option Elab.async false
set_option linter.all false
set_option autoImplicit false
set_option maxRecDepth 100000
/-! K73g: what is carried. -/
namespace K73
open Sk
open PySem (Str)
section
variable {j : Nat} {qs : List Q}
def tcar (qs : List Q) : Tb := qs.foldl (fun T q => tadd T q.1.b q.2.sum) []
def boats (qs : List Q) : List Str := qs.foldl (fun l q => ins l q.1.b) []
def load (qs : List Q) (b : Str) : Int := ((qs.filter fun q => decide (q.1.b = b)).map fun q => q.2.sum).sum
theorem tcar_keys (qs : List Q) : (tcar qs).map (·.1) = boats qs := by
  unfold tcar boats
  have : ∀ (qs : List Q) (T : Tb) (l : List Str), T.map (·.1) = l → (qs.foldl (fun T q => tadd T q.1.b q.2.sum) T).map (·.1) = qs.foldl (fun l q => ins l q.1.b) l := fun qs => by
    induction qs with
    | nil => intro T l h; exact h
    | cons b qs ih =>
      intro T l h
      rw [List.foldl_cons, List.foldl_cons]
      refine ih _ _ ?_
      unfold tadd
      rw [alput_keys, h]
  exact this qs [] [] rfl
theorem boats_mem (qs : List Q) {s : Str} : s ∈ boats qs ↔ ∃ q ∈ qs, q.1.b = s := by
  unfold boats
  have : ∀ (qs : List Q) (l : List Str), s ∈ qs.foldl (fun l q => ins l q.1.b) l ↔ s ∈ l ∨ ∃ q ∈ qs, q.1.b = s := fun qs => by
    induction qs with
    | nil => intro l; simp
    | cons b qs ih =>
      intro l
      rw [List.foldl_cons, ih, ins_mem]
      simp only [List.mem_cons, exists_eq_or_imp]
      constructor
      · rintro ((h | h) | h)
        · exact .inl h
        · exact .inr (.inl h.symm)
        · exact .inr (.inr h)
      · rintro (h | h | h)
        · exact .inl (.inl h)
        · exact .inl (.inr h.symm)
        · exact .inr h
  simpa using this qs []
theorem boats_nodup (qs : List Q) : (boats qs).Nodup := by
  unfold boats
  have : ∀ (qs : List Q) (l : List Str), l.Nodup → (qs.foldl (fun l q => ins l q.1.b) l).Nodup := fun qs => by
    induction qs with
    | nil => intro l h; exact h
    | cons b qs ih =>
      intro l h
      rw [List.foldl_cons]
      exact ih _ (ins_nodup h)
  exact this qs [] List.nodup_nil
theorem tcar_get (qs : List Q) (u : Str) : (alget (tcar qs) u).getD 0 = load qs u := by
  have : ∀ (qs : List Q) (T : Tb), (alget (qs.foldl (fun T q => tadd T q.1.b q.2.sum) T) u).getD 0 = (alget T u).getD 0 + load qs u := fun qs => by
    induction qs with
    | nil => intro T; simp [load]
    | cons b qs ih =>
      intro T
      rw [List.foldl_cons, ih, tadd_get]
      unfold load
      rw [List.filter_cons]
      by_cases h : b.1.b = u
      · have h' : u = b.1.b := h.symm
        simp only [h, decide_true, if_true, List.map_cons, List.sum_cons]
        omega
      · have h' : ¬ u = b.1.b := fun e => h e.symm
        simp only [h, h', decide_false, Bool.false_eq_true, if_false]
        omega
  have := this qs []
  simpa [tcar, alget] using this
theorem tcar_some (qs : List Q) {u : Str} (h : u ∈ boats qs) : alget (tcar qs) u = some (load qs u) := by
  obtain ⟨v, hv⟩ := alget_some (T := tcar qs) (s := u) (by rw [tcar_keys]; exact h)
  have := tcar_get qs u
  rw [hv] at this ⊢
  simp at this
  rw [this]
theorem boats_len (qs : List Q) : (boats qs).length ≤ qs.length := by
  unfold boats
  have : ∀ (qs : List Q) (l : List Str), (qs.foldl (fun l q => ins l q.1.b) l).length ≤ l.length + qs.length := fun qs => by
    induction qs with
    | nil => intro l; simp
    | cons b qs ih =>
      intro l
      rw [List.foldl_cons]
      have h1 := ih (ins l b.1.b)
      have h2 := ins_len l b.1.b
      simp only [List.length_cons]
      omega
  simpa using this qs []
theorem tcar_len (qs : List Q) : (tcar qs).length ≤ qs.length := by
  have := boats_len qs
  rw [← tcar_keys, List.length_map] at this
  exact this
theorem three_pw : [sBo, sCy, sMid].Pairwise (fun a b => lsle a b = true) := by
  decide
/-- the boats in order -/
def bts (qs : List Q) : List Str := [sBo, sCy, sMid].filter fun s => decide (s ∈ boats qs)
theorem bts_eq (hq : ∀ q ∈ qs, QOk q) : sortS (boats qs) = bts qs := by
  refine sortS_eq (boats_nodup qs) ?_ (fun s => ?_) ?_
  · exact List.Nodup.sublist List.filter_sublist (by decide)
  · unfold bts
    rw [List.mem_filter, decide_eq_true_eq]
    refine ⟨fun h => ⟨?_, h⟩, fun h => h.2⟩
    obtain ⟨q, hq', rfl⟩ := (boats_mem qs).mp h
    exact (hq q hq').t.b
  · exact three_pw.sublist List.filter_sublist
theorem boat_fit {s : Str} (h : s ∈ [sBo, sCy, sMid]) : strFit s = true := by
  simp only [List.mem_cons, List.not_mem_nil, or_false] at h
  rcases h with rfl | rfl | rfl <;> exact okS_fit (by decide)
def ldV (qs : List Q) (s : Str) : Vl := .tup [.str s, .int (load qs s)]
theorem r_count {k : Nat} (hk : 1 ≤ k) (hl : qs.length ≤ 8) : vrun pg.T pg.G k "check_trip_count" [tripsV qs] = .ok (.non, false) := by
  obtain ⟨j, rfl, hj⟩ := fuel hk
  rw [u_check_trip_count]
  have : ¬ (8 : Int) < (qs.length : Int) := by omega
  simp [s_check_trip_count, len_trips, this]
theorem r_carried {k : Nat} (hk : 2 ≤ k) (hq : ∀ q ∈ qs, QOk q) (hl : qs.length ≤ 8) : vrun pg.T pg.G k "carried" [tripsV qs, numsV qs] = .ok (.tup ((bts qs).map (ldV qs)), false) := by
  obtain ⟨j, rfl, hj⟩ := fuel hk
  rw [u_carried]
  have hc := r_count hj hl
  obtain ⟨σ, h1, T, h2, h3, rfl⟩ := vfor_inv (b := vbd ⟨vrun pg.T pg.G j, vG pg.G⟩ (.one 3) b_carried_1 [3]) (fun i : Nat => Vl.int (i : Int)) (fun i σ => ∃ T : Tb, T = tcar (qs.take i) ∧ T.length ≤ i ∧ σ = [some (tripsV qs, false), some (numsV qs, false), some (encB T, true), none, none])
    (xs := List.range qs.length) (σ := [some (tripsV qs, false), some (numsV qs, false), some (encB [], true), none, none]) ⟨[], by simp [tcar], by simp, rfl⟩ (fun i x σ hx ⟨T, h2, h3, h4⟩ => by
      subst h4
      obtain ⟨hi, rfl⟩ := range_get hx
      have it := ix_trips hi
      have inn := ix_nums hi
      have i0 : vix (tpV qs[x].1) (.int 0) = .ok (.str qs[x].1.b, false) := by simp [tpV]
      have hT : tadd T qs[x].1.b qs[x].2.sum = tcar (qs.take (x + 1)) := by
        have e : qs.take (x + 1) = qs.take x ++ [qs[x]] := by rw [List.take_add_one, List.getElem?_eq_getElem hi]; rfl
        rw [e, h2]
        unfold tcar
        rw [List.foldl_append]
        rfl
      have l1 : (tadd T qs[x].1.b qs[x].2.sum).length ≤ T.length + 1 := alput_len _ _ _
      have hg : ∀ (T : Tb) (s : Str), vmth .get (encB T) [.str s, .int 0] = .ok (.int ((alget T s).getD 0), false) := fun T s => by
        rw [get_al kstr_inj (q := s) rfl]
        cases alget T s <;> rfl
      have hp : ∀ (T : Tb) (s : Str) (v : Int), T.length < 16777216 → vput (encB T) (.str s) (.int v) = some (encB (alput T s v)) := fun T s v h => put_al kstr_inj (q := s) rfl h
      have hty : ∀ T : Tb, vty .get (encB T) = true := fun T => rfl
      refine ⟨_, ?_, tadd T qs[x].1.b qs[x].2.sum, hT, by omega, rfl⟩
      have hs : vblt .sum [nsV qs[x]] = .ok (.int qs[x].2.sum, false) := w_sumT
      simp (disch := first | omega | (simp; first | done | omega)) [vbd_one, b_carried_1, it, inn, i0, hg, hty, hs]
      rw [hp _ _ _ (by omega)]
      simp [tadd])
  have h2 : T = tcar qs := by rw [h2, List.length_range, List.take_length]
  subst h2
  rw [← vrng0] at h1
  have h1 : vforL (vbd ⟨vrun pg.T pg.G j, vG pg.G⟩ (.one 3) b_carried_1 [3]) (vrng 0 qs.length) [some (tripsV qs, false), some (numsV qs, false), some (.dk [] [], true), none, none] = .nx _ := h1
  have hs : vblt .sorted [encB (tcar qs)] = .ok (.lst ((bts qs).map Vl.str), true) := by
    rw [w_sorted_T (by
      rw [tcar_keys]
      intro s h
      obtain ⟨q, hq', rfl⟩ := (boats_mem qs).mp h
      exact boat_fit (hq q hq').t.b), tcar_keys, bts_eq hq]
  have hn : (bts qs).length ≤ 3 := List.length_filter_le _ _
  simp (disch := first | omega | (simp; first | done | omega)) [s_carried, hc, len_trips, h1, hs]
  rw [vlc_map Vl.str (ldV qs) (bts qs) fun s hs => by
    have hm : s ∈ boats qs := by
      unfold bts at hs
      rw [List.mem_filter, decide_eq_true_eq] at hs
      exact hs.2
    have hx : vix (encB (tcar qs)) (.str s) = .ok (.int (load qs s), false) := ix_al kstr_inj (q := s) rfl (tcar_some qs hm)
    simp [vblk_one, hx, ldV]]
  simp
/-- the law's loads -/
theorem load_row (hj : 1 ≤ j) (hq : ∀ q ∈ qs, QOk q) (hl : qs.length ≤ 8) {s : Str} {σ : VEnv} (h2 : ∀ v, vgv ((σ.set 8 none).set 8 v) 2 = .ok (tripsV qs, false)) (h3 : ∀ v, vgv ((σ.set 8 none).set 8 v) 3 = .ok (numsV qs, false)) (h6 : ∀ v, vgv ((σ.set 8 none).set 8 v) 6 = .ok (.str s, false)) (h8 : ∀ v, vgv ((σ.set 8 none).set 8 (some v)) 8 = .ok (v.1, false)) :
    vlc (vblk ⟨vrun pg.T pg.G j, vG pg.G⟩ (.blt .sum [.ix (.var 3) (.var 8)]) (.one 8) [.cmp .eq (.ix (.ix (.var 2) (.var 8)) (.cst (.int 0))) (.var 6)] [8] σ) (vrng 0 qs.length) = .ok (((qs.filter fun q => decide (q.1.b = s)).map fun q => q.2.sum).map Vl.int) := by
  rw [vrng0, vlc_if (fun i : Nat => Vl.int (i : Int)) (fun i => (qs.getD i default).1.b = s) (fun i => .int (qs.getD i default).2.sum) (List.range qs.length) fun i hi => by
    have hi : i < qs.length := by simpa using hi
    have it := ix_trips hi
    have inn := ix_nums hi
    have i0 : vix (tpV qs[i].1) (.int 0) = .ok (.str qs[i].1.b, false) := by simp [tpV]
    have hg : qs.getD i default = qs[i] := by simp [hi]
    rw [vblk_one, hg]
    have hs : vblt .sum [nsV qs[i]] = .ok (.int qs[i].2.sum, false) := w_sumT
    simp only [vwi_cons, vwi_nil, vt_cons, vt_nil, v_cmp, v_var, v_ix, v_int, v_blt, vs_cons, vs_nil, h2, h3, h6, h8, vb_ok, it, inn, i0, hs]
    by_cases c : qs[i].1.b = s
    · simp [c]
    · simp [c]]
  have : ∀ qs : List Q, ((List.range qs.length).filter fun i => decide ((qs.getD i default).1.b = s)).map (fun i => Vl.int (qs.getD i default).2.sum) = ((qs.filter fun q => decide (q.1.b = s)).map fun q => q.2.sum).map Vl.int := fun qs => by
    have e : (List.range qs.length).map (fun i => qs.getD i default) = qs := map_range_getD qs
    conv => rhs; rw [← e]
    rw [List.filter_map, List.map_map, List.map_map]
    rfl
  rw [this]
theorem load_in (s : Str) : s ∈ boats qs ↔ ((qs.filter fun q => decide (q.1.b = s)).map fun q => q.2.sum) ≠ [] := by
  rw [boats_mem]
  constructor
  · rintro ⟨q, hq, rfl⟩ h
    rw [List.map_eq_nil_iff, List.filter_eq_nil_iff] at h
    exact h q hq (by simp)
  · intro h
    rw [ne_eq, List.map_eq_nil_iff, List.filter_eq_nil_iff] at h
    simp only [decide_eq_true_eq] at h
    exact Classical.byContradiction fun z => h fun q hq e => z ⟨q, hq, e⟩
theorem loop_loads (hj : 1 ≤ j) (hq : ∀ q ∈ qs, QOk q) (hl : qs.length ≤ 8) {a b p : Option VF} : ∀ (ss : List Str) (acc : List Vl), acc.length + ss.length ≤ 1000 →
    vforL (vbd ⟨vrun pg.T pg.G j, vG pg.G⟩ (.one 6) b_law_1 [6, 7]) (ss.map Vl.str) [a, b, some (tripsV qs, false), some (numsV qs, false), p, some (.lst acc, true), none, none, none, none, none] =
      .nx [a, b, some (tripsV qs, false), some (numsV qs, false), p, some (.lst (acc ++ (ss.filter fun s => decide (s ∈ boats qs)).map (ldV qs)), true), none, none, none, none, none]
  | [], acc, _ => by simp [vforL]
  | s :: ss, acc, h => by
    have hlc := load_row (j := j) hj hq hl (s := s) (σ := [a, b, some (tripsV qs, false), some (numsV qs, false), p, some (.lst acc, true), some (.str s, false), none, none, none, none]) (fun v => by simp) (fun v => by simp) (fun v => by simp) (fun v => by simp)
    have hlen : ((qs.filter fun q => decide (q.1.b = s)).map fun q => q.2.sum).length ≤ 8 := by
      rw [List.length_map]
      exact Nat.le_trans (List.length_filter_le _ _) hl
    have hld : load qs s = ((qs.filter fun q => decide (q.1.b = s)).map fun q => q.2.sum).sum := rfl
    have hin := load_in (qs := qs) s
    have h : acc.length + ss.length + 1 ≤ 1000 := by simpa [Nat.add_assoc] using h
    rw [List.map_cons]
    generalize ((qs.filter fun q => decide (q.1.b = s)).map fun q => q.2.sum) = L at hlc hlen hld hin
    by_cases c : s ∈ boats qs
    · have hne : 0 < L.length := List.length_pos_iff.mpr (hin.mp c)
      have hg : (vbd ⟨vrun pg.T pg.G j, vG pg.G⟩ (.one 6) b_law_1 [6, 7] (.str s) [a, b, some (tripsV qs, false), some (numsV qs, false), p, some (.lst acc, true), none, none, none, none, none]).go = some [a, b, some (tripsV qs, false), some (numsV qs, false), p, some (.lst (acc ++ [ldV qs s]), true), none, none, none, none, none] := by
        simp (disch := first | omega | (simp; first | done | omega)) [vbd_one, b_law_1, len_trips, hlc, hne, ldV, hld]
      rw [vfor_go hg, loop_loads hj hq hl ss (acc ++ [ldV qs s]) (by simp; omega), List.filter_cons]
      simp [c]
    · have hne : L = [] := Classical.byContradiction fun z => c (hin.mpr z)
      subst hne
      have hg : (vbd ⟨vrun pg.T pg.G j, vG pg.G⟩ (.one 6) b_law_1 [6, 7] (.str s) [a, b, some (tripsV qs, false), some (numsV qs, false), p, some (.lst acc, true), none, none, none, none, none]).go = some [a, b, some (tripsV qs, false), some (numsV qs, false), p, some (.lst acc, true), none, none, none, none, none] := by
        simp (disch := first | omega | (simp; first | done | omega)) [vbd_one, b_law_1, len_trips, hlc]
      rw [vfor_go hg, loop_loads hj hq hl ss acc (by omega), List.filter_cons]
      simp [c]
theorem dns_in {l : List Vl} (h : (Vl.dns l).isSome = true) {x : Vl} (hx : x ∈ l) : x.dn.isSome = true := by
  induction l with
  | nil => cases hx
  | cons a l ih =>
    simp only [Vl.dns] at h
    cases e1 : Vl.dn a with
    | none => rw [e1] at h; cases h
    | some d =>
      cases e2 : Vl.dns l with
      | none => rw [e1, e2] at h; cases h
      | some ds =>
        rcases List.mem_cons.mp hx with rfl | hx
        · rw [e1]; rfl
        · exact ih (by rw [e2]; rfl) hx
/-- nine trips -/
theorem r_refused {k : Nat} (hk : 3 ≤ k) (hl : qs.length ≤ 8) : vrun pg.T pg.G k "_law_refused" [tripsV qs, numsV qs] = .ok (.bl true, false) := by
  obtain ⟨j, rfl, hj⟩ := fuel hk
  obtain ⟨i, rfl, hi⟩ := fuel hj
  obtain ⟨h, rfl, hh⟩ := fuel hi
  rw [u_law_refused]
  have m1 : vbin .mul (.tup [.tup [.str ⟨#[98, 111]⟩, .int 0, .tup [.str ⟨#[101, 97, 115, 116]⟩]]]) (.int 9) = .ok (.tup (List.replicate 9 (.tup [.str sBo, .int 0, .tup [.str sEast]])), false) := rfl
  have m2 : vbin .mul (.tup [.tup [.int 1]]) (.int 9) = .ok (.tup (List.replicate 9 (.tup [.int 1])), false) := rfl
  have r1 : (List.replicate 9 (Vl.tup [.str sBo, .int 0, .tup [.str sEast]])).length = 9 := rfl
  have r2 : (List.replicate 9 (Vl.tup [.int 1])).length = 9 := rfl
  have d1 : (Vl.dns (List.replicate 9 (Vl.tup [.str sBo, .int 0, .tup [.str sEast]]))).isSome = true := rfl
  have d2 : (Vl.dns (List.replicate 9 (Vl.tup [.int 1]))).isSome = true := rfl
  generalize List.replicate 9 (Vl.tup [.str sBo, .int 0, .tup [.str sEast]]) = R1 at m1 r1 d1
  generalize List.replicate 9 (Vl.tup [.int 1]) = R2 at m2 r2 d2
  have dapp : ∀ (A B : List Vl), (Vl.dns A).isSome = true → (Vl.dns B).isSome = true → (Vl.dns ((A ++ B).take 9)).isSome = true := fun A B hA hB => dns_mem fun x hx => by
    rcases List.mem_append.mp (List.mem_of_mem_take hx) with hx | hx
    · exact dns_in hA hx
    · exact dns_in hB hx
  have cut9 : ∀ (A B : List Vl), B.length = 9 → cut (A ++ B) none (some 9) = (A ++ B).take 9 := fun A B hB => by
    have : min 9 (A ++ B).length = 9 := by simp; omega
    simp only [cut, sIx]
    rw [if_pos (by omega)]
    have h9 : (9 : Int).toNat = 9 := rfl
    rw [h9, this]
    rfl
  have f1 : vbin .add (tripsV qs) (.tup R1) = .ok (.tup (qs.map (fun q => tpV q.1) ++ R1), false) := by
    unfold tripsV
    simp (disch := first | omega | (simp; first | done | omega))
  have f2 : vbin .add (numsV qs) (.tup R2) = .ok (.tup (qs.map nsV ++ R2), false) := by
    unfold numsV
    simp (disch := first | omega | (simp; first | done | omega))
  have e1 := cut9 (qs.map fun q => tpV q.1) R1 r1
  have e2 := cut9 (qs.map nsV) R2 r2
  have hX : ((qs.map (fun q => tpV q.1) ++ R1).take 9).length = 9 := by simp; omega
  have dX := dapp (qs.map fun q => tpV q.1) R1 (dns_mem fun x hx => by
    obtain ⟨q, _, rfl⟩ := List.mem_map.mp hx
    exact dn_tpV) d1
  have dY := dapp (qs.map nsV) R2 dns_nsV d2
  generalize (qs.map (fun q => tpV q.1) ++ R1).take 9 = X at e1 hX dX
  generalize (qs.map nsV ++ R2).take 9 = Y at e2 dY
  have hc : vrun pg.T pg.G (h + 1) "check_trip_count" [.tup X] = .exc ⟨"TooLarge", "limit", .inl 8⟩ := by
    rw [u_check_trip_count]
    have : vblt .len [.tup X] = .ok (.int 9, false) := by simp [hX]
    simp [s_check_trip_count, this]
  have hcar : vrun pg.T pg.G (h + 2) "carried" [.tup X, .tup Y] = .exc ⟨"TooLarge", "limit", .inl 8⟩ := by
    rw [show h + 2 = h + 1 + 1 from rfl, u_carried]
    simp [s_carried, hc]
  have k1 : ∀ (Z : List Nat) (σ : VEnv), vkeep (.tup X, false) Z σ = σ := fun Z σ => vkeep_pure (by rw [dn_tup, Option.isSome_map]; exact dX)
  have k2 : ∀ (Z : List Nat) (σ : VEnv), vkeep (.tup Y, false) Z σ = σ := fun Z σ => vkeep_pure (by rw [dn_tup, Option.isSome_map]; exact dY)
  simp [s_law_refused, b_law_refused_1, m1, f1, m2, f2, e1, e2, k1, k2, hcar]
end
end K73
end
section
set_option Elab.async false
set_option linter.all false
set_option autoImplicit false
set_option maxRecDepth 100000
/-! K73h: bookings are bookings; their sums. -/
namespace K73
open Sk
open PySem (Str)
abbrev sABC : Str := ⟨#[97, 98, 99, 100, 101, 102, 103, 104, 105, 106, 107, 108, 109, 110, 111, 112, 113, 114, 115, 116, 117, 118, 119, 120, 121, 122]⟩
def okN (s : Str) : Bool := decide (1 ≤ s.length) && decide (s.length ≤ 8) && s.cps.toList.all fun c => decide (c ∈ sABC.cps.toList)
theorem r_isname {k : Nat} (hk : 1 ≤ k) {s : Str} (h : okN s = true) : vrun pg.T pg.G k "is_name" [.str s] = .ok (.bl true, false) := by
  obtain ⟨j, rfl, hj⟩ := fuel hk
  rw [u_is_name]
  unfold okN at h
  simp only [Bool.and_eq_true, decide_eq_true_eq, List.all_eq_true] at h
  obtain ⟨⟨h1, h2⟩, h3⟩ := h
  have hf := vfor_pass (b := vbd ⟨vrun pg.T pg.G j, vG pg.G⟩ (.one 1) b_is_name_1 [1]) (fun c : Nat => Vl.str ⟨#[c]⟩) (σ := [some (.str s, false), none]) s.cps.toList (fun c hc => by
    have hi : vcmp .notin (.str ⟨#[c]⟩) (.str sABC) = .ok (.bl false, false) := by
      have := h3 c hc
      have hl : (⟨#[c]⟩ : Str).length = 1 := rfl
      simp only [vcmp, vin, hl, if_true]
      rw [show (⟨#[c]⟩ : Str).cps.getD 0 0 = c from rfl, decide_eq_true this]
      rfl
    simp [vbd_one, b_is_name_1, hi])
  have hw : ∀ f : List Vl → VOut, vwkF .val [.str s] f = f (s.cps.toList.map fun c : Nat => Vl.str ⟨#[c]⟩) := fun f => rfl
  have hi : visi2 (.str s) ["str"] = .ok (.bl true, false) := rfl
  have hl : vblt .len [.str s] = .ok (.int (s.length : Int), false) := rfl
  have l1 : (1 : Int) ≤ (s.length : Int) := by omega
  have l2 : (s.length : Int) ≤ 8 := by omega
  simp [s_is_name, hi, hl, l1, l2, hw, hf]
structure BOk (b : B) : Prop where
  w : okN b.w = true
  p : okN b.p = true
  t : okN b.t = true
  ne : b.p ≠ b.t
  a0 : 1 ≤ b.a
  a1 : b.a ≤ 99999
theorem r_row {k : Nat} (hk : 1 ≤ k) {b : B} : vrun pg.T pg.G k "is_row" [bV b, .int 4] = .ok (.bl true, false) := by
  obtain ⟨j, rfl, hj⟩ := fuel hk
  rw [u_is_row]
  have hi : visi2 (bV b) ["tuple"] = .ok (.bl true, false) := rfl
  have hl : vblt .len [bV b] = .ok (.int 4, false) := rfl
  simp [s_is_row, hi, hl]
theorem r_whole {k : Nat} (hk : 2 ≤ k) {a : Int} (h0 : 1 ≤ a) (h1 : a ≤ 99999) : vrun pg.T pg.G k "whole_in" [.int a, .int 1, .int 99999] = .ok (.bl true, false) := by
  obtain ⟨j, rfl, hj⟩ := fuel hk
  rw [u_whole_in]
  have : vrun pg.T pg.G j "is_whole" [.int a] = .ok (.bl true, false) := by
    obtain ⟨i, rfl, hi⟩ := fuel hj
    rw [u_is_whole]
    simp [s_is_whole]
  simp [s_whole_in, this, h0, h1]
theorem r_bfault {k : Nat} (hk : 3 ≤ k) {b : B} (h : BOk b) : vrun pg.T pg.G k "booking_fault" [bV b] = .ok (.non, false) := by
  obtain ⟨j, rfl, hj⟩ := fuel hk
  rw [u_booking_fault]
  have h0 := r_row (k := j) (by omega) (b := b)
  have h1 := r_isname (k := j) (by omega) h.w
  have h2 := r_isname (k := j) (by omega) h.p
  have h3 := r_isname (k := j) (by omega) h.t
  have h4 := r_whole (k := j) (by omega) h.a0 h.a1
  have hne := h.ne
  unfold bV at h0 ⊢
  simp [s_booking_fault, h0, h1, h2, h3, h4, hne]
theorem r_jfault {k : Nat} (hk : 4 ≤ k) {js : List B} (h : ∀ b ∈ js, BOk b) (hl : js.length ≤ 60) : vrun pg.T pg.G k "journal_fault" [.tup (js.map bV)] = .ok (.non, false) := by
  obtain ⟨j, rfl, hj⟩ := fuel hk
  rw [u_journal_fault]
  have hf := vfor_pass (b := vbd ⟨vrun pg.T pg.G j, vG pg.G⟩ (.one 1) b_journal_fault_1 [1, 2]) (fun i : Nat => Vl.int (i : Int)) (σ := [some (.tup (js.map bV), false), none, none]) (List.range js.length) (fun i hi => by
    have hi : i < js.length := by simpa using hi
    have hx : vix (.tup (js.map bV)) (.int (i : Int)) = .ok (bV js[i], false) := by
      rw [ix_t (by omega) (by simpa using hi)]
      simp
    have hb := r_bfault (k := j) hj (h _ (List.getElem_mem hi))
    simp [vbd_one, b_journal_fault_1, hx, hb])
  rw [← vrng0] at hf
  have h60 : ¬ (60 : Int) < (js.length : Int) := by omega
  simp (disch := first | omega | (simp; first | done | omega)) [s_journal_fault, hf, h60]
theorem r_balof {k : Nat} (hk : 2 ≤ k) {js : List B} (hl : js.length ≤ 100000) {s : Str} : vrun pg.T pg.G k "balance_of" [.tup (js.map bV), .str s] = .ok (.int (bal js s), false) := by
  obtain ⟨j, rfl, hj⟩ := fuel hk
  rw [u_balance_of]
  have ht := r_table hj hl
  have hg : vmth .get (encB (tab js)) [.str s, .int 0] = .ok (.int ((alget (tab js) s).getD 0), false) := by
    rw [get_al kstr_inj (q := s) rfl]
    cases alget (tab js) s <;> rfl
  have hty : vty .get (encB (tab js)) = true := rfl
  rw [tab_get] at hg
  simp [s_balance_of, ht, hg, hty]
theorem r_turn {k : Nat} (hk : 1 ≤ k) {js : List B} (hw : ∀ b ∈ js, b.w = sOil) (hl : js.length ≤ 100000) : vrun pg.T pg.G k "turnover" [.tup (js.map bV), .str sOil] = .ok (.int (js.map (·.a)).sum, false) := by
  obtain ⟨j, rfl, hj⟩ := fuel hk
  rw [u_turnover]
  simp (disch := first | omega | (simp; first | done | omega)) [s_turnover]
  rw [vlc_if bV (fun b => b.w = sOil) (fun b => .int b.a) js fun b hb => by
    have := hw b hb
    simp [vblk_one, bV, this]]
  have : js.filter (fun b => decide (b.w = sOil)) = js := List.filter_eq_self.mpr fun b hb => by simp [hw b hb]
  rw [this]
  simp (disch := first | omega | (simp; first | done | omega))
end K73
end
section
set_option Elab.async false
set_option linter.all false
set_option autoImplicit false
set_option maxRecDepth 100000
/-! K73i: the sums of the bookings; the law. -/
namespace K73
open Sk
open PySem (Str)
def total (qs : List Q) : Int := (qs.map fun q => q.2.sum).sum
theorem rows_sum {b : Str} {p : Int} : ∀ (l : List Str) (n : List Int), l.length = n.length → (∀ x ∈ n, 0 ≤ x) → ((rowc b p (l.zip n)).map (·.a)).sum = n.sum * p
  | [], [], _, _ => by simp [rowc]
  | [], _ :: _, h, _ => by simp at h
  | _ :: _, [], h, _ => by simp at h
  | s :: l, x :: n, h, hx => by
    have ih := rows_sum (b := b) (p := p) l n (by simpa using h) fun y hy => hx y (List.mem_cons_of_mem _ hy)
    have h0 := hx x List.mem_cons_self
    rw [List.zip_cons_cons, List.sum_cons, Int.add_mul, ← ih]
    unfold rowc
    rw [List.filter_cons]
    by_cases c : 0 < x
    · simp [c]
    · have : x = 0 := by omega
      subst this
      simp
theorem books_sum {p : Int} : ∀ {qs : List Q}, (∀ q ∈ qs, QOk q) → ((books p qs).map (·.a)).sum = total qs * p
  | [], _ => by simp [books, total]
  | q :: qs, h => by
    have ih := books_sum (p := p) fun x hx => h x (List.mem_cons_of_mem _ hx)
    have hq := h q List.mem_cons_self
    have h1 := rows_sum (b := q.1.b) (p := p) q.1.st q.2 hq.l.symm fun x hx => (hq.n x hx).1
    have e : cells q = q.1.st.zip q.2 := rfl
    rw [books_cons, List.map_append, List.sum_append, ih, e, h1]
    unfold total
    rw [List.map_cons, List.sum_cons, Int.add_mul]
theorem load_cons (q : Q) (qs : List Q) (s : Str) : load (q :: qs) s = (if q.1.b = s then q.2.sum else 0) + load qs s := by
  unfold load
  rw [List.filter_cons]
  by_cases h : q.1.b = s
  · simp [h]
  · simp [h]
theorem loads_sum {l : List Str} (nd : l.Nodup) : ∀ qs : List Q, (∀ q ∈ qs, q.1.b ∈ l) → (l.map (load qs)).sum = total qs
  | [], _ => by
    have : ∀ l : List Str, (l.map (load [])).sum = 0 := fun l => by
      induction l with
      | nil => rfl
      | cons x l ih => rw [List.map_cons, List.sum_cons, ih]; rfl
    exact this l
  | q :: qs, h => by
    have e : (fun s => load (q :: qs) s) = fun s => (if q.1.b = s then q.2.sum else 0) + load qs s := by
      funext s
      exact load_cons q qs s
    show (l.map fun s => load (q :: qs) s).sum = _
    rw [e, sum_add l (fun s => if q.1.b = s then q.2.sum else 0) (load qs), sum_one nd (h q List.mem_cons_self), loads_sum nd qs fun x hx => h x (List.mem_cons_of_mem _ hx)]
    simp [total]
theorem bts_sum {qs : List Q} (hq : ∀ q ∈ qs, QOk q) : ((bts qs).map (load qs)).sum = total qs := by
  refine loads_sum (List.Nodup.sublist List.filter_sublist (by decide)) qs fun q h => ?_
  rw [List.mem_filter, decide_eq_true_eq]
  exact ⟨(hq q h).t.b, (boats_mem qs).mpr ⟨q, h, rfl⟩⟩
theorem total_le : ∀ {qs : List Q}, (∀ q ∈ qs, QOk q) → 0 ≤ total qs ∧ total qs ≤ 2997 * qs.length
  | [], _ => by simp [total]
  | q :: qs, h => by
    have ih := total_le fun x hx => h x (List.mem_cons_of_mem _ hx)
    have hq := h q List.mem_cons_self
    have hs : ∀ n : List Int, (∀ x ∈ n, 0 ≤ x ∧ x ≤ 999) → 0 ≤ n.sum ∧ n.sum ≤ 999 * n.length := fun n hn => by
      induction n with
      | nil => simp
      | cons a n ihn =>
        have := ihn fun x hx => hn x (List.mem_cons_of_mem _ hx)
        have h0 := hn a List.mem_cons_self
        simp only [List.sum_cons, List.length_cons]
        omega
    have h1 := hs q.2 hq.n
    have h2 := hq.l
    have h3 := hq.t.n
    unfold total at ih ⊢
    simp only [List.map_cons, List.sum_cons, List.length_cons]
    omega
theorem light_n {s : Str} (h : s ∈ [sEast, sMid, sWest]) : okN s = true ∧ okS s = true := by
  simp only [List.mem_cons, List.not_mem_nil, or_false] at h
  rcases h with rfl | rfl | rfl <;> exact ⟨by decide, by decide⟩
theorem boat_n {s : Str} (h : s ∈ [sBo, sCy, sMid]) : okN s = true ∧ okS s = true := by
  simp only [List.mem_cons, List.not_mem_nil, or_false] at h
  rcases h with rfl | rfl | rfl <;> exact ⟨by decide, by decide⟩
theorem books_ok {p : Int} (p0 : 1 ≤ p) (p1 : p ≤ 99) {qs : List Q} (hq : ∀ q ∈ qs, QOk q) (hc : clash qs = none) {b : B} (hb : b ∈ books p qs) : BOk b ∧ b.Ok ∧ b.w = sOil := by
  unfold books at hb
  obtain ⟨q, hqs, hb⟩ := List.mem_flatMap.mp hb
  unfold rowc at hb
  obtain ⟨c, hcm, rfl⟩ := List.mem_map.mp hb
  rw [List.mem_filter, decide_eq_true_eq] at hcm
  obtain ⟨hcm, h0⟩ := hcm
  have hqo := hq q hqs
  obtain ⟨c1, c2, c3⟩ := cell_ok hqo hcm
  obtain ⟨l1, l2⟩ := light_n (hqo.t.st _ c1)
  obtain ⟨b1, b2⟩ := boat_n hqo.t.b
  have hne : c.1 ≠ q.1.b := fun e => by
    unfold clash at hc
    rw [List.findSome?_eq_none_iff] at hc
    have := hc q hqs
    unfold hitc at this
    rw [List.findSome?_eq_none_iff] at this
    have := this c hcm
    simp [h0, e] at this
  have a0 : 1 ≤ c.2 * p := by
    have : 1 * 1 ≤ c.2 * p := Int.mul_le_mul (by omega) p0 (by omega) (by omega)
    omega
  have a1 : c.2 * p ≤ 99999 := by
    have : c.2 * p ≤ 999 * 99 := Int.mul_le_mul c3 p1 (by omega) (by omega)
    omega
  exact ⟨⟨show okN sOil = true by decide, l1, b1, hne, a0, a1⟩, ⟨show okS sOil = true by decide, l2, b2, a0, a1⟩, rfl⟩
section
variable {j : Nat} {p : Int} {qs : List Q}
theorem names_one {j : Nat} {a b d f : Option VF} {l : List Str} {x : B} (hl : l.length < 100000) (hne : x.p ≠ x.t) :
    (vbd ⟨vrun pg.T pg.G j, vG pg.G⟩ (.one 3) b_law_sums_1 [3] (bV x) [a, b, d, none, some (.lst (l.map Vl.str), true), none, f]).go = some [a, b, d, none, some (.lst ((ins (ins l x.p) x.t).map Vl.str), true), none, f] := by
  have hcut : cut [Vl.str x.w, Vl.str x.p, Vl.str x.t, Vl.int x.a] (some 1) (some 3) = [.str x.p, .str x.t] := rfl
  have hlc : vlc (vblk ⟨vrun pg.T pg.G j, vG pg.G⟩ (.var 5) (.one 5) [.cmp .notin (.var 5) (.var 4)] [5] [a, b, d, some (bV x, false), some (.lst (l.map Vl.str), true), none, f]) [.str x.p, .str x.t] = .ok ((([x.p, x.t].filter fun s => decide (s ∉ l)).map Vl.str)) := by
    show vlc _ ([x.p, x.t].map Vl.str) = _
    rw [vlc_if Vl.str (fun s => s ∉ l) Vl.str [x.p, x.t] fun s _ => by
      by_cases h : s ∈ l <;> simp [vblk_one, h]]
  have hi : l ++ [x.p, x.t].filter (fun s => decide (s ∉ l)) = ins (ins l x.p) x.t := by
    unfold ins
    by_cases h1 : x.p ∈ l
    · by_cases h2 : x.t ∈ l
      · simp [h1, h2]
      · simp [h1, h2]
    · by_cases h2 : x.t ∈ l
      · simp [h1, h2]
      · have : ¬ x.t = x.p := fun e => hne e.symm
        simp [h1, h2, this]
  have hls : ([x.p, x.t].filter fun s => decide (s ∉ l)).length ≤ 2 := List.length_filter_le _ _
  rw [← hi]
  generalize ([x.p, x.t].filter fun s => decide (s ∉ l)) = F at hlc hls
  have hv : vwk .val [Vl.tup [Vl.str x.p, Vl.str x.t]] = .ok [.str x.p, .str x.t] := rfl
  have hs : vslcLU (bV x) (.int 1) (.int 3) = .ok (.tup [.str x.p, .str x.t], false) := by
    unfold bV
    simp [vslcLU, vslc, hcut]
  rw [vbd_one]
  simp (disch := first | omega | (simp; first | done | omega)) [b_law_sums_1, hs, hv, hlc]
theorem r_sums {k : Nat} (hk : 8 ≤ k) (p0 : 1 ≤ p) (p1 : p ≤ 99) (hq : ∀ q ∈ qs, QOk q) (hl : qs.length ≤ 8) (hc : clash qs = none) :
    vrun pg.T pg.G k "_law_sums" [.tup ((books p qs).map bV), .lst ((bts qs).map (ldV qs)), .int p] = .ok (.bl true, false) := by
  obtain ⟨j, rfl, hj⟩ := fuel hk
  rw [u_law_sums]
  have hbl := books_len (p := p) hq
  have hbo : ∀ b ∈ books p qs, BOk b ∧ b.Ok ∧ b.w = sOil := fun b hb => books_ok p0 p1 hq hc hb
  have hsum := books_sum (p := p) hq
  have htot := total_le hq
  have e1 := r_jfault (k := j) (by omega) (fun b hb => (hbo b hb).1) (by omega)
  have e2 := r_turn (k := j) (by omega) (fun b hb => (hbo b hb).2.2) (js := books p qs) (by omega)
  rw [hsum, Int.mul_comm] at e2
  have e3 := r_balances (k := j) (by omega) (fun b hb => (hbo b hb).2.1) (js := books p qs) (by omega)
  generalize books p qs = js at hbl hbo e1 e2 e3
  have hn := names_len js
  have s1 := r_same 1 (.int (p * total qs)) rfl j (by omega)
  have hnp : ∀ s, vrun pg.T pg.G j "_law_balance" [.tup (js.map bV), .str s] = .ok (.int (bal js s), false) := fun s => r_law_balance (by omega) (by omega)
  have s2 := r_same 2 (.tup ((names js).map (pr js))) (by
    simp only [smv, Bool.and_eq_true, decide_eq_true_eq, List.all_eq_true, List.length_map]
    refine ⟨by omega, fun x hx => ?_⟩
    obtain ⟨s, _, rfl⟩ := List.mem_map.mp hx
    simp [pr, smv]) j (by omega)
  have hlen : (bts qs).length ≤ 3 := List.length_filter_le _ _
  have hlo : vlc (vblk ⟨vrun pg.T pg.G j, vG pg.G⟩ (.ix (.var 3) (.cst (.int 1))) (.one 3) [] [3] [some (.tup (js.map bV), false), some (.lst ((bts qs).map (ldV qs)), false), some (.int p, false), none, none, none, none]) ((bts qs).map (ldV qs)) = .ok (((bts qs).map (load qs)).map Vl.int) := by
    rw [vlc_map (ldV qs) (fun s => .int (load qs s)) (bts qs) fun s _ => by simp [vblk_one, ldV], List.map_map]
    rfl
  have hsb : vblt .sum [.lst (((bts qs).map (load qs)).map Vl.int)] = .ok (.int (total qs), false) := by rw [w_sum, bts_sum hq]
  have hmul : vbin .mul (.int p) (.int (total qs)) = .ok (.int (p * total qs), false) := by
    have : okMul p (total qs) = true := by
      unfold okMul smallI
      have h : -(2 ^ 64) < p ∧ p < 2 ^ 64 := by omega
      rw [Bool.or_eq_true, Bool.or_eq_true]
      exact .inl (.inl (decide_eq_true h))
    simp [vbin, vmul, this]
  obtain ⟨σ, h1, l, h2, h3, rfl⟩ := vfor_inv (b := vbd ⟨vrun pg.T pg.G j, vG pg.G⟩ (.one 3) b_law_sums_1 [3]) bV (fun i σ => ∃ l : List Str, l = accs (js.take i) ∧ l.length ≤ 2 * i ∧ σ = [some (.tup (js.map bV), false), some (.lst ((bts qs).map (ldV qs)), false), some (.int p, false), none, some (.lst (l.map Vl.str), true), none, none])
    (xs := js) (σ := [some (.tup (js.map bV), false), some (.lst ((bts qs).map (ldV qs)), false), some (.int p, false), none, some (.lst [], true), none, none]) ⟨[], by simp [accs], by simp, rfl⟩ (fun i x σ hx ⟨l, h2, h3, h4⟩ => by
      subst h4
      have hi : i < js.length := (List.getElem?_eq_some_iff.mp hx).1
      have hT : ins (ins l x.p) x.t = accs (js.take (i + 1)) := by
        rw [List.take_add_one, hx, h2]
        simp [accs]
      have l1 := ins_len l x.p
      have l2 := ins_len (ins l x.p) x.t
      exact ⟨_, names_one (by omega) (hbo x (List.mem_of_getElem? hx)).1.ne, _, hT, by omega, rfl⟩)
  have h2 : l = accs js := by rw [h2, List.take_length]
  subst h2
  have hsn : vblt .sorted [.lst ((accs js).map Vl.str)] = .ok (.lst ((names js).map Vl.str), true) := by
    rw [w_sorted_s]
    rfl
  have hdu : ∀ a b d e f : Option VF, vlc (vblk ⟨vrun pg.T pg.G j, vG pg.G⟩ (.tup [.var 5, .call "_law_balance" [.var 0, .var 5]]) (.one 5) [] [5] [some (.tup (js.map bV), false), a, b, d, e, none, f]) ((names js).map Vl.str) = .ok ((names js).map (pr js)) := fun a b d e f => by
    rw [vlc_map Vl.str (pr js) (names js) fun s _ => by simp [vblk_one, hnp, pr]]
  have hfin := fun x6 => vfor_pass (b := vbd ⟨vrun pg.T pg.G j, vG pg.G⟩ (.one 3) b_law_sums_2 [3]) (ldV qs) (σ := [some (.tup (js.map bV), false), some (.lst ((bts qs).map (ldV qs)), false), some (.int p, false), none, some (.lst ((accs js).map Vl.str), true), none, x6]) (bts qs) (fun s _ => by
    have hb := r_balof (k := j) (by omega) (js := js) (by omega) (s := s)
    have hs := r_same 1 (.int (bal js s)) rfl j (by omega)
    simp [vbd_one, b_law_sums_2, ldV, hb, hnp, hs])
  have dpr : (Vl.tup ((names js).map (pr js))).dn.isSome = true := by
    rw [dn_tup, Option.isSome_map]
    exact dns_mem fun x hx => by obtain ⟨s, _, rfl⟩ := List.mem_map.mp hx; simp [pr]
  have dld : (Vl.dns ((bts qs).map (ldV qs))).isSome = true := dns_mem fun x hx => by obtain ⟨s, _, rfl⟩ := List.mem_map.mp hx; simp [ldV]
  have kb : ∀ (X : List Nat) (σ : VEnv), vkeep (.tup ((names js).map (pr js)), false) X σ = σ := fun X σ => vkeep_pure dpr
  simp (disch := first | omega | (simp; first | done | omega)) [s_law_sums, e1, e2, hlo, hsb, hmul, s1, h1, hsn, hdu, e3, s2, hfin, kb, -List.map_map]
end
end K73
end
section
set_option Elab.async false
set_option linter.all false
set_option autoImplicit false
set_option maxRecDepth 100000
/-! K73j: the law. -/
namespace K73
open Sk
open PySem (Str)
theorem dns_bV (js : List B) : (Vl.dns (js.map bV)).isSome = true := dns_mem fun x hx => by
  obtain ⟨b, _, rfl⟩ := List.mem_map.mp hx
  simp [bV]
theorem due_smv {p : Int} {qs : List Q} (h : (books p qs).length ≤ 100) : smv 2 (dueV p qs) = true := by
  unfold dueV
  split
  · rfl
  · simp only [smv, Bool.and_eq_true, decide_eq_true_eq, List.all_eq_true, List.length_map]
    refine ⟨by omega, fun x hx => ?_⟩
    obtain ⟨b, _, rfl⟩ := List.mem_map.mp hx
    simp [bV, smv]
theorem law_ok : ∀ ns : List Int, ns.length ≤ 63 → ∃ M', run pg.T pg.G 44 "law" [.ref 0] [.ro (ns.map D.int)] = .ok (.bl true) M' := by
  intro ns hn
  refine law_v ns ⟨false, ?_⟩
  obtain ⟨vs, hv, hp, e1⟩ := r_pool (k := 43) (by omega) hn
  obtain ⟨ts, ht, tl, e2⟩ := r_runs (k := 43) (by omega) hv
  obtain ⟨qs, hqt, hq, e3⟩ := r_numbers (k := 43) (by omega) hv hp ht tl
  have hl : qs.length ≤ 8 := by
    have := congrArg List.length hqt
    simp at this
    omega
  have htr : Vl.tup (ts.map tpV) = tripsV qs := by
    rw [← hqt, List.map_map]
    rfl
  rw [htr] at e2 e3
  have hnum : Vl.tup (qs.map nsV) = numsV qs := rfl
  rw [hnum] at e3
  have i3 := ix_ints (vs := vs) (i := 3) (by omega)
  obtain ⟨p, hpe⟩ : ∃ p, p = 1 + getI vs 3 % 99 := ⟨_, rfl⟩
  have p0 : 1 ≤ p := by omega
  have p1 : p ≤ 99 := by omega
  have hbl := books_len (p := p) hq
  have c1 := r_carried (k := 43) (by omega) hq hl
  have hlen : (bts qs).length ≤ 3 := List.length_filter_le _ _
  have s1 := r_same 2 (.tup ((bts qs).map (ldV qs))) (by
    simp only [smv, Bool.and_eq_true, decide_eq_true_eq, List.all_eq_true, List.length_map]
    refine ⟨by omega, fun x hx => ?_⟩
    obtain ⟨s, _, rfl⟩ := List.mem_map.mp hx
    simp [ldV, smv]) 43 (by omega)
  have d1 := r_due (k := 43) (by omega) p0 p1 hq hl
  have b1 := r_booked (k := 43) (by omega) p0 p1 hq hl
  have s2 := r_same 2 (dueV p qs) (due_smv (by omega)) 43 (by omega)
  have rf := r_refused (k := 43) (by omega) hl
  have ll := loop_loads (j := 43) (by omega) hq hl (a := some (.ro (ns.map Vl.int), false)) (b := some (.lst (vs.map Vl.int), true)) (p := some (.int p, false)) [sBo, sCy, sMid] [] (by simp)
  have ll : vforL (vbd ⟨vrun pg.T pg.G 43, vG pg.G⟩ (.one 6) b_law_1 [6, 7]) [.str sBo, .str sCy, .str sMid] [some (.ro (ns.map Vl.int), false), some (.lst (vs.map Vl.int), true), some (tripsV qs, false), some (numsV qs, false), some (.int p, false), some (.lst [], true), none, none, none, none, none] =
      .nx [some (.ro (ns.map Vl.int), false), some (.lst (vs.map Vl.int), true), some (tripsV qs, false), some (numsV qs, false), some (.int p, false), some (.lst ((bts qs).map (ldV qs)), true), none, none, none, none, none] := ll
  have dT : (tripsV qs).dn.isSome = true := by
    unfold tripsV
    rw [dn_tup, Option.isSome_map]
    exact dns_mem fun x hx => by obtain ⟨q, _, rfl⟩ := List.mem_map.mp hx; exact dn_tpV
  have dN : (numsV qs).dn.isSome = true := by
    unfold numsV
    rw [dn_tup, Option.isSome_map]
    exact dns_nsV
  have dD : (dueV p qs).dn.isSome = true := by
    unfold dueV
    split
    · rfl
    · rw [dn_tup, Option.isSome_map]
      exact dns_bV _
  have k1 : ∀ (X : List Nat) (σ : VEnv), vkeep (tripsV qs, false) X σ = σ := fun X σ => vkeep_pure dT
  have k2 : ∀ (X : List Nat) (σ : VEnv), vkeep (numsV qs, false) X σ = σ := fun X σ => vkeep_pure dN
  have k3 : ∀ (X : List Nat) (σ : VEnv), vkeep (dueV p qs, false) X σ = σ := fun X σ => vkeep_pure dD
  subst hpe
  rw [u_law (k := 43)]
  have his : visi2 (dueV (1 + getI vs 3 % 99) qs) ["str"] = .ok (.bl (clash qs).isSome, false) := by
    unfold dueV
    cases clash qs <;> rfl
  have hbody : vexs ⟨vrun pg.T pg.G 43, vG pg.G⟩ (s_law.take 10) [some (.ro (ns.map Vl.int), false), none, none, none, none, none, none, none, none, none, none] = .nx [some (.ro (ns.map Vl.int), false), some (.lst (vs.map Vl.int), true), some (tripsV qs, false), some (numsV qs, false), some (.int (1 + getI vs 3 % 99), false), some (.lst ((bts qs).map (ldV qs)), true), none, none, none, some (dueV (1 + getI vs 3 % 99) qs, false), some (dueV (1 + getI vs 3 % 99) qs, false)] := by
    have h16 : (bts qs).length < 16777216 := by omega
    simp only [s_law, List.take_succ_cons, List.take_zero, vxs_cons, vxs_nil]
    simp (disch := first | omega | (simp; first | done | omega)) [e1, e2, e3, i3, ll, c1, s1, d1, b1, s2, rf, k1, k2, k3]
  rw [vexs_split 10, hbody, va_nx]
  cases hc : clash qs with
  | some l =>
    rw [hc] at his
    simp [s_law, his]
  | none =>
    have hs := r_sums (k := 43) (by omega) p0 p1 hq hl hc
    have hdv : dueV (1 + getI vs 3 % 99) qs = .tup ((books (1 + getI vs 3 % 99) qs).map bV) := by unfold dueV; rw [hc]
    rw [hc] at his
    rw [hdv] at his ⊢
    simp [s_law, his, hs]
end K73
end
set_option Elab.async false
set_option linter.all false
set_option maxRecDepth 100000
set_option maxHeartbeats 0
namespace K73
namespace Hd
open PySem PySem.Spec PyProof.Rows L2 Sk
def defD : Stmt → Option He.DefD
  | .FunctionDef name args body _ _ _ scope _ _ _ => some ⟨(name, none), name, name, args, body, scope, [], []⟩
  | _ => none
abbrev R : PySem.W.OpenRow := PySem.W.OpenLaw.row PySem.Challenge.rw_skerrylight_k73_carried
def fn : List He.DefD := (PySem.Challenge.pw_skerrylight_k73_carried).main.body.filterMap defD
theorem chk : pg.chk fn = true := by kernel_rfl
abbrev hk : PySem.W.Hook := Sk.hookS 4 pg.fa fn (exsB (PySem.Challenge.rw_skerrylight_k73_carried).prog pg.xs)
def ob (s : PySem.W.SharedT) : Sk.AlS := Sk.obsSG 4 pg.fa fn (exsB (PySem.Challenge.rw_skerrylight_k73_carried).prog pg.xs) (HandSHeadRun.getT s)
theorem ob_eq (s : PySem.W.SharedT) : ob s = hk.obs s.abs := Sk.obsSG_eq (HandSHeadRun.getT_eq s)
theorem run_eq (w : World) : HandSHeadRun.RunEq R (PySem.W.view R.prog [38]) hk ob 4000 [("LETTERS" : PySem.Str), ("is_whole" : PySem.Str), ("whole_in" : PySem.Str), ("is_name" : PySem.Str), ("is_row" : PySem.Str), ("SkerryError" : PySem.Str), ("TooLarge" : PySem.Str), ("Clash" : PySem.Str), ("MOST_TRIPS" : PySem.Str), ("check_trip_count" : PySem.Str), ("carried" : PySem.Str), ("MOST_AMOUNT" : PySem.Str), ("MOST_BOOKINGS" : PySem.Str), ("booking_fault" : PySem.Str), ("journal_fault" : PySem.Str), ("balance_table" : PySem.Str), ("balances" : PySem.Str), ("balance_of" : PySem.Str), ("turnover" : PySem.Str), ("oil_bookings" : PySem.Str), ("_law_trips" : PySem.Str), ("_law_same" : PySem.Str), ("_law_mix" : PySem.Str), ("_law_pool" : PySem.Str), ("_law_runs_of_boats" : PySem.Str), ("_law_numbers" : PySem.Str), ("_law_due" : PySem.Str), ("_law_booked" : PySem.Str), ("_law_balance" : PySem.Str), ("_law_sums" : PySem.Str), ("_law_refused" : PySem.Str)] w := by
  intro os
  kernel_rfl
end Hd
end K73
open K73 Sk
open PySem PySem.W PySem.Calls PyProof.Rows
theorem PySem.Challenge.cw_skerrylight_k73_carried_holds : PySem.Challenge.rw_skerrylight_k73_carried.Holds := by
  w_on; o_law
  refine HandSHeadRun.head_any (r := OpenLaw.row PySem.Challenge.rw_skerrylight_k73_carried) (q := view (OpenLaw.row PySem.Challenge.rw_skerrylight_k73_carried).prog [38]) (H := Hd.hk) (ob := Hd.ob) (M := 4000) (loose := [("LETTERS" : PySem.Str), ("is_whole" : PySem.Str), ("whole_in" : PySem.Str), ("is_name" : PySem.Str), ("is_row" : PySem.Str), ("SkerryError" : PySem.Str), ("TooLarge" : PySem.Str), ("Clash" : PySem.Str), ("MOST_TRIPS" : PySem.Str), ("check_trip_count" : PySem.Str), ("carried" : PySem.Str), ("MOST_AMOUNT" : PySem.Str), ("MOST_BOOKINGS" : PySem.Str), ("booking_fault" : PySem.Str), ("journal_fault" : PySem.Str), ("balance_table" : PySem.Str), ("balances" : PySem.Str), ("balance_of" : PySem.Str), ("turnover" : PySem.Str), ("oil_bookings" : PySem.Str), ("_law_trips" : PySem.Str), ("_law_same" : PySem.Str), ("_law_mix" : PySem.Str), ("_law_pool" : PySem.Str), ("_law_runs_of_boats" : PySem.Str), ("_law_numbers" : PySem.Str), ("_law_due" : PySem.Str), ("_law_booked" : PySem.Str), ("_law_balance" : PySem.Str), ("_law_sums" : PySem.Str), ("_law_refused" : PySem.Str)]) (d := HandSHeadRun.topDef (OpenLaw.row PySem.Challenge.rw_skerrylight_k73_carried).prog 38) (kwd := []) Hd.ob_eq
    (by kernel_rfl) (fun s => by kernel_rfl) Hd.run_eq (by kernel_rfl) (by kernel_rfl) (by kernel_rfl) (by rfl) (by first | assumption | decide +kernel) (by decide +kernel) ⟨rfl, rfl, rfl, rfl, rfl, by decide +kernel⟩ ?hw ?hc
  case hw => w_witness2
  case hc =>
    refine L2.walk_ofE (l := PySem.Challenge.rw_skerrylight_k73_carried) (n := 63) (k := 46) (x := "script") (CX := C8.CX0) rfl (by decide) (by kernel_rfl) ⟨rfl, by decide, by decide⟩ ?F (fun _ _ _ _ z => z)
    intro w mg fa h Y G hmg0
    obtain ⟨K, KX, c⟩ := Y
    have hmg : mg ("law" : PySem.Str) = some (.ref fa) := by
      have e : (HandSHeadRun.topDef (OpenLaw.row PySem.Challenge.rw_skerrylight_k73_carried).prog 38).name = ("law" : PySem.Str) := by kernel_rfl
      rw [← e]
      exact hmg0
    obtain ⟨fd, sp, hb, hs, hF⟩ := Sk.law_end (P := (PySem.Challenge.rw_skerrylight_k73_carried).prog) (w := w) (k := 44) (p := pg) (d := d_law) KX G c.1 Hd.chk c.2 hmg (by rfl) (by rfl) (by rfl) law_ok
    exact ⟨K, fd, sp, KX, hb, hs, hF⟩
