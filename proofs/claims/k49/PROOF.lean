import PyProof.Rows.All
import Wide.All
import OpenK.AllK
import Wide.FinOn
import HandS.ForMost
import HandS.Exc
import HandS.ExcOwn
import KE.KExcInit
import HandS.More
import HandS.ExcInit
import HandS.ExcIs
import HandS.ClsMeth
import HandS.ExcField
import KE.KExcStr
import KE.KExcIs
import HandS.WordsExc
import HandS.Defaults
import HandS.CallSlots
import HandS.WrittenGet
import HandS.Deep
import HandS.Flow
import HandS.Style
import HandS.TupAny
import HandS.DictComp
import HandS.StrMore
import HandS.SetKeys
import HandS.Replace
import HandS.RaiseMore
import KE.KUnpackStar
import HandS.Small
import HandS.FStr
import HandS.IsInst
import KE.IntTextLaws
import HandS.SetTxt0
import HandS.Strs
import HandS.Zip
import HandS.HeadHook1
import HandS.HeadHook2
import HandS.HeadHook3
import HandS.HeadEnd
import HandS.Ends
import PySem.Challenge.RW_twigseek_k49_refusals_and_their_fields
set_option linter.all false
/-! A small machine for the program's text: values, heap, syntax, and what a text does. Own work. -/
namespace Mm
open PySem

abbrev Tx := List Nat

inductive AV where
  | non | bl (b : Bool) | int (i : Int) | str (s : Tx) | tup (xs : List AV) | ref (i : Nat) | wd (i : Nat)
  deriving Inhabited

abbrev AK := Sum Int Tx

/-- an exception: its class, its text, its fields -/
structure AX where
  cls : Nat
  msg : Tx
  fs : List (Nat × AV)
  deriving Inhabited

inductive AO where
  | lst (xs : List AV)
  | flst (xs : List AV)
  | dic (lk : Bool) (kvs : List (AK × AV))
  | ins (c : Nat) (fs : List (Nat × AV))
  | clo (k : Nat) (cap : List AV)
  | exc (x : AX) (j : Option Nat)
  | xdo (fs : List (Nat × AV))
  deriving Inhabited

abbrev AH := List AO
abbrev Lo := List (Option AV)

inductive Rs (α : Type) where
  | ok (a : α) (h : AH)
  | ex (x : AX) (h : AH)
  | bad
  deriving Inhabited
@[inline] def Rs.bind {α β : Type} (r : Rs α) (k : α → AH → Rs β) : Rs β := match r with
  | .ok a h => k a h
  | .ex x h => .ex x h
  | .bad => .bad
def Rs.ofO {α : Type} (o : Option α) (h : AH) : Rs α := match o with
  | some a => .ok a h
  | none => .bad

inductive Bop | add | sub | mul | fdiv | mod | pow
  deriving DecidableEq
inductive Cop | eq | ne | lt | le | gt | ge | is | isn | inn | nin
  deriving DecidableEq
/-- builtin functions -/
inductive Bi | len | min2 | max2 | maxl | all | any | sorted | sortedR | int | str | list | tuple | dict | sum | ordset | abs
  deriving DecidableEq
/-- builtin methods -/
inductive Bm | append | pop | get | setdefault | split | join | startswith | find | index | count | insert | clear | replace | keys
  deriving DecidableEq
/-- what is walked -/
inductive Ik | val | rng | enum | zip | items | vals | keys
  deriving DecidableEq
/-- classes of isinstance -/
inductive Ty | int | bool | str | tuple | list | own (c : Nat) | exv | exl
  deriving DecidableEq

inductive T where
  | nm (i : Nat) | tp (t : T) | nil | cons (a b : T)

inductive E where
  | var (i : Nat)
  | cst (v : AV)
  | bin (o : Bop) (a b : E)
  | neg (a : E)
  | not (a : E)
  | and (a b : E)
  | or (a b : E)
  | cmp (o : Cop) (a b : E)
  | chn (o o' : Cop) (a b c : E)
  | ite (c a b : E)
  | tup (es : E)
  | lst (es : E)
  | nil
  | cons (a b : E)
  | idx (a i : E)
  | sl (a lo hi : E)
  | no
  | fld (o : E) (f : Nat)
  | call (f : Nat) (as : E) (pm : List (Sum Nat AV))
  | new (c : Nat) (as : E) (pm : List (Sum Nat AV))
  | mth (o : E) (m : Nat) (as : E) (pm : List (Sum Nat AV))
  | newx (c : Nat) (as : E)
  | isx (a : E) (t : Ty)
  | callf (o : E) (as : E)
  | lam (k : Nat) (cap : List Nat)
  | lsv (k : Ik) (a : E)
  | blt (b : Bi) (as : E)
  | bm (o : E) (m : Bm) (as : E)
  | isi (a : E) (ts : List Ty)
  | fmt (es : E)
  | dct (es : E)
  | lenset (a : E)
  | lc (t : T) (k : Ik) (as : E) (c e : E)
  | lc2 (t : T) (k : Ik) (as : E) (c : E) (t2 : T) (k2 : Ik) (as2 : E) (c2 e : E)
  | dc (t : T) (k : Ik) (as : E) (ke ve : E)

inductive S where
  | nil
  | seq (a b : S)
  | ex (e : E)
  | ret (e : E)
  | asg (t : T) (e : E)
  | star (a : List Nat) (r : Nat) (b : List Nat) (e : E)
  | setS (o i e : E)
  | setF (o : E) (f : Nat) (e : E)
  | augN (i : Nat) (p : Bop) (e : E)
  | augF (o : E) (f : Nat) (p : Bop) (e : E)
  | augS (o i : E) (p : Bop) (e : E)
  | ite (c : E) (a b : S)
  | whl (c : E) (b : S)
  | for_ (t : T) (k : Ik) (as : E) (b : S)
  | brk
  | cnt
  | pas
  | asg2 (ts : E) (e : E)
  | tupF (ts : E) (e : E)
  | rse (c : Nat) (as : E)
  | rrs
  | try_ (b hs : S)
  | hnd (cs : List Nat) (n : Option Nat) (s : S) (hs : S)
  | fin (b s : S)
  | wall

inductive Fl where
  | nx (l : Lo) (h : AH)
  | rt (v : AV) (h : AH)
  | bk (l : Lo) (h : AH)
  | ct (l : Lo) (h : AH)
  | ex (x : AX) (l : Lo) (h : AH)
  | bad
  deriving Inhabited

structure Fn where
  np : Nat
  ns : Nat
  body : S
  pur : Bool
/-- a class: its __init__, its methods; of an exception: its text, its field; told: a ValueError; the classes that it is -/
structure Cl where
  init : Option Nat
  meths : List (Nat × Nat)
  exc : Option (Tx × List Nat) := none
  told : Bool := false
  sup : List Nat := []
structure Tb where
  fns : List Fn
  cls : List Cl
  wds : List (List (Tx × AV))

/-! ### texts -/
def ltT : Tx → Tx → Bool
  | [], [] => false
  | [], _ :: _ => true
  | _ :: _, [] => false
  | a :: r, b :: q => if a == b then ltT r q else Nat.blt a b
def eqX : Tx → Tx → Bool
  | [], [] => true
  | a :: r, b :: q => Nat.beq a b && eqX r q
  | _, _ => false
def preT : Tx → Tx → Bool
  | [], _ => true
  | _ :: _, [] => false
  | a :: r, b :: q => Nat.beq a b && preT r q
/-- does S stand somewhere in l -/
def subT (S : Tx) : Tx → Bool
  | [] => preT S []
  | c :: r => preT S (c :: r) || subT S r
def findT (S : Tx) : Nat → Tx → Option Nat
  | i, [] => if preT S [] then some i else none
  | i, c :: r => if preT S (c :: r) then some i else findT S (i + 1) r
def findC (c : Nat) : Nat → Tx → Option Nat
  | _, [] => none
  | i, d :: r => if Nat.beq d c then some i else findC c (i + 1) r
def posI : Option Nat → Int
  | some n => n
  | none => -1
def splT (c : Nat) : Tx → Tx → List Tx
  | acc, [] => [acc.reverse]
  | acc, d :: r => if Nat.beq d c then acc.reverse :: splT c [] r else splT c (d :: acc) r
def joinT (S : Tx) : List Tx → Tx
  | [] => []
  | [x] => x
  | x :: r => x ++ (S ++ joinT S r)
def digF : Nat → Nat → Tx → Tx
  | 0, _, acc => acc
  | f + 1, n, acc => if Nat.blt n 10 then (48 + n) :: acc else digF f (n / 10) ((48 + n % 10) :: acc)
def natT (n : Nat) : Tx := digF 400 n []

/-! ### keys, equality, order, truth -/
def keyOf : AV → Option AK
  | .int i => some (.inl i)
  | .str s => some (.inr s)
  | _ => none
def eqK : AK → AK → Bool
  | .inl i, .inl j => i == j
  | .inr s, .inr t => eqX s t
  | _, _ => false
def avK : AK → AV
  | .inl i => .int i
  | .inr s => .str s
def getK (k : AK) : List (AK × AV) → Option AV
  | [] => none
  | (q, v) :: r => if eqK q k then some v else getK k r
def putK (k : AK) (v : AV) (kvs : List (AK × AV)) : List (AK × AV) := match kvs.any fun q => eqK q.1 k with
  | true => kvs.map fun q => match eqK q.1 k with
    | true => (q.1, v)
    | false => q
  | false => kvs ++ [(k, v)]
def dropK (k : AK) (kvs : List (AK × AV)) : List (AK × AV) := kvs.filter fun q => !eqK q.1 k
def getF (f : Nat) : List (Nat × AV) → Option AV
  | [] => none
  | (q, v) :: r => if Nat.beq q f then some v else getF f r
def putF (f : Nat) (v : AV) : List (Nat × AV) → List (Nat × AV)
  | [] => [(f, v)]
  | (q, u) :: r => if Nat.beq q f then (q, v) :: r else (q, u) :: putF f v r
def setO (i : Nat) (o : AO) : AH → AH := fun h => h.set i o


/-! ### data -/
def toStr (s : Tx) : Str := ⟨s.toArray⟩
/-- the datum at a value, so many deep -/
def toD (h : AH) : Nat → AV → Option PyData
  | 0, _ => none
  | n + 1, v => match v with
    | .non => some .none
    | .bl b => some (.bool b)
    | .int i => some (.int i)
    | .str s => some (.str (toStr s))
    | .tup xs => (toDs (toD h n) xs).map PyData.tuple
    | .ref i => (match h[i]? with
      | some (.lst xs) => (toDs (toD h n) xs).map PyData.list
      | some (.flst xs) => (toDs (toD h n) xs).map PyData.list
      | _ => none)
    | .wd _ => none
where toDs (f : AV → Option PyData) : List AV → Option (List PyData)
  | [] => some []
  | x :: r => (match f x with
    | some d => (match toDs f r with
      | some ds => some (d :: ds)
      | none => none)
    | none => none)
def DP : Nat := 40
def flat : AV → Bool
  | .non | .bl _ | .int _ | .str _ => true
  | _ => false
def eqFl : AV → AV → Bool
  | .non, .non => true
  | .bl a, .bl b => a == b
  | .bl a, .int b => (if a then 1 else 0) == b
  | .int a, .bl b => a == (if b then 1 else 0)
  | .int a, .int b => a == b
  | .str a, .str b => eqX a b
  | _, _ => false
def eqB (h : AH) (a b : AV) : Option Bool := match toD h DP a, toD h DP b with
  | some d, some e => (match SeqAt.shaped d && SeqAt.shaped e with
    | true => some (PyData.eqv d e)
    | false => none)
  | _, _ => none
/-- a dict of one flat value, and itself -/
def dicS (h : AH) (i j : Nat) : Bool := Nat.beq i j && (match h[i]? with
  | some (.dic false [(_, v)]) => flat v
  | _ => false)
def eqA (h : AH) (a b : AV) : Option Bool := match a, b with
  | .int i, .int j => some (i == j)
  | .str s, .str t => some (eqX s t)
  | .bl i, .bl j => some (i == j)
  | .non, .non => some true
  | .ref i, .ref j => (match dicS h i j with
    | true => some true
    | false => eqB h (.ref i) (.ref j))
  | _, _ => eqB h a b
def anyFl (x : AV) : List AV → Bool
  | [] => false
  | y :: r => eqFl y x || anyFl x r
/-- x in these items of a list, of a tuple -/
def inL (h : AH) (x : AV) (ys : List AV) : Option Bool := match flat x && ys.all flat with
  | true => some (anyFl x ys)
  | false => (match toD h DP x, toD.toDs (toD h DP) ys with
    | some d, some ds => (match SeqAt.shaped d && SeqAt.shaped (.list ds) with
      | true => some (ds.any fun z => PyData.eqv z d)
      | false => none)
    | _, _ => none)
def inTp (x : AV) (ys : List AV) : Option Bool := match flat x && ys.all flat with
  | true => some (anyFl x ys)
  | false => none
/-- a < b of ints, of texts, of tuples and lists of ints -/
def ltA (h : AH) : AV → AV → Option Bool
  | .int i, .int j => some (decide (i < j))
  | .str s, .str t => some (ltT s t)
  | _, _ => none
def truth (h : AH) : AV → Option Bool
  | .non => some false
  | .bl b => some b
  | .int i => some (i != 0)
  | .str s => (match Nat.ble s.length 16777216 with
    | true => some (!s.isEmpty)
    | false => none)
  | .tup xs => some (!xs.isEmpty)
  | .ref i => (match h[i]? with
    | some (.lst xs) => some (!xs.isEmpty)
    | some (.flst xs) => some (!xs.isEmpty)
    | some (.dic false kvs) => some (!kvs.isEmpty)
    | _ => none)
  | .wd _ => none
def notO (o : Option Bool) : Option Bool := match o with
  | some b => some (!b)
  | none => none
/-! ### places -/
def ixA (n : Nat) (i : Int) : Option Nat := if 0 ≤ i then (if i < n then some i.toNat else none) else if -(n : Int) ≤ i then some (i + n).toNat else none
def clipA (n d : Nat) : Option Int → Nat
  | none => d
  | some v => if v < 0 then (v + (n : Int)).toNat else min v.toNat n
def cutA {α : Type} (xs : List α) (lo hi : Option Int) : List α := (xs.drop (clipA xs.length 0 lo)).take (clipA xs.length xs.length hi - clipA xs.length 0 lo)
def SZ : Nat := 16777216
def okL {α : Type} (xs : List α) : Bool := Nat.ble xs.length SZ
def newO (o : AO) (h : AH) : Rs AV := .ok (.ref h.length) (h ++ [o])
def newL (xs : List AV) (h : AH) : Rs AV := match okL xs with
  | true => newO (.lst xs) h
  | false => .bad
/-- the items of a list or tuple -/
def itemsA (h : AH) : AV → Option (List AV)
  | .tup xs => some xs
  | .ref i => (match h[i]? with
    | some (.lst xs) => some xs
    | some (.flst xs) => some xs
    | _ => none)
  | _ => none
def intA : AV → Option Int
  | .int i => some i
  | _ => none
def strA : AV → Option Tx
  | .str s => some s
  | _ => none
def strsA : List AV → Option (List Tx)
  | [] => some []
  | .str s :: r => (match strsA r with
    | some q => some (s :: q)
    | none => none)
  | _ :: _ => none
def intsA : List AV → Option (List Int)
  | [] => some []
  | .int s :: r => (match intsA r with
    | some q => some (s :: q)
    | none => none)
  | _ :: _ => none
def blsA : List AV → Option (List Bool)
  | [] => some []
  | .bl s :: r => (match blsA r with
    | some q => some (s :: q)
    | none => none)
  | _ :: _ => none
def insT (x : Tx) : List Tx → List Tx
  | [] => [x]
  | y :: r => if ltT y x then y :: insT x r else x :: y :: r
def srtT : List Tx → List Tx
  | [] => []
  | x :: r => insT x (srtT r)
def insI (x : Int) : List Int → List Int
  | [] => [x]
  | y :: r => if y < x then y :: insI x r else x :: y :: r
def srtI : List Int → List Int
  | [] => []
  | x :: r => insI x (srtI r)
def keysA (h : AH) : AV → Option (List AV)
  | .ref i => (match h[i]? with
    | some (.dic _ kvs) => some (kvs.map fun q => avK q.1)
    | _ => none)
  | _ => none
def sortA (xs : List AV) : Option (List AV) := match xs with
  | [] => some []
  | .int _ :: _ => (match intsA xs with
    | some is => some ((srtI is).map .int)
    | none => none)
  | _ => (match strsA xs with
    | some ss => some ((srtT ss).map .str)
    | none => none)
def small (i : Int) : Bool := decide (-18446744073709551616 < i) && decide (i < 18446744073709551616)

/-! ### operators -/
def binA (o : Bop) (a b : AV) (h : AH) : Rs AV := match o, a, b with
  | .add, .int i, .int j => .ok (.int (i + j)) h
  | .sub, .int i, .int j => .ok (.int (i - j)) h
  | .mul, .int i, .int j => (match small i || small j with
    | true => .ok (.int (i * j)) h
    | false => .bad)
  | .fdiv, .int i, .int j => (match decide (0 < j) && decide (j < 1073741824) with
    | true => .ok (.int (i / j)) h
    | false => .bad)
  | .mod, .int i, .int j => (match decide (0 < j) with
    | true => .ok (.int (i % j)) h
    | false => .bad)
  | .pow, .int i, .int j => (match decide (0 ≤ j) && (decide (j ≤ 1000000) && small i) with
    | true => .ok (.int (i ^ j.toNat)) h
    | false => .bad)
  | .add, .str s, .str t => (match Nat.ble (s.length + t.length) SZ with
    | true => .ok (.str (s ++ t)) h
    | false => .bad)
  | .add, .tup xs, .tup ys => (match okL xs && (okL ys && okL (xs ++ ys)) with
    | true => .ok (.tup (xs ++ ys)) h
    | false => .bad)
  | .add, .ref i, .ref j => (match h[i]?, h[j]? with
    | some (.lst xs), some (.lst ys) => newL (xs ++ ys) h
    | _, _ => .bad)
  | .mul, .ref i, .int k => (match h[i]? with
    | some (.lst xs) => (match decide (-9223372036854775808 ≤ k) && (decide (k < 9223372036854775808) && Nat.ble (xs.length * k.toNat) SZ) with
      | true => newO (.lst (List.replicate k.toNat xs).flatten) h
      | false => .bad)
    | _ => .bad)
  | _, _, _ => .bad
/-- in place: whole numbers -/
def ipA (o : Bop) (a b : AV) (h : AH) : Rs AV := match o, a, b with
  | .add, .int i, .int j => .ok (.int (i + j)) h
  | .sub, .int i, .int j => .ok (.int (i - j)) h
  | _, _, _ => .bad
def inOf (h : AH) (x c : AV) : Option Bool := match c with
  | .str t => (match x with
    | .str [c] => some (t.any (Nat.beq c))
    | _ => none)
  | .tup ys => inTp x ys
  | .ref i => (match h[i]? with
    | some (.lst ys) => inL h x ys
    | some (.dic _ kvs) => (match keyOf x with
      | some k => some (getK k kvs).isSome
      | none => none)
    | _ => none)
  | _ => none
def isA (a b : AV) : Option Bool := match b with
  | .non => (match a with
    | .non => some true
    | _ => some false)
  | .bl c => (match a with
    | .bl d => some (c == d)
    | .non => some false
    | .int _ => some false
    | .str _ => some false
    | _ => none)
  | _ => none
def ordA (o : Cop) (a b : AV) : Option Bool := match a, b with
  | .int i, .int j => (match o with
    | .lt => some (decide (i < j))
    | .le => some (decide (i ≤ j))
    | .gt => some (decide (j < i))
    | .ge => some (decide (j ≤ i))
    | _ => none)
  | .str s, .str t => (match o with
    | .lt => some (ltT s t)
    | .le => some (!ltT t s)
    | .gt => some (ltT t s)
    | .ge => some (!ltT s t)
    | _ => none)
  | _, _ => none
def wdIn (W : List (List (Tx × AV))) (x c : AV) : Option Bool := match c, x with
  | .wd i, .str s => (match W[i]? with
    | some kvs => some (kvs.any fun q => eqX q.1 s)
    | none => none)
  | _, _ => none
def wdGet (W : List (List (Tx × AV))) (i : Nat) (s : Tx) : Option AV := match W[i]? with
  | some kvs => (match kvs.find? fun q => eqX q.1 s with
    | some q => some q.2
    | none => none)
  | none => none
def orO (a b : Option Bool) : Option Bool := match a with
  | some x => some x
  | none => b
def cmpA (W : List (List (Tx × AV))) (h : AH) (o : Cop) (a b : AV) : Option Bool := match o with
  | .eq => eqA h a b
  | .ne => notO (eqA h a b)
  | .is => isA a b
  | .isn => notO (isA a b)
  | .inn => orO (inOf h a b) (wdIn W a b)
  | .nin => notO (orO (inOf h a b) (wdIn W a b))
  | _ => ordA o a b
def bO (o : Option Bool) (h : AH) : Rs AV := match o with
  | some b => .ok (.bl b) h
  | none => .bad
def vO (o : Option AV) (h : AH) : Rs AV := match o with
  | some b => .ok b h
  | none => .bad
def getA (W : List (List (Tx × AV))) (o i : AV) (h : AH) : Rs AV := match o, i with
  | .tup xs, .int k => vO ((ixA xs.length k).bind fun j => xs[j]?) h
  | .str s, .int k => (match okL s with
    | true => vO ((ixA s.length k).bind fun j => (s[j]?).map fun c => .str [c]) h
    | false => .bad)
  | .ref a, k => (match h[a]?, k with
    | some (.lst xs), .int k => vO ((ixA xs.length k).bind fun j => xs[j]?) h
    | some (.flst xs), .int k => vO ((ixA xs.length k).bind fun j => xs[j]?) h
    | some (.dic _ kvs), k => (match keyOf k with
      | some k => vO (getK k kvs) h
      | none => .bad)
    | _, _ => .bad)
  | .wd i, .str s => vO (wdGet W i s) h
  | _, _ => .bad
def optP (e : E) (v : AV) : Option (Option Int) := match e with
  | .no => some none
  | _ => (match v with
    | .int i => some (some i)
    | _ => none)
def sliceA (o : AV) (lo hi : Option (Option Int)) (h : AH) : Rs AV := match lo, hi with
  | some l, some r => (match o with
    | .str s => (match okL s with
      | true => .ok (.str (cutA s l r)) h
      | false => .bad)
    | .tup xs => .ok (.tup (cutA xs l r)) h
    | .ref a => (match h[a]? with
      | some (.lst xs) => newL (cutA xs l r) h
      | _ => .bad)
    | _ => .bad)
  | _, _ => .bad
def setA (o i v : AV) (h : AH) : Rs Unit := match o with
  | .ref a => (match h[a]?, i with
    | some (.lst xs), .int k => (match ixA xs.length k with
      | some j => .ok () (h.set a (.lst (xs.set j v)))
      | none => .bad)
    | some (.dic false kvs), k => (match keyOf k, Nat.blt kvs.length SZ with
      | some k, true => .ok () (h.set a (.dic false (putK k v kvs)))
      | _, _ => .bad)
    | _, _ => .bad)
  | _ => .bad
def fldA (o : AV) (f : Nat) (h : AH) : Rs AV := match o with
  | .ref a => (match h[a]? with
    | some (.ins _ fs) => vO (getF f fs) h
    | some (.exc _ (some j)) => (match h[j]? with
      | some (.xdo fs) => vO (getF f fs) h
      | _ => .bad)
    | _ => .bad)
  | _ => .bad
def setFA (o : AV) (f : Nat) (v : AV) (h : AH) : Rs Unit := match o with
  | .ref a => (match h[a]? with
    | some (.ins c fs) => (match Nat.blt fs.length 900 with
      | true => .ok () (h.set a (.ins c (putF f v fs)))
      | false => .bad)
    | _ => .bad)
  | _ => .bad

/-! ### builtins -/
def lenA (h : AH) : AV → Option Nat
  | .str s => (match okL s with
    | true => some s.length
    | false => none)
  | .tup xs => some xs.length
  | .ref i => (match h[i]? with
    | some (.lst xs) => some xs.length
    | some (.flst xs) => some xs.length
    | some (.dic _ kvs) => some kvs.length
    | _ => none)
  | _ => none
def digsV (s : Tx) : Nat := s.foldl (fun n c => n * 10 + (c - 48)) 0
def isDig (c : Nat) : Bool := Nat.ble 48 c && Nat.ble c 57
/-- a text of figures alone -/
def intOfT (s : Tx) : Option Int := match s with
  | [] => none
  | c :: r => (match Nat.ble (c :: r).length 600 && (c :: r).all isDig with
    | true => some (.ofNat (digsV (c :: r)))
    | false => none)
def listA (h : AH) : AV → Option (List AV)
  | .ref i => (match h[i]? with
    | some (.lst xs) => some xs
    | some (.flst xs) => some xs
    | _ => none)
  | _ => none
def maxI : Int → List Int → Int
  | m, [] => m
  | m, j :: r => maxI (if j > m then j else m) r
def bltA (b : Bi) (as : List AV) (h : AH) : Rs AV := match b with
  | .len => (match as with
    | [a] => (match lenA h a with
      | some n => .ok (.int n) h
      | none => .bad)
    | _ => .bad)
  | .min2 => (match as with
    | [.int i, .int j] => .ok (.int (if j < i then j else i)) h
    | _ => .bad)
  | .max2 => (match as with
    | [.int i, .int j] => .ok (.int (if j > i then j else i)) h
    | _ => .bad)
  | .abs => (match as with
    | [.int i] => .ok (.int (if i < 0 then -i else i)) h
    | _ => .bad)
  | .all => (match as with
    | [a] => (match listA h a with
      | some xs => (match blsA xs with
        | some bs => .ok (.bl (bs.all id)) h
        | none => .bad)
      | none => .bad)
    | _ => .bad)
  | .any => (match as with
    | [a] => (match listA h a with
      | some xs => (match blsA xs with
        | some bs => .ok (.bl (bs.any id)) h
        | none => .bad)
      | none => .bad)
    | _ => .bad)
  | .sorted => (match as with
    | [a] => (match (match listA h a with | some xs => some xs | none => keysA h a) with
      | some xs => (match Nat.blt xs.length 64, sortA xs with
        | true, some ys => newL ys h
        | _, _ => .bad)
      | none => .bad)
    | _ => .bad)
  | .sortedR => (match as with
    | [a] => (match (match listA h a with | some xs => some xs | none => keysA h a) with
      | some xs => (match Nat.blt xs.length 64, sortA xs with
        | true, some ys => newL ys.reverse h
        | _, _ => .bad)
      | none => .bad)
    | _ => .bad)
  | .int => (match as with
    | [.int i] => .ok (.int i) h
    | [.bl b] => .ok (.int (if b then 1 else 0)) h
    | [.str s] => (match intOfT s with
      | some i => .ok (.int i) h
      | none => .bad)
    | _ => .bad)
  | .str => (match as with
    | [.int (.ofNat n)] => (match Nat.blt n 18446744073709551616 with
      | true => .ok (.str (natT n)) h
      | false => .bad)
    | [.str s] => .ok (.str s) h
    | [.ref i] => (match h[i]? with
      | some (.exc x _) => .ok (.str x.msg) h
      | _ => .bad)
    | _ => .bad)
  | .list => (match as with
    | [a] => (match itemsA h a with
      | some xs => newL xs h
      | none => (match keysA h a with
        | some xs => newL xs h
        | none => .bad))
    | _ => .bad)
  | .tuple => (match as with
    | [a] => (match itemsA h a with
      | some xs => (match okL xs with
        | true => .ok (.tup xs) h
        | false => .bad)
      | none => .bad)
    | _ => .bad)
  | .dict => (match as with
    | [.ref i] => (match h[i]? with
      | some (.dic _ kvs) => newO (.dic false kvs) h
      | _ => .bad)
    | _ => .bad)
  | .maxl => (match as with
    | [a] => (match listA h a with
      | some xs => (match intsA xs with
        | some (i :: r) => .ok (.int (maxI i r)) h
        | _ => .bad)
      | none => .bad)
    | [a, d] => (match listA h a with
      | some xs => (match intsA xs with
        | some (i :: r) => .ok (.int (maxI i r)) h
        | some [] => .ok d h
        | none => .bad)
      | none => .bad)
    | _ => .bad)
  | .sum => (match as with
    | [a] => (match listA h a with
      | some xs => (match intsA xs with
        | some is => .ok (.int is.sum) h
        | none => .bad)
      | none => .bad)
    | _ => .bad)
  | .ordset => .bad
def sumLen : List Tx → Nat
  | [] => 0
  | x :: r => x.length + sumLen r
def strM (m : Bm) (s : Tx) (as : List AV) (h : AH) : Rs AV := match m with
  | .split => (match as with
    | [.str [c]] => (match Nat.blt c 256 && Nat.ble (s.length + 2) SZ with
      | true => newL ((splT c [] s).map .str) h
      | false => .bad)
    | _ => .bad)
  | .join => (match as with
    | [a] => (match itemsA h a with
      | some xs => (match strsA xs with
        | some ss => (match Nat.ble (sumLen ss + ss.length * s.length) SZ with
          | true => .ok (.str (joinT s ss)) h
          | false => .bad)
        | none => .bad)
      | none => .bad)
    | _ => .bad)
  | .startswith => (match as with
    | [.str t] => .ok (.bl (preT t s)) h
    | _ => .bad)
  | .find => (match as with
    | [.str [c]] => .ok (.int (posI (findC c 0 s))) h
    | [.str [c], .int i] => (match decide (0 ≤ i) with
      | true => .ok (.int (posI (findC c i.toNat (s.drop i.toNat)))) h
      | false => .bad)
    | _ => .bad)
  | _ => .bad
def wdM (W : List (List (Tx × AV))) (m : Bm) (i : Nat) (as : List AV) (h : AH) : Rs AV := match m with
  | .get => (match as with
    | [.str s, d] => .ok ((wdGet W i s).getD d) h
    | _ => .bad)
  | _ => .bad
def lstM (m : Bm) (a : Nat) (xs : List AV) (as : List AV) (h : AH) : Rs AV := match m with
  | .append => (match as with
    | [v] => (match Nat.blt xs.length SZ with
      | true => .ok .non (h.set a (.lst (xs ++ [v])))
      | false => .bad)
    | _ => .bad)
  | .pop => (match as with
    | [] => (match xs.getLast? with
      | some v => .ok v (h.set a (.lst xs.dropLast))
      | none => .bad)
    | _ => .bad)
  | .clear => (match as with
    | [] => .ok .non (h.set a (.lst []))
    | _ => .bad)
  | _ => .bad
def dicM (m : Bm) (a : Nat) (lk : Bool) (kvs : List (AK × AV)) (as : List AV) (h : AH) : Rs AV := match m with
  | .get => (match as with
    | [k, d] => (match keyOf k with
      | some k => .ok ((getK k kvs).getD d) h
      | none => .bad)
    | [k] => (match keyOf k with
      | some k => .ok ((getK k kvs).getD .non) h
      | none => .bad)
    | _ => .bad)
  | .pop => (match as with
    | [k] => (match lk, keyOf k with
      | false, some k => (match getK k kvs with
        | some v => .ok v (h.set a (.dic false (dropK k kvs)))
        | none => .bad)
      | _, _ => .bad)
    | [k, d] => (match lk, keyOf k with
      | false, some k => (match getK k kvs with
        | some v => .ok v (h.set a (.dic false (dropK k kvs)))
        | none => .ok d h)
      | _, _ => .bad)
    | _ => .bad)
  | .setdefault => (match as with
    | [k, d] => (match lk, keyOf k with
      | false, some k => (match Nat.blt kvs.length SZ with
        | true => (match getK k kvs with
          | some v => .ok v h
          | none => .ok d (h.set a (.dic false (putK k d kvs))))
        | false => .bad)
      | _, _ => .bad)
    | _ => .bad)
  | _ => .bad
def bmA (W : List (List (Tx × AV))) (m : Bm) (o : AV) (as : List AV) (h : AH) : Rs AV := match o with
  | .str s => strM m s as h
  | .wd i => wdM W m i as h
  | .ref a => (match h[a]? with
    | some (.lst xs) => lstM m a xs as h
    | some (.dic lk kvs) => dicM m a lk kvs as h
    | _ => .bad)
  | _ => .bad
/-- the methods, by the kind of what they are asked of -/
def supB : Bm → Nat → Bool
  | .append, 1 | .pop, 1 | .clear, 1 | .get, 2 | .get, 3 | .split, 0 | .join, 0 | .startswith, 0 | .find, 0 => true
  | _, _ => false
def kd (W : List (List (Tx × AV))) (h : AH) : AV → Option Nat
  | .str _ => some 0
  | .wd i => (match W[i]? with
    | some _ => some 3
    | none => none)
  | .ref i => (match h[i]? with
    | some (.lst _) => some 1
    | some (.dic _ _) => some 2
    | _ => none)
  | _ => none
def tyA (C : List Cl) (h : AH) (v : AV) (t : Ty) : Option Bool := match v with
  | .non => some false
  | .bl _ => some (match t with | .int => true | .bool => true | _ => false)
  | .int _ => some (match t with | .int => true | _ => false)
  | .str _ => some (match t with | .str => true | _ => false)
  | .tup _ => some (match t with | .tuple => true | _ => false)
  | .ref i => (match h[i]? with
    | some (.lst _) => some (match t with | .list => true | _ => false)
    | some (.dic _ _) => some false
    | some (.ins c _) => (match t with
      | .own d => if Nat.beq c d then some true else none
      | _ => none)
    | some (.exc x _) => (match C[x.cls]? with
      | some d => (match t with
        | .own e => some (d.sup.any (Nat.beq e))
        | .exv => some d.told
        | .exl => some (!d.told)
        | _ => none)
      | none => none)
    | _ => none)
  | .wd _ => none
def fmtA : List AV → Option Tx
  | [] => some []
  | .str s :: r => (match fmtA r with
    | some q => some (s ++ q)
    | none => none)
  | .int (.ofNat n) :: r => (match Nat.blt n 18446744073709551616, fmtA r with
    | true, some q => some (natT n ++ q)
    | _, _ => none)
  | _ :: _ => none
/-- key, value, key, value .. -/
def dctA : List AV → List (AK × AV) → Option (List (AK × AV))
  | [], acc => some acc
  | k :: v :: r, acc => (match keyOf k with
    | some k => dctA r (putK k v acc)
    | none => none)
  | _, _ => none
def dctP : List AV → List (AK × AV) → Option (List (AK × AV))
  | [], acc => some acc
  | .tup [k, v] :: r, acc => (match keyOf k with
    | some k => dctP r (putK k v acc)
    | none => none)
  | _, _ => none
def fmtR (acc : Tx) (xs : List AV) (h : AH) : Rs AV := match fmtA xs with
  | some s => (match Nat.ble (acc ++ s).length SZ with
    | true => .ok (.str (acc ++ s)) h
    | false => .bad)
  | none => .bad
/-- each sign but once -/
def nodupT : Tx → Bool
  | [] => true
  | c :: r => !r.any (Nat.beq c) && nodupT r

/-! ### targets -/
def setT : T → AV → Lo → AH → Option Lo
  | .nm i, v, l, _ => some (l.set i (some v))
  | .tp t, v, l, h => (match v with
    | .tup xs => setTs t xs l h
    | _ => none)
  | _, _, _, _ => none
where setTs : T → List AV → Lo → AH → Option Lo
  | .nil, [], l, _ => some l
  | .cons a b, x :: r, l, h => (match setT a x l h with
    | some l2 => setTs b r l2 h
    | none => none)
  | _, _, _, _ => none
termination_by structural t => t
def slots : T → List Nat
  | .nm i => [i]
  | .tp t => slots t
  | .nil => []
  | .cons a b => slots a ++ slots b
def wipeA (l : Lo) : List Nat → Lo
  | [] => l
  | i :: r => (wipeA l r).set i none

/-! ### what is walked -/
inductive Src where
  | fix (xs : List AV)
  | lst (a : Nat)
  | enm (a : Nat)
  | zip (a b : Nat)
  | keys (a : Nat) | vals (a : Nat) | items (a : Nat)
def rngL : Nat → Int → List AV
  | 0, _ => []
  | n + 1, i => .int i :: rngL n (i + 1)
def srcVal (as : List AV) (h : AH) : Option Src := match as with
  | [v] => (match v with
    | .tup xs => some (.fix xs)
    | .str s => some (.fix (s.map fun c => .str [c]))
    | .ref a => (match h[a]? with
      | some (.lst _) => some (.lst a)
      | some (.flst _) => some (.lst a)
      | _ => none)
    | _ => none)
  | _ => none
def srcRng (as : List AV) : Option Src := match as with
  | [.int j] => (match decide (-1000000 < j) && decide (j < 1000000) with
    | true => some (.fix (rngL j.toNat 0))
    | false => none)
  | [.int i, .int j] => (match decide (-1000000 < i) && (decide (i < 1000000) && (decide (-1000000 < j) && decide (j < 1000000))) with
    | true => some (.fix (rngL (j - i).toNat i))
    | false => none)
  | _ => none
def srcZip (as : List AV) (h : AH) : Option Src := match as with
  | [.ref a, .ref b] => (match h[a]?, h[b]? with
    | some (.lst _), some (.lst _) => some (.zip a b)
    | _, _ => none)
  | _ => none
def srcD (f : Nat → Src) (as : List AV) (h : AH) : Option Src := match as with
  | [.ref a] => (match h[a]? with
    | some (.dic _ _) => some (f a)
    | _ => none)
  | _ => none
def srcEnm (as : List AV) (h : AH) : Option Src := match as with
  | [.ref a] => (match h[a]? with
    | some (.lst _) => some (.enm a)
    | _ => none)
  | _ => none
def srcA (k : Ik) (as : List AV) (h : AH) : Option Src := match k with
  | .val => srcVal as h
  | .rng => srcRng as
  | .enum => srcEnm as h
  | .zip => srcZip as h
  | .items => srcD .items as h
  | .vals => srcD .vals as h
  | .keys => srcD .keys as h
/-- the item at a turn: nothing known, no more, or it -/
def itemA (q : Src) (i : Nat) (h : AH) : Option (Option AV) := match q with
  | .fix xs => some xs[i]?
  | .lst a => (match h[a]? with
    | some (.lst xs) => some xs[i]?
    | some (.flst xs) => some xs[i]?
    | _ => none)
  | .enm a => (match h[a]? with
    | some (.lst xs) => some (xs[i]?.map fun v => .tup [.int i, v])
    | _ => none)
  | .zip a b => (match h[a]?, h[b]? with
    | some (.lst xs), some (.lst ys) => (match Nat.beq xs.length ys.length with
      | true => some (match xs[i]?, ys[i]? with
        | some x, some y => some (.tup [x, y])
        | _, _ => none)
      | false => none)
    | _, _ => none)
  | .keys a => (match h[a]? with
    | some (.dic true kvs) => some (kvs[i]?.map fun q => avK q.1)
    | _ => none)
  | .vals a => (match h[a]? with
    | some (.dic true kvs) => some (kvs[i]?.map fun q => q.2)
    | _ => none)
  | .items a => (match h[a]? with
    | some (.dic true kvs) => some (kvs[i]?.map fun q => .tup [avK q.1, q.2])
    | _ => none)
/-- the dict that a walk locks: (where, the heap with it locked), unless it is locked already -/
def lockA (q : Src) (h : AH) : Option (Option Nat × AH) := match q with
  | .keys a | .vals a | .items a => (match h[a]? with
    | some (.dic false kvs) => some (some a, h.set a (.dic true kvs))
    | some (.dic true _) => some (none, h)
    | _ => none)
  | _ => some (none, h)
def unlockA (o : Option Nat) (h : AH) : AH := match o with
  | some a => (match h[a]? with
    | some (.dic _ kvs) => h.set a (.dic false kvs)
    | _ => h)
  | none => h
def WF : Nat := 2000000
/-- a comprehension's loop: what is made so far is acc; step: the item's what is made (or nothing) -/
def loopC (q : Src) (step : AV → AH → List AV → Rs (List AV)) : Nat → Nat → AH → List AV → Rs (List AV)
  | 0, _, _, _ => .bad
  | n + 1, i, h, acc => match itemA q i h with
    | none => .bad
    | some none => .ok acc h
    | some (some v) => (match step v h acc with
      | .ok acc2 h2 => loopC q step n (i + 1) h2 acc2
      | .ex _ _ => .bad
      | .bad => .bad)
def noEx {α : Type} (r : Rs α) : Rs α := match r with
  | .ok a h => .ok a h
  | _ => .bad
def comp (k : Ik) (as : List AV) (h : AH) (step : AV → AH → List AV → Rs (List AV)) (acc : List AV) : Rs (List AV) := match srcA k as h with
  | none => .bad
  | some q => (match lockA q h with
    | none => .bad
    | some (o, h1) => (match loopC q step WF 0 h1 acc with
      | .ok acc h2 => .ok acc (unlockA o h2)
      | _ => .bad))

def addA (acc : List AV) (y : AV) (h : AH) : Rs (List AV) := match Nat.blt acc.length SZ with
  | true => .ok (acc ++ [y]) h
  | false => .bad
abbrev Ca := Nat → List AV → AH → Rs AV
def lookM (T : Tb) (c m : Nat) : Option Nat := match T.cls[c]? with
  | some d => d.meths.lookup m
  | none => none
def clsOf (h : AH) : AV → Option Nat
  | .ref a => (match h[a]? with
    | some (.ins c _) => some c
    | _ => none)
  | _ => none

/-- written arguments, put in the parameters' order -/
def arr (pm : List (Sum Nat AV)) (xs : List AV) : Option (List AV) := match pm with
  | [] => some xs
  | _ => go pm xs
where go : List (Sum Nat AV) → List AV → Option (List AV)
  | [], _ => some []
  | .inl i :: r, xs => (match xs[i]?, go r xs with
    | some x, some q => some (x :: q)
    | _, _ => none)
  | .inr v :: r, xs => (match go r xs with
    | some q => some (v :: q)
    | none => none)
def mkX (C : List Cl) (c : Nat) (as : List AV) : Option AX := match C[c]? with
  | some d => (match d.exc with
    | some (m, [f]) => (match as with
      | [v] => some ⟨c, m, [(f, v)]⟩
      | _ => none)
    | some (m, []) => (match as with
      | [] => some ⟨c, m, []⟩
      | _ => none)
    | _ => none)
  | none => none
/-- an exception's class, asked -/
def isxA (C : List Cl) (x : AX) (t : Ty) : Option Bool := match C[x.cls]? with
  | some d => (match d.exc.isSome, t with
    | true, .own e => some (d.sup.any (Nat.beq e))
    | true, .exv => some d.told
    | true, .exl => some (!d.told)
    | _, _ => none)
  | none => none
def capA (l : Lo) : List Nat → Option (List AV)
  | [] => some []
  | i :: r => (match l[i]?, capA l r with
    | some (some v), some q => some (v :: q)
    | _, _ => none)

/-! ### expressions -/
mutual
def ev (T : Tb) (G : Ca) : E → Lo → AH → Rs AV
  | .var i, l, h => (match l[i]? with
    | some (some v) => .ok v h
    | _ => .bad)
  | .cst v, _, h => .ok v h
  | .bin o a b, l, h => (ev T G a l h).bind fun x h => (ev T G b l h).bind fun y h => binA o x y h
  | .neg a, l, h => (ev T G a l h).bind fun x h => (match x with
    | .int i => .ok (.int (-i)) h
    | _ => .bad)
  | .not a, l, h => (ev T G a l h).bind fun x h => bO (notO (truth h x)) h
  | .and a b, l, h => (ev T G a l h).bind fun x h => (match truth h x with
    | some true => ev T G b l h
    | some false => .ok x h
    | none => .bad)
  | .or a b, l, h => (ev T G a l h).bind fun x h => (match truth h x with
    | some false => ev T G b l h
    | some true => .ok x h
    | none => .bad)
  | .cmp o a b, l, h => (ev T G a l h).bind fun x h => (ev T G b l h).bind fun y h => (match clsOf h x, o with
    | some c, .eq => (match lookM T c 0 with
      | some f => G f [x, y] h
      | none => .bad)
    | _, _ => bO (cmpA T.wds h o x y) h)
  | .chn o o' a b c, l, h => (ev T G a l h).bind fun x h => (ev T G b l h).bind fun y h => (match cmpA T.wds h o x y with
    | some true => (ev T G c l h).bind fun z h => bO (cmpA T.wds h o' y z) h
    | some false => .ok (.bl false) h
    | none => .bad)
  | .ite c a b, l, h => (ev T G c l h).bind fun x h => (match truth h x with
    | some true => ev T G a l h
    | some false => ev T G b l h
    | none => .bad)
  | .tup es, l, h => (evs T G es l h).bind fun xs h => (match okL xs with
    | true => .ok (.tup xs) h
    | false => .bad)
  | .lst es, l, h => (evs T G es l h).bind fun xs h => newL xs h
  | .idx a i, l, h => (ev T G a l h).bind fun x h => (ev T G i l h).bind fun y h => getA T.wds x y h
  | .sl a lo hi, l, h => (ev T G a l h).bind fun x h => (ev T G lo l h).bind fun y h => (match optP lo y with
    | none => .bad
    | some o => (ev T G hi l h).bind fun z h => sliceA x (some o) (optP hi z) h)
  | .fld o f, l, h => (ev T G o l h).bind fun x h => fldA x f h
  | .call f as pm, l, h => (evs T G as l h).bind fun xs h => (match arr pm xs with
    | some ys => G f ys h
    | none => .bad)
  | .new c as pm, l, h => (evs T G as l h).bind fun xs h => (match T.cls[c]?, arr pm xs with
    | some ⟨some f, _, _, _, _⟩, some ys => (G f (.ref h.length :: ys) (h ++ [.ins c []])).bind fun v h2 => (match v with
      | .non => .ok (.ref h.length) h2
      | _ => .bad)
    | _, _ => .bad)
  | .mth o m as pm, l, h => (ev T G o l h).bind fun x h => (match clsOf h x with
    | some c => (match lookM T c m with
      | some f => (evs T G as l h).bind fun xs h => (match arr pm xs with
        | some ys => G f (x :: ys) h
        | none => .bad)
      | none => .bad)
    | none => .bad)
  | .newx c as, l, h => (evs T G as l h).bind fun xs h => (match mkX T.cls c xs with
    | some x => (match x.fs with
      | [] => newO (.exc x none) h
      | _ => .ok (.ref (h.length + 1)) (h ++ [.xdo x.fs] ++ [.exc x (some h.length)]))
    | none => .bad)
  | .isx a t, l, h => (ev T G a l h).bind fun x h => (match x with
    | .ref i => (match h[i]? with
      | some (.exc x none) => bO (isxA T.cls x t) h
      | some (.exc x (some j)) => (match h[j]? with
        | some (.xdo _) => bO (isxA T.cls x t) h
        | _ => .bad)
      | _ => .bad)
    | _ => .bad)
  | .callf o as, l, h => (ev T G o l h).bind fun x h => (evs T G as l h).bind fun xs h => (match x with
    | .ref a => (match h[a]? with
      | some (.clo k cap) => G k (xs ++ cap) h
      | _ => .bad)
    | _ => .bad)
  | .lam k cap, l, h => (match capA l cap with
    | some vs => newO (.clo k vs) h
    | none => .bad)
  | .lsv k a, l, h => (ev T G a l h).bind fun x h => (match x with
    | .ref a => (match h[a]?, k with
      | some (.dic _ kvs), .items => newL (kvs.map fun q => .tup [avK q.1, q.2]) h
      | some (.dic _ kvs), .vals => newL (kvs.map fun q => q.2) h
      | _, _ => .bad)
    | _ => .bad)
  | .blt b as, l, h => (evs T G as l h).bind fun xs h => (match b, xs with
    | .len, [x] => (match clsOf h x with
      | some c => (match lookM T c 1 with
        | some f => G f [x] h
        | none => .bad)
      | none => bltA b xs h)
    | _, _ => bltA b xs h)
  | .bm o m as, l, h => (ev T G o l h).bind fun x h => (match kd T.wds h x with
    | none => .bad
    | some k => (match supB m k with
      | false => .bad
      | true => (evs T G as l h).bind fun xs h => (match kd T.wds h x with
        | none => .bad
        | some k2 => (match Nat.beq k k2 with
          | true => bmA T.wds m x xs h
          | false => .bad))))
  | .isi a ts, l, h => (ev T G a l h).bind fun x h => (match ts with
    | [t] => bO (tyA T.cls h x t) h
    | _ => .bad)
  | .fmt es, l, h => (noEx (evs T G es l h)).bind fun xs h => fmtR [] xs h
  | .dct es, l, h => (evs T G es l h).bind fun xs h => (match Nat.ble xs.length 30, dctA xs [] with
    | true, some kvs => newO (.dic false kvs) h
    | _, _ => .bad)
  | .lenset a, l, h => (ev T G a l h).bind fun x h => (match x with
    | .str s => (match nodupT s && (s.all (fun c => Nat.blt c 128) && Nat.blt s.length 1000) with
      | true => .ok (.int s.length) h
      | false => .bad)
    | _ => .bad)
  | .lc t k as c e, l, h => (evs T G as l h).bind fun xs h => (comp k xs h (fun v h acc => match setT t v (wipeA l (slots t)) h with
      | none => .bad
      | some l2 => (noEx (ev T G c l2 h)).bind fun x h => (match truth h x with
        | some true => (noEx (ev T G e l2 h)).bind fun y h => addA acc y h
        | some false => .ok acc h
        | none => .bad)) []).bind fun acc h => newL acc h
  | .lc2 t k as c t2 k2 as2 c2 e, l, h => (evs T G as l h).bind fun xs h => (comp k xs h (fun v h acc => match setT t v (wipeA (wipeA l (slots t)) (slots t2)) h with
      | none => .bad
      | some l2 => (noEx (ev T G c l2 h)).bind fun x h => (match truth h x with
        | some true => (noEx (evs T G as2 l2 h)).bind fun ys h => comp k2 ys h (fun v h acc => match setT t2 v l2 h with
          | none => .bad
          | some l3 => (noEx (ev T G c2 l3 h)).bind fun x h => (match truth h x with
            | some true => (noEx (ev T G e l3 h)).bind fun y h => addA acc y h
            | some false => .ok acc h
            | none => .bad)) acc
        | some false => .ok acc h
        | none => .bad)) []).bind fun acc h => newL acc h
  | .dc t k as ke ve, l, h => (evs T G as l h).bind fun xs h => (comp k xs h (fun v h acc => match setT t v (wipeA l (slots t)) h with
      | none => .bad
      | some l2 => (noEx (ev T G ke l2 h)).bind fun x h => (noEx (ev T G ve l2 h)).bind fun y h => addA acc (.tup [x, y]) h) []).bind fun acc h => (match dctP acc [] with
        | some kvs => newO (.dic false kvs) h
        | none => .bad)
  | .nil, _, _ => .bad
  | .cons _ _, _, _ => .bad
  | .no, _, h => .ok .non h
def evs (T : Tb) (G : Ca) : E → Lo → AH → Rs (List AV)
  | .nil, _, h => .ok [] h
  | .cons a b, l, h => (ev T G a l h).bind fun x h => (evs T G b l h).bind fun xs h => .ok (x :: xs) h
  | _, _, _ => .bad
end

/-! ### statements -/
def onR {α : Type} (r : Rs α) (l : Lo) (k : α → AH → Fl) : Fl := match r with
  | .ok a h => k a h
  | .ex x h => .ex x l h
  | .bad => .bad
def loopW (cond : Lo → AH → Rs Bool) (body : Lo → AH → Fl) : Nat → Lo → AH → Fl
  | 0, _, _ => .bad
  | n + 1, l, h => match cond l h with
    | .ok true h => (match body l h with
      | .nx l h => loopW cond body n l h
      | .ct l h => loopW cond body n l h
      | .bk l h => .nx l h
      | r => r)
    | .ok false h => .nx l h
    | .ex x h => .ex x l h
    | .bad => .bad
def loopF (q : Src) (step : AV → Lo → AH → Fl) : Nat → Nat → Lo → AH → Fl
  | 0, _, _, _ => .bad
  | n + 1, i, l, h => match itemA q i h with
    | none => .bad
    | some none => .nx l h
    | some (some v) => (match step v l h with
      | .nx l h => loopF q step n (i + 1) l h
      | .ct l h => loopF q step n (i + 1) l h
      | .bk l h => .nx l h
      | r => r)
def starA (a : List Nat) (r : Nat) (b : List Nat) (xs : List AV) (l : Lo) (h : AH) : Fl := match Nat.ble (a.length + b.length) xs.length with
  | true => .nx ((setN b (xs.drop (xs.length - b.length)) ((setN a (xs.take a.length) l).set r (some (.ref h.length))))) (h ++ [.lst ((xs.drop a.length).take (xs.length - a.length - b.length))])
  | false => .bad
where setN : List Nat → List AV → Lo → Lo
  | i :: r, x :: q, l => setN r q (l.set i (some x))
  | _, _, l => l
/-- one target: a name's slot, a field -/
def asgT (T : Tb) (G : Ca) (t : E) (v : AV) (l : Lo) (h : AH) : Fl := match t with
  | .var i => .nx (l.set i (some v)) h
  | .fld o f => onR (ev T G o l h) l fun x h => onR (setFA x f v h) l fun _ h => .nx l h
  | _ => .bad
def asgTs (T : Tb) (G : Ca) : E → List AV → Lo → AH → Fl
  | .nil, [], l, h => .nx l h
  | .cons a b, v :: r, l, h => (match asgT T G a v l h with
    | .nx l h => asgTs T G b r l h
    | q => q)
  | _, _, _, _ => .bad
def cntE : E → Nat
  | .cons _ b => cntE b + 1
  | _ => 0
def isX (C : List Cl) (x : AX) (cs : List Nat) : Bool := match C[x.cls]? with
  | some d => cs.any fun c => d.sup.any (Nat.beq c)
  | none => false
def ungo (l : Lo) : Option Nat → Lo
  | some i => l.set i none
  | none => l
def afterH (r : Fl) (n : Option Nat) : Fl := match r with
  | .nx l h => .nx (ungo l n) h
  | .bk l h => .bk (ungo l n) h
  | .ct l h => .ct (ungo l n) h
  | .ex x l h => .ex x (ungo l n) h
  | q => q
def st (T : Tb) (G : Ca) : S → Option AX → Lo → AH → Fl
  | .nil, _, l, h => .nx l h
  | .seq a b, c, l, h => (match st T G a c l h with
    | .nx l h => st T G b c l h
    | r => r)
  | .ex e, _, l, h => onR (ev T G e l h) l fun _ h => .nx l h
  | .ret e, _, l, h => onR (ev T G e l h) l fun v h => .rt v h
  | .asg t e, _, l, h => onR (ev T G e l h) l fun v h => (match setT t v l h with
    | some l => .nx l h
    | none => .bad)
  | .star a r b e, _, l, h => onR (ev T G e l h) l fun v h => (match itemsA h v with
    | some xs => starA a r b xs l h
    | none => .bad)
  | .setS o i e, _, l, h => onR (ev T G e l h) l fun v h => onR (ev T G o l h) l fun x h => onR (ev T G i l h) l fun y h => onR (setA x y v h) l fun _ h => .nx l h
  | .setF o f e, _, l, h => onR (ev T G e l h) l fun v h => onR (ev T G o l h) l fun x h => onR (setFA x f v h) l fun _ h => .nx l h
  | .augN i p e, _, l, h => (match l[i]? with
    | some (some x) => onR (ev T G e l h) l fun y h => (match x with
      | .ref a => (match p, h[a]?, y with
        | .add, some (.lst xs), .ref b => (match h[b]? with
          | some (.lst ys) => (match Nat.beq a b, okL (xs ++ ys) with
            | false, true => .nx l (h.set a (.lst (xs ++ ys)))
            | _, _ => .bad)
          | _ => .bad)
        | _, _, _ => .bad)
      | _ => onR (ipA p x y h) l fun v h => .nx (l.set i (some v)) h)
    | _ => .bad)
  | .augF o f p e, _, l, h => onR (ev T G o l h) l fun x h => (match clsOf h x with
    | none => .bad
    | some c => onR (fldA x f h) l fun u h => onR (ev T G e l h) l fun y h => onR (ipA p u y h) l fun v h => (match clsOf h x with
      | none => .bad
      | some c2 => (match Nat.beq c c2 with
        | true => onR (setFA x f v h) l fun _ h => .nx l h
        | false => .bad)))
  | .augS o i p e, _, l, h => onR (ev T G o l h) l fun x h => onR (ev T G i l h) l fun k h => onR (getA T.wds x k h) l fun u h => onR (ev T G e l h) l fun y h => (match u with
      | .int _ => onR (ipA p u y h) l fun v h => onR (setA x k v h) l fun _ h => .nx l h
      | _ => .bad)
  | .ite e a b, c, l, h => onR (ev T G e l h) l fun x h => (match truth h x with
    | some true => st T G a c l h
    | some false => st T G b c l h
    | none => .bad)
  | .whl e b, c, l, h => loopW (fun l h => (ev T G e l h).bind fun x h => Rs.ofO (truth h x) h) (fun l h => st T G b c l h) WF l h
  | .for_ t k as b, c, l, h => onR (evs T G as l h) l fun xs h => (match srcA k xs h with
    | none => .bad
    | some q => (match lockA q h with
      | none => .bad
      | some (o, h) => (match loopF q (fun v l h => match setT t v l h with
          | some l => st T G b c l h
          | none => .bad) WF 0 l h, o with
        | .nx l h, o => .nx l (unlockA o h)
        | .rt v h, o => .rt v (unlockA o h)
        | r, none => r
        | _, some _ => .bad)))
  | .wall, _, _, _ => .bad
  | .brk, _, l, h => .bk l h
  | .cnt, _, l, h => .ct l h
  | .pas, _, l, h => .nx l h
  | .asg2 ts e, _, l, h => onR (ev T G e l h) l fun v h => asgTs T G ts (List.replicate (cntE ts) v) l h
  | .tupF ts e, _, l, h => onR (ev T G e l h) l fun v h => (match v with
    | .tup xs => asgTs T G ts xs l h
    | _ => .bad)
  | .rse c as, _, l, h => onR (evs T G as l h) l fun xs h => (match mkX T.cls c xs with
    | some x => .ex x l h
    | none => .bad)
  | .rrs, c, l, h => (match c with
    | some x => .ex x l h
    | none => .bad)
  | .try_ b hs, c, l, h => (match st T G b c l h with
    | .ex x l h => st T G hs (some x) l h
    | r => r)
  | .hnd cs n s hs, c, l, h => (match c with
    | some x => (match isX T.cls x cs with
      | true => (match n with
        | some i => afterH (st T G s (some x) (l.set i (some (.ref h.length))) (h ++ [.exc x none])) n
        | none => st T G s (some x) l h)
      | false => (match hs with
        | .nil => .ex x l h
        | _ => st T G hs c l h))
    | none => .bad)
  | .fin b s, c, l, h => (match st T G b c l h with
    | .nx l h => st T G s c l h
    | .rt v h => (match st T G s c l h with
      | .nx _ h => .rt v h
      | _ => .bad)
    | .ex x l h => (match st T G s c l h with
      | .nx l h => .ex x l h
      | _ => .bad)
    | _ => .bad)

/-! ### calls -/
def pureV : AV → Bool
  | .ref _ => false
  | .tup xs => pureVs xs
  | _ => true
where pureVs : List AV → Bool
  | [] => true
  | x :: r => pureV x && pureVs r
def fin (r : Fl) : Rs AV := match r with
  | .nx _ h => .ok .non h
  | .rt v h => .ok v h
  | .ex x _ h => .ex x h
  | _ => .bad
def start (n : Nat) (as : List AV) : Lo := as.map some ++ List.replicate (n - as.length) none
def run (T : Tb) : Nat → Ca
  | 0, _, _, _ => .bad
  | d + 1, f, as, h => match T.fns[f]? with
    | none => .bad
    | some F => (match Nat.beq as.length F.np with
      | false => .bad
      | true => (match F.pur && pureV.pureVs as with
        | true => (match fin (st T (run T d) F.body none (start F.ns as) []) with
          | .ok v h2 => (match pureV v with
            | true => .ok v h
            | false => (match v with
              | .ref i => (match h2[i]? with
                | some (.lst xs) => (match pureV.pureVs xs with
                  | true => newO (.lst xs) h
                  | false => .bad)
                | _ => .bad)
              | _ => .bad))
          | .ex x _ => (match pureV.pureVs (x.fs.map fun q => q.2) with
            | true => .ex x h
            | false => .bad)
          | .bad => .bad)
        | false => fin (st T (run T d) F.body none (start F.ns as) h)))
end Mm

set_option Elab.async false
set_option linter.all false
set_option maxRecDepth 100000
/-! Exceptions as objects: what stands in the heap. -/
namespace Ms
open PySem PySem.Spec L2
open PyProof.Rows hiding St
abbrev xo (C t : Addr) (d : Option Addr) : Obj := PySem.W.excObj C t d .none
/-- at e: an exception object of the class at C, its args at t, its dict -/
def xob (e C t : Addr) (d : Option Addr) : HO := .ext fun h => h.get? e = some (xo C t d)
/-- what is asked of the class, for its instances to be looked at -/
structure XcL (K : PySem.W.Frag) (C : Addr) : Prop where
  ga : PySem.W.findIn K (.ref C) "__getattribute__" = some (some (.builtin "BaseException.__getattribute__"))
  gg : PySem.W.findIn K (.ref C) "__getattr__" = some none
  ex : PySem.W.subIn K (.ref C) (.type "BaseException") = some true
  hd : PySem.W.hasDictIn K C = true
  st : PySem.W.findIn K (.ref C) "__str__" = some (some (.builtin "BaseException.__str__"))
  cl : (PySem.W.clsIn K C).isSome = true
  ca : PySem.W.findIn K (.ref C) "__class__" = some (some (.builtin "object.__class__"))
  cg : PySem.W.specialIn K (.builtin "object.__class__") "__get__" = some (some (.builtin "getset_descriptor.__get__"))
  tk : PySem.W.takesIn K (.builtin "object.__class__") = some true
  ob : PySem.W.mroIn K C (.type "object") = some true
  nc : PySem.W.findIn K (.ref C) "__class__" = some (some (.builtin "object.__class__"))
section
variable {P : Program} {w : World} {H : Hp} {h : Heap} {e C t : Addr} {d : Option Addr}
theorem xob_ok (he : h.get? e = some (xo C t d)) : ObjOk P w H h e (xob e C t d) := ⟨he, ⟨_, he⟩, fun _ _ z k => k _ z⟩
theorem xob_at (hok : HOk P w H h) (he : H e = some (xob e C t d)) : h.get? e = some (xo C t d) := (hok e _ he).1
theorem xob_own {x : Addr} : xob e C t d ≠ .own x := fun z => nomatch z
theorem xob_tup {xs : List V} : xob e C t d ≠ .tup xs := fun z => nomatch z
theorem xob_frz {o : Obj} {u : HO} : xob e C t d ≠ .frz o u := fun z => nomatch z
theorem xob_tbl {ps : Array Value} : xob e C t d ≠ .tbl ps := fun z => nomatch z
end
end Ms

set_option Elab.async false
set_option linter.all false
set_option maxRecDepth 100000
/-! Exceptions as objects: made, with what was handed to the base's __init__; their fields, text, class. -/
namespace Ms
open PySem PySem.Spec L2
open PyProof.Rows hiding St
/-- what a built-in base is -/
structure Bs where
  nm : String
  new : String
  ini : String
  tl : List Value
structure BsOk (b : Bs) : Prop where
  F : ExcBaseFacts b.nm b.new b.ini b.tl
  st : StoreFacts b.nm b.tl "object.__setattr__" "object"
def bVE : Bs := ⟨"ValueError", "ValueError.__new__", "ValueError.__init__", [.type "ValueError", .type "Exception", .type "BaseException", .type "object"]⟩
def bLE : Bs := ⟨"LookupError", "LookupError.__new__", "LookupError.__init__", [.type "LookupError", .type "Exception", .type "BaseException", .type "object"]⟩
theorem bVE_ok : BsOk bVE := ⟨PySem.F.excBase_ValueError, PySem.F.store_ValueError⟩
theorem bLE_ok : BsOk bLE := ⟨PySem.F.excBase_LookupError, PySem.F.store_LookupError⟩
/-- what the written part says of such a class -/
structure XcC (K : PySem.W.Frag) (C : Addr) (b : Bs) : Prop where
  ok : BsOk b
  q : PySem.W.excInitIn K C b.tl b.new = true
  ov : PySem.W.excOver K C b.tl = true
  hd : (PySem.W.clsIn K C).any (fun cd => cd.hasDict) = true
  sa : PySem.W.findIn K (.ref C) "__setattr__" = some (some (.builtin "object.__setattr__"))
  ex : PySem.W.subIn K (.ref C) (.type "BaseException") = some true
  ty : PySem.W.typeIn K (.ref C) = some (.type "type")
  kp : PySem.W.keepIn K (.ref C) = true
section
variable {prog : Program} {w : World} {A : Around} {R : Result → Shared → Prop} {hp : Heap} {g : Array GenState} {dr : Drawn} {tn : Nat} {os : OsState} {K : PySem.W.Frag} {C x t : Addr} {b : Bs} {name : Str} {tk : Tok} {v : Value}
open PySem.W PySem.Builtin PySem.Builtin.ObjectAttr in
/-- the first store of a field: the dict is made -/
theorem xset_new (T : XcC K C b) (XK : K.In hp) (hx : hp.get? x = some (xo C t none)) (hno : findIn K (.ref C) name = some none)
    (hq : ∀ h' tk' dx, (∀ c o, c ≠ x → hp.get? c = some o → h'.get? c = some o) → hp.objs.size ≤ dx → dx ≠ x → h'.get? x = some (xo C t (some dx)) → h'.Ns1 dx (fun y => if y = name then some v else none) → R (.ok (.ret .none)) ⟨h', g, dr, tk', os⟩) :
    codeAny (model prog w) A (.call (.builtin "object.__setattr__") ⟨[.ref x, .str name tk, v], []⟩) R ⟨hp, g, dr, tn, os⟩ := by
  have J : InstAt hp x (xo C t none) C none := ⟨hx, rfl, rfl, trivial⟩
  have far : x ≠ hp.objs.size := Nat.ne_of_lt (Heap.lt_size hx)
  obtain ⟨cd, hc, hdt⟩ := any_some T.hd
  have hdt : cd.hasDict = true := hdt
  have seen : Looks (model prog w) hp (classData C) cd := looks_clsIn XK hc
  refine osa_openX T.ok.st XK J T.ov (r := none) (by unfold takerIn; rw [hno]; rfl) fun bb => ?_
  dsimp only
  obtain ⟨nm, bs, mro, ns, qn, hd, sn, sb, ab, col, del⟩ := cd
  dsimp only at hdt
  subst hdt
  unfold storeInOwnDict ownDictForStores
  repeat (first | with_reducible refine PySem.HandSPX.store_in_new ?_ ?_ | with_reducible refine wpAny_loadPart_at hx ?_ | with_reducible refine seen.at ?_ | wp_step)
  · exact ⟨_, #[], _, (Heap.get?_update_ne _ _ _ _ far.symm).trans (Heap.get?_push_at rfl rfl), rfl, fun e he => absurd he (by simp), fun _ => rfl⟩
  · intro h' tk' hn' same
    have there : (hp.push { cls := .type "dict", data := .dict #[] }).get? x = some (xo C t none) := Heap.get?_push_of_some _ hx
    refine hq h' tk' hp.objs.size (fun c o hc ho => ?_) (Nat.le_refl _) far.symm ?_ hn'
    · exact (same.2 c (Nat.ne_of_lt (Heap.lt_size ho))).trans ((Heap.get?_update_ne _ _ _ _ hc).trans (Heap.get?_push_of_some _ ho))
    · exact (same.2 x far).trans (Heap.get?_update_self _ there rfl)
/-- the base's __init__: what is handed becomes the args -/
theorem xini_base (T : XcC K C b) (XK : K.In hp) {rest : List Value} (he : hp.get? x = some (xo C t none)) (hr : rest.length ≤ sizeLine)
    (hq : ∀ h', (∀ c o, c ≠ x → hp.get? c = some o → h'.get? c = some o) → h'.get? x = some (xo C hp.objs.size none) → h'.get? hp.objs.size = some (PySem.W.kdv_tup rest) → R (.ok (.ret .none)) ⟨h', g, dr, tn, os⟩) :
    codeAny (model prog w) A (.call (.builtin b.ini) ⟨.ref x :: rest, []⟩) R ⟨hp, g, dr, tn, os⟩ := by
  obtain ⟨nm, N, qn, bs, bm, hdct, sn, sub, ab, col, dd, k0, k1, k2, k3, k5, hC, hT⟩ := PySem.W.excInit_of XK T.q
  have F := T.ok.F
  refine codeAny_call_builtin F.init.plain F.initEntry (PySem.HandSPX.check_init_own F hT hC he rfl ?_)
  wp_walk
  have far : x ≠ hp.objs.size := Nat.ne_of_lt (Heap.lt_size he)
  refine hq _ (fun c o hc ho => ?_) ?_ ?_
  · rw [Heap.get?_update_other _ _ (Ne.symm hc)]
    exact Heap.get?_push_of_some _ ho
  · rw [Heap.get?_update_self _ (Heap.get?_push_of_some _ he) rfl]
    rfl
  · rw [Heap.get?_update_other _ _ far]
    exact Heap.get?_push_at rfl rfl
end
end Ms

set_option Elab.async false
set_option linter.all false
set_option maxRecDepth 100000
/-! Exceptions as objects: the states. -/
namespace Ms
open PySem PySem.Spec L2
open PyProof.Rows hiding St
section
variable {X : Cx} {pins : List (Addr × Obj)} {σ : L2.St} {H : Hp} {s : Shared} {a C t : Addr} {d : Option Addr} {b : Bs}
theorem apart {H : Hp} {p q : Addr} {o u : HO} (hp : H p = some o) (hq : H q = some u) (ne : o ≠ u) : q ≠ p := fun z => by
  subst z
  rw [hp] at hq
  exact ne (Option.some.inj hq)
/-- the exception's object is written, a new object laid -/
theorem two_new {h' : Heap} {tk' : Nat} {n t' : Addr} {d' : Option Addr} {o : HO} (I : Inv X pins σ H s) (e : H a = some (xob a C t d)) (fresh : s.heap.objs.size ≤ n) (far : n ≠ a) (k : ∀ c u, c ≠ a → s.heap.get? c = some u → h'.get? c = some u)
    (hx : h'.get? a = some (xo C t' d')) (new : ∀ H' : Hp, ObjOk X.prog X.w H' h' n o) : Inv X pins σ (upd (upd H n o) a (xob a C t' d')) { s with heap := h', toks := tk' } := by
  have hn : H n = none := I.hok.fresh fresh
  have other : ∀ {c : Addr} {u : Obj}, s.heap.get? c = some u → c ≠ n := fun {c u} z => Nat.ne_of_lt (Nat.lt_of_lt_of_le (Heap.lt_size z) fresh)
  have not_a : ∀ {c : Addr}, H c = none → c ≠ a := fun {c} z y => by
    subst y
    rw [e] at z
    cases z
  have changed : Un X.fs [] H (upd (upd H n o) a (xob a C t' d')) s.heap h' := by
    refine ⟨fun c u z y _ _ => k c u (not_a y) z, fun c u z y _ _ => ⟨u.slots, k c u (not_a y) z⟩, fun c u z y _ => ?_, fun c u z _ => ?_, fun c xs z => ?_, fun c u v z => ?_, fun c ps z => ⟨#[], ?_⟩⟩
    · rw [upd_ne (not_a y), upd_ne (other z)]
      exact y
    · rcases Classical.em (c = a) with rfl | y
      · exact ⟨_, hx⟩
      · exact ⟨u, k c u y z⟩
    · rw [upd_ne (apart e z xob_tup), upd_ne (ne_of_none z hn)]
      exact z
    · rw [upd_ne (apart e z xob_frz), upd_ne (ne_of_none z hn)]
      exact z
    · rw [upd_ne (apart e z xob_tbl), upd_ne (ne_of_none z hn), z]
      simp
  refine I.un (t' := tk') changed fun c u z => ?_
  rcases Classical.em (c = a) with rfl | y
  · rw [upd_same] at z
    cases z
    exact xob_ok hx
  · rw [upd_ne y] at z
    rcases Classical.em (c = n) with rfl | y2
    · rw [upd_same] at z
      cases z
      exact new _
    · rw [upd_ne y2] at z
      refine (I.hok c u z).stay (fun c' v hc w => k c' v ?_ w) (fun c' hc => ?_) fun c' xs hc => ?_
      · rcases hc with hc | hc
        · rw [hc]; exact y
        · exact apart e hc xob_own
      · rw [upd_ne (apart e hc xob_own), upd_ne (ne_of_none hc hn)]
        exact hc
      · rw [upd_ne (apart e hc xob_tup), upd_ne (ne_of_none hc hn)]
        exact hc
/-- Base.__init__(self, ..) -/
theorem xini_ok {A : Around} {E : Value → Shared → Prop} {us : List Value} {vs : List V} {Q : Value → Shared → Prop} (T : XcC X.K C b) (I : Inv X pins σ H s) (e : H a = some (xob a C t none)) (r : Vals vs us) (hl : vs.length ≤ 1000)
    (q : ∀ n s', H n = none → n ≠ a → Inv X pins σ (upd (upd H n (.tup vs)) a (xob a C n none)) s' → Q .none s') : wpAny (model X.prog X.w) A (call (.builtin b.ini) (.ref a :: us)) Q E s := by
  have ho := xob_at I.hok e
  obtain ⟨hp, g, dr, tn, os⟩ := s
  have hz : us.length ≤ sizeLine := by
    rw [← r.length, sizeLine_eq]
    omega
  refine wpAny_call (xini_base T I.kIn ho hz fun h' k hx ht => ?_)
  have far : hp.objs.size ≠ a := Ne.symm (Nat.ne_of_lt (Heap.lt_size ho))
  refine q hp.objs.size _ (I.hok.fresh (Nat.le_refl _)) far (two_new (tk' := tn) I e (Nat.le_refl _) far k hx fun H' => ?_)
  refine ⟨by rw [sizeLine_eq]; omega, us, r, _, ht, rfl, ⟨_, rfl⟩⟩
/-- self.f = y -/
theorem xset_ok {A : Around} {E : Value → Shared → Prop} {f : Str} {y : V} {u : Value} {Q : Unit → Shared → Prop} (T : XcC X.K C b) (I : Inv X pins σ H s) (e : H a = some (xob a C t none)) (hno : PySem.W.findIn X.K (.ref C) f = some none) (ry : RelV y u)
    (q : ∀ n s', H n = none → n ≠ a → Inv X pins σ (upd (upd H n (.xd [(f, y)])) a (xob a C t (some n))) s' → Q () s') : wpAny (model X.prog X.w) A (setAttr (.ref a) f u) Q E s := by
  have ho := xob_at I.hok e
  obtain ⟨hp, g, dr, tn, os⟩ := s
  refine PySem.W.set_plain I.kIn (ox := xo C t none) (od := none) ⟨ho, rfl, rfl, trivial⟩ T.sa ?_
  refine xset_new T I.kIn ho hno fun h' tk' dx k dn dne hx hn => ?_
  refine q dx _ (I.hok.fresh dn) dne (two_new (tk' := tk') I e dn dne k hx fun H' => ?_)
  exact ⟨_, hn, relO_put (fs := []) ry fun g => True.intro⟩
end
end Ms

set_option Elab.async false
set_option linter.all false
set_option maxRecDepth 100000
/-! Exceptions as objects: rules. -/
namespace Ms
open PySem PySem.Spec L2
open PyProof.Rows hiding St
/-- Name.__init__ of an own class is the built-in base's -/
structure BiC (K : PySem.W.Frag) (C0 : Addr) (mc : Value) (b : Bs) : Prop where
  sg : PySem.W.specialIn K (.ref C0) "__getattribute__" = some (some (.builtin "type.__getattribute__"))
  rd : PySem.W.readsIn K C0 mc = true
  fc : PySem.W.findCls K (.ref C0) mc "__init__" = some (.val (.builtin b.ini))
/-- Base.__init__(self, 'm') -/
def tXini (K : PySem.W.Frag) (b : Bs) (ta : TA) : TE := fun σ H Q => ta σ H fun vs H1 => ∃ (a C t : Addr) (ws : List V), vs = .ref a :: ws ∧ ws.length ≤ 1000 ∧ XcC K C b ∧ H1 a = some (xob a C t none) ∧ ∀ n, H1 n = none → n ≠ a → Q .non (upd (upd H1 n (.tup ws)) a (xob a C n none))
/-- self.f = e -/
def tXset (K : PySem.W.Frag) (b : Bs) (f : Str) (to te : TE) : TS := fun D σ H => te σ H fun y H1 => to σ H1 fun x H2 => ∃ a C t : Addr, x = .ref a ∧ XcC K C b ∧ PySem.W.findIn K (.ref C) f = some none ∧ H2 a = some (xob a C t none) ∧
  ∀ n, H2 n = none → n ≠ a → D.nx σ (upd (upd H2 n (.xd [(f, y)])) a (xob a C t (some n)))
/-- C(e, ..) -/
def tXmk (C : Addr) (sp : Sp) (ta : TA) : TE := fun σ H Q => ta σ H fun vs H1 => vs.length ≤ 1000 ∧ ∀ a t, H1 a = none → H1 t = none → t ≠ a → sp (.ref a :: vs) (upd (upd H1 t (.tup vs)) a (xob a C t none)) (fun v H2 => v = .non ∧ Q (.ref a) H2) (fun _ _ _ => False)
section
variable {X : Cx} {o e : Expr} {es : List Expr} {to te : TE} {ta : TA} {f x : Str} {p p' p1 p2 pos : Pos} {b : Bs} {C C0 fI : Addr}
theorem pe_xini {pl : Sem Bool} {mc : Value} (hg : Gl X x) (hm : X.mg x = some (.ref C0)) (B : BiC X.K C0 mc b) (hbi : PySem.W.handedIn (.builtin b.ini) = true) (ha : PA X (e :: es) ta) (hdb : (x == ("__debug__" : Str)) = false)
    (hc : eval (.Call (.Attribute (.Name x p1) "__init__" p2) (e :: es) [] pos) X.env = (do
      let ov ← eval (.Name x p1) X.env
      standAt p2.atName
      let (f, first) ← holding [ov] (getMethod ov "__init__" pl)
      callWith pos f first (backTo pos (starEach (e :: es) X.env)) (backToKw pos (keywordEach [] X.env))) := by rfl)
    (he : starEach (e :: es) X.env = (false, eval e X.env) :: starEach es X.env := by rfl) (hpl : (backTo pos (starEach es X.env)).any (·.1) = false := by rfl) :
    PE X (.Call (.Attribute (.Name x p1) "__init__" p2) (e :: es) [] pos) (tXini X.K b ta) := by
  refine ⟨fun pins s σ H Q I h => ?_⟩
  refine PySem.W.methodCall_KW (ld_glob I hg hm ?_ hdb) hc
  refine PySem.W.method_cls I.kIn B.sg (PySem.W.cls_value I.kIn B.rd B.fc hbi ?_)
  show wpAny _ _ (callWith pos (Value.builtin b.ini) [] (backTo pos (starEach (e :: es) X.env)) []) _ _ _
  refine PyProof.Rows.callWith_method1 (thn (ha.run pos pins _ σ H _ (I.tok _) h) fun us s1 ⟨vs, H1, I1, r1, a, C, t, ws, ev, hl, T, ea, q⟩ => ?_) he hpl
  subst ev
  cases r1 with
  | @cons _ u0 _ ur ra rw' =>
    obtain rfl : u0 = Value.ref a := ra
    exact xini_ok T I1 ea rw' hl fun n s' hn hna J => ⟨.non, _, J, rfl, q n hn hna⟩
theorem ps_xset (ho : PE X o to) (he : PE X e te) (hs : swapsWith e (some (.Attribute o f p')) pos.line X.env = pure false := by rfl) : PS X (.Assign [.Attribute o f p'] e pos) (tXset X.K b f to te) := by
  refine ⟨fun pins s σ H D I h => ?_⟩
  refine plainObj_wpAny_Assign_Attribute (thn (he.run pins s σ H _ I h) fun v s1 ⟨y, H1, I1, r1, q1⟩ => thn (ho.run pins s1 σ H1 _ I1 q1) fun u s2 ⟨w, H2, I2, r2, a, C, t, ew, T, hno, ea, q⟩ => ?_) hs
  subst ew
  obtain rfl : u = Value.ref a := r2
  exact xset_ok T I2 ea hno r1 fun n s' hn hna J => ⟨σ, _, J, q n hn hna⟩
theorem run_xmk {CX : CXT} {k : Nat} {fd : FuncData} {ps : List Str} {sp : Sp} {pins : List (Addr × Obj)} {σ : L2.St} {H : Hp} {s : Shared} {Q : VK} {us : List Value} {vs : List V} (T : XcC X.K C b) (iC : PySem.W.findIn X.K (.ref C) "__init__" = some (some (.ref fI))) (tI : PySem.W.typeIn X.K (.ref fI) = some (.type "function"))
    (F1 : FnOk X.prog X.w X.K X.mg X.base CX k fI fd ps sp) (hr : Room (k + 1) X.A) (hb : Binds X.K fd ps []) (hx : Passes CX X (fun _ _ _ => False)) (I1 : Inv X pins σ H s) (r1 : Vals vs us) (hz : vs.length ≤ 1000)
    (q1 : ∀ a t, H a = none → H t = none → t ≠ a → sp (.ref a :: vs) (upd (upd H t (.tup vs)) a (xob a C t none)) (fun v H2 => v = .non ∧ Q (.ref a) H2) (fun _ _ _ => False)) :
    wpAny (model X.prog X.w) X.A (call (.ref C) us) (EP X pins σ Q) X.xe s := by
  obtain ⟨nm, N, qn, bs, bm, hdct, sn, sub, ab, col, dd, k0, k1, k2, k3, k5, hC, hT⟩ := PySem.W.excInit_of I1.kIn T.q
  obtain ⟨hp, g, dr, tk, os⟩ := s
  have f1 : H (hp.objs.size + 1) = none := I1.hok.fresh (Nat.le_succ _)
  have f2 : H hp.objs.size = none := I1.hok.fresh (Nat.le_refl _)
  have apart12 : hp.objs.size ≠ hp.objs.size + 1 := Nat.ne_of_lt (Nat.lt_succ_self _)
  have hq := q1 (hp.objs.size + 1) hp.objs.size f1 f2 apart12
  have hus : us.length ≤ sizeLine := by
    rw [← r1.length, sizeLine_eq]
    omega
  -- the tuple of what is handed
  have J1 : Inv X pins σ (upd H hp.objs.size (.tup vs)) ⟨hp.push (PySem.W.kdv_tup us), g, dr, tk, os⟩ :=
    I1.laid (t' := tk) (a := hp.objs.size) (o := .tup vs) (h' := hp.push (PySem.W.kdv_tup us)) (fun c u z => Heap.get?_push_of_some _ z) (Nat.le_refl _) ⟨by rw [sizeLine_eq]; omega, us, r1, _, Heap.get?_push_at rfl rfl, rfl, ⟨_, rfl⟩⟩
  have sz : (hp.push (PySem.W.kdv_tup us)).objs.size = hp.objs.size + 1 := by simp [Heap.push]
  have J2 : Inv X pins σ (upd (upd H hp.objs.size (.tup vs)) (hp.objs.size + 1) (xob (hp.objs.size + 1) C hp.objs.size none)) ⟨(hp.push (PySem.W.kdv_tup us)).push (xo C hp.objs.size none), g, dr, tk, os⟩ :=
    J1.laid (t' := tk) (a := hp.objs.size + 1) (o := xob (hp.objs.size + 1) C hp.objs.size none) (h' := (hp.push (PySem.W.kdv_tup us)).push (xo C hp.objs.size none)) (fun c u z => Heap.get?_push_of_some _ z) (Nat.le_of_eq sz) (xob_ok (Heap.get?_push_at sz.symm rfl))
  have r2 : Vals (V.ref (hp.objs.size + 1) :: vs) (Value.ref (hp.objs.size + 1) :: us) := .cons rfl r1
  have hl : (Value.ref (hp.objs.size + 1) :: us).length = ps.length := by
    rw [← F1.len _ _ _ _ hq]
    exact r2.length.symm
  have bd := hb ⟨(hp.push (PySem.W.kdv_tup us)).push (xo C hp.objs.size none), g, dr, tk, os⟩ (Value.ref (hp.objs.size + 1) :: us) J2.kIn (by rw [List.append_nil]; exact hl)
  rw [List.append_nil] at bd
  refine wpAny_call (PySem.HandSPX.call_own T.ok.F hT hC (PySem.W.looks_findIn I1.kIn iC) (fun self => PySem.W.bind_fn I1.kIn self tI) hus
    (codeAny_mono (F1.run _ X.stack _ _ ⟨Value.ref (hp.objs.size + 1) :: us, []⟩ (Value.ref (hp.objs.size + 1) :: us) _ _ (fun _ _ _ => False) (hr.make C us []) (J2.env0.make C us []) bd r2 hq) fun r s' back => ?_))
  cases r with
  | error er => exact hx pins σ _ _ er s' J2 back
  | ok fl =>
    cases fl with
    | ret u =>
      obtain ⟨v, H2, J3, rv, ev, q2⟩ := J2.after back
      subst ev
      exact ⟨rv, ⟨V.ref (hp.objs.size + 1), H2, J3, rfl, q2⟩⟩
    | next => exact back.elim
    | brk => exact back.elim
    | cont => exact back.elim
theorem pe_xmk {CX : CXT} {k : Nat} {fd : FuncData} {ps : List Str} {sp : Sp} (T : XcC X.K C b) (iC : PySem.W.findIn X.K (.ref C) "__init__" = some (some (.ref fI))) (tI : PySem.W.typeIn X.K (.ref fI) = some (.type "function"))
    (F1 : FnOk X.prog X.w X.K X.mg X.base CX k fI fd ps sp) (hr : Room (k + 1) X.A) (hb : Binds X.K fd ps []) (hx : Passes CX X (fun _ _ _ => False)) (hg : Gl X x) (hm : X.mg x = some (.ref C)) (ha : PA X (e :: es) ta)
    (hdb : (x == ("__debug__" : Str)) = false) (he : starEach (e :: es) X.env = (false, eval e X.env) :: starEach es X.env := by rfl) (hpl : (backTo pos (starEach es X.env)).any (·.1) = false := by rfl) :
    PE X (.Call (.Name x p) (e :: es) [] pos) (tXmk C sp ta) := by
  refine ⟨fun pins s σ H Q I h => ?_⟩
  refine wpAny_Call_Name_kw (ld_glob I hg hm ?_ hdb)
  exact PySem.W.callWith_K (h₀ := X.base) I.ok.mod.kin T.kp (thn (ha.run pos pins s σ H _ I h) fun us s1 ⟨vs, H1, I1, r1, hz, q1⟩ => ⟨I1.kIn, run_xmk T iC tI F1 hr hb hx I1 r1 hz q1⟩) he hpl
theorem pe_xmk0 {CX : CXT} {k : Nat} {fd : FuncData} {ps : List Str} {sp : Sp} (T : XcC X.K C b) (iC : PySem.W.findIn X.K (.ref C) "__init__" = some (some (.ref fI))) (tI : PySem.W.typeIn X.K (.ref fI) = some (.type "function"))
    (F1 : FnOk X.prog X.w X.K X.mg X.base CX k fI fd ps sp) (hr : Room (k + 1) X.A) (hb : Binds X.K fd ps []) (hx : Passes CX X (fun _ _ _ => False)) (hg : Gl X x) (hm : X.mg x = some (.ref C))
    (hdb : (x == ("__debug__" : Str)) = false) : PE X (.Call (.Name x p) [] [] pos) (tXmk C sp tNil) := by
  refine ⟨fun pins s σ H Q I h => ?_⟩
  refine wpAny_Call_Name_kw (ld_glob I hg hm ?_ hdb)
  exact PySem.W.callWith_K0 I.kIn T.kp (run_xmk (us := []) T iC tI F1 hr hb hx I .nil h.1 h.2)
end
end Ms

set_option Elab.async false
set_option linter.all false
set_option maxRecDepth 100000
/-! Exceptions as objects: their text, class, fields. -/
namespace Ms
open PySem PySem.Spec L2
open PyProof.Rows hiding St
/-- an exception object, its text's args, its dict -/
def XAt (K : PySem.W.Frag) (H : Hp) (a C : Addr) (m : Str) (d : Option Addr) : Prop := ∃ t, XcL K C ∧ H a = some (xob a C t d) ∧ SqT K H t [.str m]
section
variable {X : Cx} {C a : Addr} {m : Str} {d : Option Addr}
def rXstr (K : PySem.W.Frag) : List V → Hp → VK → Prop := fun xs H Q => ∃ a C m d, xs = [.ref a] ∧ XAt K H a C m d ∧ Q (.str m) H
theorem call_xstr (hu : X.A.units + 2 < cLine) : CallR X (.type "str") (rXstr X.K) := by
  intro pins s σ H xs us Q I r h
  obtain ⟨a, C, m, d, rfl, ⟨t, T, ha, hs⟩, q⟩ := h
  obtain ⟨u, rfl, rfl⟩ := vals1 r
  have ho := xob_at I.hok ha
  obtain ⟨its, rv, ⟨ob, e, c, n, dt⟩, _⟩ := I.tuple hs
  obtain ⟨u, rfl, tk, rfl⟩ := vals1 rv
  exact PySem.P.str_of_C_one hu ⟨I.kIn, _, _, ho, rfl, rfl, rfl⟩ ⟨ob, n, e, c, dt⟩ T.st T.ex ⟨.str m, H, I, ⟨tk, rfl⟩, q⟩
def rXis (K : PySem.W.Frag) : List V → Hp → VK → Prop := fun xs H Q => ∃ (a C : Addr) (m : Str) (d : Option Addr) (c : V) (cv : Value) (b : Bool), xs = [.ref a, c] ∧ XAt K H a C m d ∧ (d = none ∨ ∃ dd fs, d = some dd ∧ H dd = some (.xd fs)) ∧ (∀ u, RelV c u → u = cv) ∧ PySem.W.kitOne K (.ref C) cv = some b ∧ Q (.bl b) H
theorem call_xis : CallR X (.builtin "isinstance") (rXis X.K) := by
  intro pins s σ H xs us Q I r h
  obtain ⟨a, C, m, d, c, cv, b, rfl, ⟨t, T, ha, hs⟩, hd, hcv, e, q⟩ := h
  cases r with
  | cons rx rr =>
    cases rr with
    | cons rt rr =>
      cases rr
      cases rx
      have ec := hcv _ rt
      subst ec
      have ho := xob_at I.hok ha
      have J : ∃ od, PySem.W.InstAt s.heap a (xo C t d) C od := by
        rcases hd with rfl | ⟨dd, fs, rfl, hdd⟩
        · exact ⟨none, ho, rfl, rfl, trivial⟩
        · obtain ⟨mA, hns, hr⟩ := (show ObjOk X.prog X.w H s.heap dd (.xd fs) from I.hok dd _ hdd)
          obtain ⟨od, h1, h2⟩ := lookIn_ns hns
          exact ⟨some od, ho, rfl, rfl, h1⟩
      obtain ⟨od, J⟩ := J
      exact PySem.W.kia_one (PySem.W.kitx_exc T.cl T.ga T.gg T.ex T.ca T.cg T.tk T.ob) I.kIn J e (fun z => nomatch z) fun tk => ⟨.bl b, H, I.kept (t' := tk) fun _ _ z => z, rfl, q⟩
/-- e.f -/
def rXget (K : PySem.W.Frag) (f : Str) (x : V) (H : Hp) (Q : VK) : Prop := ∃ (a C : Addr) (m : Str) (dd : Addr) (fs : List (Str × V)) (v : V), x = .ref a ∧ XAt K H a C m (some dd) ∧ PySem.W.findIn K (.ref C) f = some none ∧ H dd = some (.xd fs) ∧ fs.lookup f = some v ∧ Q v H
theorem get_x {pins : List (Addr × Obj)} {σ : L2.St} {H : Hp} {s : Shared} {f : Str} {x : V} {u : Value} {b : Bool} {Q : VK} {E : Value → Shared → Prop} (I : Inv X pins σ H s) (r : RelV x u) (h : rXget X.K f x H Q) :
    wpAny (model X.prog X.w) X.A (getAttr u f b) (EP X pins σ Q) E s := by
  obtain ⟨a, C, m, dd, fs, v, rfl, ⟨t, T, ha, hs⟩, hno, hdd, l, q⟩ := h
  obtain rfl : u = Value.ref a := r
  have ho := xob_at I.hok ha
  obtain ⟨mA, hns, hr⟩ := (show ObjOk X.prog X.w H s.heap dd (.xd fs) from I.hok dd _ hdd)
  obtain ⟨od, h1, h2⟩ := lookIn_ns hns
  obtain ⟨u, hu, ru⟩ := RelO.some_of (v := v) (o := mA f) (by rw [← l]; exact hr f)
  have J : PySem.W.InstAt s.heap a (xo C t (some dd)) C (some od) := ⟨ho, rfl, rfl, h1⟩
  exact HandSPX.exc_get I.kIn J T.ga T.gg T.ex (PySem.W.findObj_own T.hd hno rfl (by rw [h2, hu])) (handed_of ru) ⟨v, H, I.tok _, ru, q⟩
end
end Ms

set_option Elab.async false
set_option linter.all false
set_option maxRecDepth 100000
/-! What the small machine says is what the text does: the relation, expressions. -/
namespace Ms
open PySem PySem.Spec L2 Mm
open PyProof.Rows hiding St

structure Sg where
  T : Tb
  nm : Nat → Str
  flds : List Nat
  mets : List Nat
  fadr : Nat → Addr
  cadr : Nat → Addr
  wadr : Nat → Addr

mutual
inductive VR (S : Sg) (K : PySem.W.Frag) (ρ : List Addr) (H : Hp) : AV → V → Prop
  | non : VR S K ρ H .non .non
  | bl (b : Bool) : VR S K ρ H (.bl b) (.bl b)
  | int (i : Int) : VR S K ρ H (.int i) (.int i)
  | str (s : Tx) : VR S K ρ H (.str s) (.str (toStr s))
  | tup {xs : List AV} {p : Addr} {vs : List V} : SqT K H p vs → VRs S K ρ H xs vs → VR S K ρ H (.tup xs) (.ref p)
  | ref {i : Nat} {a : Addr} : ρ[i]? = some a → VR S K ρ H (.ref i) (.ref a)
  | wd (i : Nat) : VR S K ρ H (.wd i) (.ref (S.wadr i))
inductive VRs (S : Sg) (K : PySem.W.Frag) (ρ : List Addr) (H : Hp) : List AV → List V → Prop
  | nil : VRs S K ρ H [] []
  | cons {x : AV} {v : V} {xs : List AV} {vs : List V} : VR S K ρ H x v → VRs S K ρ H xs vs → VRs S K ρ H (x :: xs) (v :: vs)
end

def kR : AK → Key
  | .inl i => .inl i
  | .inr s => .inr (toStr s)
inductive KVR (S : Sg) (K : PySem.W.Frag) (ρ : List Addr) (H : Hp) : List (AK × AV) → List (Key × V) → Prop
  | nil : KVR S K ρ H [] []
  | cons {k : AK} {x : AV} {v : V} {xs : List (AK × AV)} {vs : List (Key × V)} : VR S K ρ H x v → KVR S K ρ H xs vs → KVR S K ρ H ((k, x) :: xs) ((kR k, v) :: vs)
inductive FRs (S : Sg) (K : PySem.W.Frag) (ρ : List Addr) (H : Hp) : List (Nat × AV) → List (Str × V) → Prop
  | nil : FRs S K ρ H [] []
  | cons {k : Nat} {x : AV} {v : V} {xs : List (Nat × AV)} {vs : List (Str × V)} : VR S K ρ H x v → FRs S K ρ H xs vs → FRs S K ρ H ((k, x) :: xs) ((S.nm k, v) :: vs)
/-- a class of the text -/
structure CF (S : Sg) (K : PySem.W.Frag) (c : Nat) : Prop where
  cls : Cls K (S.cadr c)
  no : ∀ f ∈ S.flds, NoAttr K (S.cadr c) (S.nm f)
/-- an exception's class of the text -/
structure XF (S : Sg) (K : PySem.W.Frag) (c : Nat) : Prop where
  xl : XcL K (S.cadr c)
  no : ∀ f ∈ S.flds, PySem.W.findIn K (.ref (S.cadr c)) (S.nm f) = some none
def NoTup (H : Hp) (a : Addr) : Prop := ∀ ts, ¬ Rd H a (.tup ts)
def OR (S : Sg) (K : PySem.W.Frag) (ρ : List Addr) (H : Hp) : AO → Addr → Prop
  | .lst xs, a => ∃ vs, H a = some (.lst vs) ∧ VRs S K ρ H xs vs
  | .flst xs, a => NoTup H a ∧ (∃ u, H a = some u) ∧ ∃ vs, SqL K H a vs ∧ VRs S K ρ H xs vs
  | .dic false kvs, a => ∃ q, H a = some (.dK q) ∧ KVR S K ρ H kvs q
  | .dic true kvs, a => ∃ o q, H a = some (.frz o (.dK q)) ∧ KVR S K ρ H kvs q
  | .ins c fs, a => (CF S K c ∧ ∀ p ∈ fs, p.1 ∈ S.flds) ∧ ∃ dx q, H a = some (.ins (S.cadr c) dx q) ∧ FRs S K ρ H fs q
  | .clo _ _, _ => False
  | .exc x j, a => XF S K x.cls ∧ ∃ t d, H a = some (xob a (S.cadr x.cls) t d) ∧ SqT K H t [.str (toStr x.msg)] ∧ ((j = none ∧ d = none) ∨ ∃ i dd, j = some i ∧ d = some dd ∧ ρ[i]? = some dd)
  | .xdo fs, a => (∀ p ∈ fs, p.1 ∈ S.flds) ∧ ∃ q, H a = some (.xd q) ∧ FRs S K ρ H fs q

structure HR (S : Sg) (K : PySem.W.Frag) (ρ : List Addr) (h : AH) (H : Hp) : Prop where
  len : ρ.length = h.length
  nd : ρ.Nodup
  at_ : ∀ (i : Nat) (a : Addr) (o : AO), ρ[i]? = some a → h[i]? = some o → OR S K ρ H o a

structure Ext (ρ : List Addr) (H : Hp) (ρ' : List Addr) (H' : Hp) : Prop where
  pre : ∃ q, ρ' = ρ ++ q
  keep : ∀ b o, H b = some o → b ∉ ρ → H' b = some o
  new : ∀ b ∈ ρ', b ∉ ρ → H b = none

inductive LR (S : Sg) (K : PySem.W.Frag) (ρ : List Addr) (H : Hp) : Lo → St → Prop
  | nil : LR S K ρ H [] []
  | no {l : Lo} {o : Option V} {σ : St} : LR S K ρ H l σ → LR S K ρ H (none :: l) (o :: σ)
  | yes {x : AV} {v : V} {l : Lo} {σ : St} : VR S K ρ H x v → LR S K ρ H l σ → LR S K ρ H (some x :: l) (some v :: σ)

section
variable {S : Sg} {K : PySem.W.Frag} {ρ ρ' ρ'' : List Addr} {H H' H'' : Hp} {h h' : AH}

theorem Ext.refl (ρ : List Addr) (H : Hp) : Ext ρ H ρ H := ⟨⟨[], by simp⟩, fun _ _ e _ => e, fun _ a b => absurd a b⟩
theorem Ext.sub (e : Ext ρ H ρ' H') : ∀ b ∈ ρ, b ∈ ρ' := by
  obtain ⟨q, rfl⟩ := e.pre
  intro b hb
  exact List.mem_append_left _ hb
theorem Ext.trans (a : Ext ρ H ρ' H') (b : Ext ρ' H' ρ'' H'') : Ext ρ H ρ'' H'' := by
  refine ⟨?_, fun c o e n => ?_, fun c hc n => ?_⟩
  · obtain ⟨q, rfl⟩ := a.pre
    obtain ⟨r, rfl⟩ := b.pre
    exact ⟨q ++ r, by simp⟩
  · refine b.keep c o (a.keep c o e n) fun m => ?_
    have z := a.new c m n
    rw [e] at z
    cases z
  · by_cases m : c ∈ ρ'
    · exact a.new c m n
    · cases z : H c with
      | none => rfl
      | some o =>
        have z1 := a.keep c o z n
        have z2 := b.new c hc m
        rw [z1] at z2
        cases z2
theorem Ext.get (e : Ext ρ H ρ' H') {i : Nat} {a : Addr} (h : ρ[i]? = some a) : ρ'[i]? = some a := by
  obtain ⟨q, rfl⟩ := e.pre
  rw [List.getElem?_append_left (List.getElem?_eq_some_iff.mp h).1]
  exact h

theorem Rd.inj {a : Addr} {u u' : HO} (nf : ∀ o v, u ≠ .frz o v) (nf' : ∀ o v, u' ≠ .frz o v) (x : Rd H a u) (y : Rd H a u') : u = u' := by
  rcases x with x | ⟨o, x⟩ <;> rcases y with y | ⟨o', y⟩ <;> rw [x] at y
  · exact Option.some.inj y
  · exact absurd (Option.some.inj y) (nf _ _)
  · exact absurd (Option.some.inj y).symm (nf' _ _)
  · injection Option.some.inj y
theorem notup_of {a : Addr} {u : HO} (e : H a = some u) (n1 : ∀ ts, u ≠ .tup ts) (n2 : ∀ o ts, u ≠ .frz o (.tup ts)) : NoTup H a := by
  intro ts r
  rcases r with r | ⟨o, r⟩ <;> rw [e] at r
  · exact n1 _ (Option.some.inj r)
  · exact n2 _ _ (Option.some.inj r)
theorem OR.notup {o : AO} {a : Addr} (x : OR S K ρ H o a) : NoTup H a := by
  cases o with
  | lst xs => obtain ⟨vs, e, _⟩ := x; exact notup_of e (fun _ z => nomatch z) fun _ _ z => nomatch z
  | flst xs => exact x.1
  | dic lk kvs => cases lk with
    | false => obtain ⟨q, e, _⟩ := x; exact notup_of e (fun _ z => nomatch z) fun _ _ z => nomatch z
    | true => obtain ⟨o, q, e, _⟩ := x; exact notup_of e (fun _ z => nomatch z) fun _ _ z => nomatch z
  | ins c fs => obtain ⟨_, dx, q, e, _⟩ := x; exact notup_of e (fun _ z => nomatch z) fun _ _ z => nomatch z
  | clo _ _ => exact False.elim x
  | exc _ _ => obtain ⟨_, t, d, e, _⟩ := x; exact notup_of e (fun _ z => nomatch z) fun _ _ z => nomatch z
  | xdo _ => obtain ⟨_, q, e, _⟩ := x; exact notup_of e (fun _ z => nomatch z) fun _ _ z => nomatch z
theorem OR.there {o : AO} {a : Addr} (x : OR S K ρ H o a) : ∃ u, H a = some u := by
  cases o with
  | lst xs => obtain ⟨vs, e, _⟩ := x; exact ⟨_, e⟩
  | flst xs => exact x.2.1
  | dic lk kvs => cases lk with
    | false => obtain ⟨q, e, _⟩ := x; exact ⟨_, e⟩
    | true => obtain ⟨o, q, e, _⟩ := x; exact ⟨_, e⟩
  | ins c fs => obtain ⟨_, dx, q, e, _⟩ := x; exact ⟨_, e⟩
  | clo _ _ => exact False.elim x
  | exc _ _ => obtain ⟨_, t, d, e, _⟩ := x; exact ⟨_, e⟩
  | xdo _ => obtain ⟨_, q, e, _⟩ := x; exact ⟨_, e⟩
theorem HR.obj (r : HR S K ρ h H) {i : Nat} {o : AO} (e : h[i]? = some o) : ∃ a, ρ[i]? = some a ∧ OR S K ρ H o a := by
  have hi : i < ρ.length := by rw [r.len]; exact (List.getElem?_eq_some_iff.mp e).1
  exact ⟨ρ[i], List.getElem?_eq_getElem hi, r.at_ i _ o (List.getElem?_eq_getElem hi) e⟩
theorem HR.or_ (r : HR S K ρ h H) {b : Addr} (m : b ∈ ρ) : ∃ (i : Nat) (o : AO), ρ[i]? = some b ∧ h[i]? = some o ∧ OR S K ρ H o b := by
  obtain ⟨i, hi, rfl⟩ := List.mem_iff_getElem.mp m
  have e : h[i]? = some (h[i]'(by rw [← r.len]; exact hi)) := List.getElem?_eq_getElem _
  exact ⟨i, _, List.getElem?_eq_getElem hi, e, r.at_ i _ _ (List.getElem?_eq_getElem hi) e⟩
theorem HR.notup (r : HR S K ρ h H) {b : Addr} (m : b ∈ ρ) : NoTup H b := by
  obtain ⟨i, o, _, _, x⟩ := r.or_ m
  exact x.notup
theorem HR.there (r : HR S K ρ h H) {b : Addr} (m : b ∈ ρ) : ∃ u, H b = some u := by
  obtain ⟨i, o, _, _, x⟩ := r.or_ m
  exact x.there
theorem HR.free (r : HR S K ρ h H) {b : Addr} (e : H b = none) : b ∉ ρ := fun m => by
  obtain ⟨u, z⟩ := r.there m
  rw [e] at z
  cases z
theorem SqT.mono {p : Addr} {vs : List V} (nt : ∀ b ∈ ρ, NoTup H b) (kp : ∀ b o, H b = some o → b ∉ ρ → H' b = some o) (x : SqT K H p vs) : SqT K H' p vs := by
  rcases x with x | x
  · have np : p ∉ ρ := fun m => nt p m _ x
    rcases x with x | ⟨o, x⟩
    · exact .inl (.inl (kp _ _ x np))
    · exact .inl (.inr ⟨o, kp _ _ x np⟩)
  · exact .inr x
mutual
theorem VR.mono' (nt : ∀ b ∈ ρ, NoTup H b) (kp : ∀ b o, H b = some o → b ∉ ρ → H' b = some o) (g : ∀ (i : Nat) (a : Addr), ρ[i]? = some a → ρ'[i]? = some a) : ∀ {x : AV} {v : V}, VR S K ρ H x v → VR S K ρ' H' x v
  | _, _, .non => .non
  | _, _, .bl b => .bl b
  | _, _, .int i => .int i
  | _, _, .str s => .str s
  | _, _, .tup a b => .tup (SqT.mono nt kp a) (VRs.mono' nt kp g b)
  | _, _, .ref e => .ref (g _ _ e)
  | _, _, .wd i => .wd i
theorem VRs.mono' (nt : ∀ b ∈ ρ, NoTup H b) (kp : ∀ b o, H b = some o → b ∉ ρ → H' b = some o) (g : ∀ (i : Nat) (a : Addr), ρ[i]? = some a → ρ'[i]? = some a) : ∀ {x : List AV} {v : List V}, VRs S K ρ H x v → VRs S K ρ' H' x v
  | _, _, .nil => .nil
  | _, _, .cons a b => .cons (VR.mono' nt kp g a) (VRs.mono' nt kp g b)
end
theorem VR.mono {x : AV} {v : V} (r : HR S K ρ h H) (e : Ext ρ H ρ' H') (a : VR S K ρ H x v) : VR S K ρ' H' x v := VR.mono' (fun _ m => r.notup m) e.keep (fun _ _ z => e.get z) a
theorem VRs.mono {x : List AV} {v : List V} (r : HR S K ρ h H) (e : Ext ρ H ρ' H') (a : VRs S K ρ H x v) : VRs S K ρ' H' x v := VRs.mono' (fun _ m => r.notup m) e.keep (fun _ _ z => e.get z) a
theorem KVR.mono {x : List (AK × AV)} {v : List (Key × V)} (r : HR S K ρ h H) (e : Ext ρ H ρ' H') (a : KVR S K ρ H x v) : KVR S K ρ' H' x v := by
  induction a with
  | nil => exact .nil
  | cons a _ ih => exact .cons (a.mono r e) ih
theorem FRs.mono {x : List (Nat × AV)} {v : List (Str × V)} (r : HR S K ρ h H) (e : Ext ρ H ρ' H') (a : FRs S K ρ H x v) : FRs S K ρ' H' x v := by
  induction a with
  | nil => exact .nil
  | cons a _ ih => exact .cons (a.mono r e) ih
theorem LR.mono {l : Lo} {σ : St} (r : HR S K ρ h H) (e : Ext ρ H ρ' H') (a : LR S K ρ H l σ) : LR S K ρ' H' l σ := by
  induction a with
  | nil => exact .nil
  | no _ ih => exact .no ih
  | yes a _ ih => exact .yes (a.mono r e) ih
theorem VRs.length {x : List AV} {v : List V} (a : VRs S K ρ H x v) : x.length = v.length := by
  induction x generalizing v with
  | nil => cases a; rfl
  | cons x xs ih => cases a with
    | cons a b => simp [ih b]
theorem VRs.get {x : List AV} {v : List V} (a : VRs S K ρ H x v) {i : Nat} {y : AV} (e : x[i]? = some y) : ∃ u, v[i]? = some u ∧ VR S K ρ H y u := by
  induction x generalizing v i with
  | nil => simp at e
  | cons x xs ih => cases a with
    | cons a b => cases i with
      | zero => simp at e; subst e; exact ⟨_, rfl, a⟩
      | succ i => simp at e; obtain ⟨u, h1, h2⟩ := ih b e; exact ⟨u, by simpa using h1, h2⟩
theorem VRs.append {x y : List AV} {v u : List V} (a : VRs S K ρ H x v) (b : VRs S K ρ H y u) : VRs S K ρ H (x ++ y) (v ++ u) := by
  induction x generalizing v with
  | nil => cases a; exact b
  | cons x xs ih => cases a with
    | cons a c => exact .cons a (ih c)
theorem VRs.take {x : List AV} {v : List V} (a : VRs S K ρ H x v) : ∀ n, VRs S K ρ H (x.take n) (v.take n) := by
  induction x generalizing v with
  | nil => cases a; intro n; cases n <;> exact .nil
  | cons x xs ih => cases a with
    | cons a c => intro n; cases n with
      | zero => exact .nil
      | succ n => exact .cons a (ih c n)
theorem VRs.drop {x : List AV} {v : List V} (a : VRs S K ρ H x v) : ∀ n, VRs S K ρ H (x.drop n) (v.drop n) := by
  induction x generalizing v with
  | nil => cases a; intro n; cases n <;> exact .nil
  | cons x xs ih => cases a with
    | cons a c => intro n; cases n with
      | zero => exact .cons a c
      | succ n => exact ih c n
theorem VRs.set {x : List AV} {v : List V} {y : AV} {u : V} (a : VRs S K ρ H x v) (b : VR S K ρ H y u) : ∀ n, VRs S K ρ H (x.set n y) (v.set n u) := by
  induction x generalizing v with
  | nil => cases a; intro n; exact .nil
  | cons x xs ih => cases a with
    | cons a c => intro n; cases n with
      | zero => exact .cons b c
      | succ n => exact .cons a (ih c n)
theorem LR.get {l : Lo} {σ : St} (a : LR S K ρ H l σ) {i : Nat} {x : AV} (e : l[i]? = some (some x)) : ∃ v, σ[i]? = some (some v) ∧ VR S K ρ H x v := by
  induction a generalizing i with
  | nil => simp at e
  | no _ ih => cases i with
    | zero => simp at e
    | succ i => simp at e; obtain ⟨v, h1, h2⟩ := ih e; exact ⟨v, by simpa using h1, h2⟩
  | yes a _ ih => cases i with
    | zero => simp at e; subst e; exact ⟨_, rfl, a⟩
    | succ i => simp at e; obtain ⟨v, h1, h2⟩ := ih e; exact ⟨v, by simpa using h1, h2⟩
theorem LR.set {l : Lo} {σ : St} (a : LR S K ρ H l σ) {x : AV} {v : V} (b : VR S K ρ H x v) : ∀ i, LR S K ρ H (l.set i (some x)) (σ.set i (some v)) := by
  induction a with
  | nil => intro i; exact .nil
  | no c ih => intro i; cases i with
    | zero => exact .yes b c
    | succ i => exact .no (ih i)
  | yes d c ih => intro i; cases i with
    | zero => exact .yes b c
    | succ i => exact .yes d (ih i)
theorem LR.unset {l : Lo} {σ : St} (a : LR S K ρ H l σ) {o : Option V} : ∀ i, LR S K ρ H (l.set i none) (σ.set i o) := by
  induction a with
  | nil => intro i; exact .nil
  | no c ih => intro i; cases i with
    | zero => exact .no c
    | succ i => exact .no (ih i)
  | yes d c ih => intro i; cases i with
    | zero => exact .no c
    | succ i => exact .yes d (ih i)
theorem LR.length {l : Lo} {σ : St} (a : LR S K ρ H l σ) : l.length = σ.length := by
  induction a with
  | nil => rfl
  | no _ ih => simp [ih]
  | yes _ _ ih => simp [ih]
theorem OR.mono (r : HR S K ρ h H) (e : Ext ρ H ρ' H') {o : AO} {a : Addr} (x : OR S K ρ H o a) (same : ∀ u, H a = some u → H' a = some u) : OR S K ρ' H' o a := by
  cases o with
  | lst xs => obtain ⟨vs, z, q⟩ := x; exact ⟨vs, same _ z, q.mono r e⟩
  | flst xs =>
    obtain ⟨n, ⟨u, z⟩, vs, q, p⟩ := x
    have z' := same u z
    refine ⟨fun ts t => n ts ?_, ⟨u, z'⟩, vs, ?_, p.mono r e⟩
    · rcases t with t | ⟨o, t⟩ <;> rw [z'] at t <;> cases t
      · exact .inl z
      · exact .inr ⟨_, z⟩
    · rcases q with (q | ⟨o, q⟩) | q
      · exact .inl (.inl (same _ q))
      · exact .inl (.inr ⟨o, same _ q⟩)
      · exact .inr q
  | dic lk kvs => cases lk with
    | false => obtain ⟨q, z, p⟩ := x; exact ⟨q, same _ z, p.mono r e⟩
    | true => obtain ⟨o, q, z, p⟩ := x; exact ⟨o, q, same _ z, p.mono r e⟩
  | ins c fs => obtain ⟨cf, dx, q, z, p⟩ := x; exact ⟨cf, dx, q, same _ z, p.mono r e⟩
  | clo _ _ => exact False.elim x
  | exc _ _ =>
    obtain ⟨xf, t, d, z, s, p⟩ := x
    refine ⟨xf, t, d, same _ z, SqT.mono (fun _ m => r.notup m) e.keep s, ?_⟩
    rcases p with p | ⟨i, dd, z1, p, q⟩
    · exact .inl p
    · exact .inr ⟨i, dd, z1, p, e.get q⟩
  | xdo _ => obtain ⟨k, q, z, p⟩ := x; exact ⟨k, q, same _ z, p.mono r e⟩
/-- a new object of ours -/
theorem HR.push (r : HR S K ρ h H) {p : Addr} (np : H p = none) {u : HO} {o : AO} (x : OR S K (ρ ++ [p]) (upd H p u) o p) : HR S K (ρ ++ [p]) (h ++ [o]) (upd H p u) ∧ Ext ρ H (ρ ++ [p]) (upd H p u) := by
  have hp : p ∉ ρ := r.free np
  have e : Ext ρ H (ρ ++ [p]) (upd H p u) := by
    refine ⟨⟨_, rfl⟩, fun b o hb _ => ?_, fun b hb hn => ?_⟩
    · rw [upd_ne (ne_of_none hb np)]; exact hb
    · rcases List.mem_append.mp hb with m | m
      · exact absurd m hn
      · rw [List.mem_singleton.mp m]; exact np
  refine ⟨⟨by simp [r.len], ?_, fun i a o' h1 h2 => ?_⟩, e⟩
  · rw [List.nodup_append]
    refine ⟨r.nd, by simp, fun a ha b hb => ?_⟩
    rw [List.mem_singleton.mp hb]
    intro z
    exact hp (z ▸ ha)
  · by_cases hi : i < ρ.length
    · rw [List.getElem?_append_left hi] at h1
      rw [List.getElem?_append_left (by rw [← r.len]; exact hi)] at h2
      have y := r.at_ i a o' h1 h2
      refine y.mono r e fun u hu => ?_
      rw [upd_ne (ne_of_none hu np)]; exact hu
    · have hl : ρ.length = i := by
        have z := (List.getElem?_eq_some_iff.mp h1).1
        simp at z
        omega
      subst hl
      rw [List.getElem?_append_right (Nat.le_refl _)] at h1
      rw [List.getElem?_append_right (by rw [r.len]; exact Nat.le_refl _)] at h2
      simp at h1
      simp [r.len] at h2
      subst h1 h2
      exact x
/-- what is not ours is new: a tuple, say -/
theorem HR.side (r : HR S K ρ h H) {p : Addr} (np : H p = none) {u : HO} : HR S K ρ h (upd H p u) ∧ Ext ρ H ρ (upd H p u) := by
  have e : Ext ρ H ρ (upd H p u) := ⟨⟨[], by simp⟩, fun b o hb _ => by rw [upd_ne (ne_of_none hb np)]; exact hb, fun _ a b => absurd a b⟩
  exact ⟨⟨r.len, r.nd, fun i a o h1 h2 => (r.at_ i a o h1 h2).mono r e fun u hu => by rw [upd_ne (ne_of_none hu np)]; exact hu⟩, e⟩
/-- an object of ours is written -/
theorem HR.write (r : HR S K ρ h H) {i : Nat} {p : Addr} (hp : ρ[i]? = some p) {u : HO} {o : AO} (x : (Ext ρ H ρ (upd H p u)) → OR S K ρ (upd H p u) o p) : HR S K ρ (h.set i o) (upd H p u) ∧ Ext ρ H ρ (upd H p u) := by
  have m : p ∈ ρ := List.mem_of_getElem? hp
  have e : Ext ρ H ρ (upd H p u) := ⟨⟨[], by simp⟩, fun b o hb hn => by rw [upd_ne (show b ≠ p from fun z => hn (by rw [z]; exact m))]; exact hb, fun _ a b => absurd a b⟩
  refine ⟨⟨by simp [r.len], r.nd, fun j a o' h1 h2 => ?_⟩, e⟩
  by_cases hj : j = i
  · subst hj
    rw [hp] at h1; cases h1
    have hl : j < h.length := by rw [← r.len]; exact (List.getElem?_eq_some_iff.mp hp).1
    rw [List.getElem?_set_self hl] at h2
    cases h2
    exact x e
  · rw [List.getElem?_set_ne (Ne.symm hj)] at h2
    have na : a ≠ p := by
      intro z
      subst z
      obtain ⟨l1, e1⟩ := List.getElem?_eq_some_iff.mp h1
      obtain ⟨l2, e2⟩ := List.getElem?_eq_some_iff.mp hp
      exact hj ((List.getElem_inj r.nd).mp (e1.trans e2.symm))
    refine (r.at_ j a o' h1 h2).mono r e fun u hu => ?_
    rw [upd_ne na]; exact hu
end

/-! ### answers -/
/-- an exception, as the text has it -/
def XR (S : Sg) (K : PySem.W.Frag) (ρ : List Addr) (H : Hp) (x : AX) (c : Value) (d : Option Addr) : Prop :=
  c = .ref (S.cadr x.cls) ∧ ((x.fs = [] ∧ d = none) ∨ ∃ dd q, d = some dd ∧ H dd = some (.xd q) ∧ FRs S K ρ H x.fs q)
def Ans (S : Sg) (K : PySem.W.Frag) (ρ : List Addr) (H : Hp) {α : Type} (r : Rs α) (k : α → AH → List Addr → Hp → Prop) (e : AX → List Addr → Hp → Prop) : Prop := match r with
  | .ok a h' => ∀ ρ' H', HR S K ρ' h' H' → Ext ρ H ρ' H' → k a h' ρ' H'
  | .ex x h' => ∀ ρ' H', HR S K ρ' h' H' → Ext ρ H ρ' H' → e x ρ' H'
  | .bad => False
section
variable {S : Sg} {K : PySem.W.Frag} {ρ ρ1 : List Addr} {H H1 : Hp} {h h1 : AH} {α β : Type} {r : Rs α} {f : α → AH → Rs β}
theorem Ans.ext {k : α → AH → List Addr → Hp → Prop} {e : AX → List Addr → Hp → Prop} (x : Ext ρ H ρ1 H1) (a : Ans S K ρ H r k e) : Ans S K ρ1 H1 r k e := by
  cases r with
  | ok v h' => exact fun ρ' H' r' e' => a ρ' H' r' (x.trans e')
  | ex v h' => exact fun ρ' H' r' e' => a ρ' H' r' (x.trans e')
  | bad => exact a
theorem Ans.bind {k : β → AH → List Addr → Hp → Prop} {e : AX → List Addr → Hp → Prop} (a : Ans S K ρ H (r.bind f) k e) : Ans S K ρ H r (fun v h1 ρ1 H1 => Ans S K ρ1 H1 (f v h1) k e) e := by
  cases r with
  | ok v h' => exact fun ρ' H' r' e' => Ans.ext e' a
  | ex v h' => exact a
  | bad => exact a
theorem Ans.imp {k k' : α → AH → List Addr → Hp → Prop} {e e' : AX → List Addr → Hp → Prop} (a : Ans S K ρ H r k e) (hk : ∀ v h' ρ' H', HR S K ρ' h' H' → Ext ρ H ρ' H' → k v h' ρ' H' → k' v h' ρ' H')
    (he : ∀ x ρ' H', e x ρ' H' → e' x ρ' H') : Ans S K ρ H r k' e' := by
  cases r with
  | ok v h' => exact fun ρ' H' r' q => hk v h' ρ' H' r' q (a ρ' H' r' q)
  | ex v h' => exact fun ρ' H' r' q => he _ _ _ (a ρ' H' r' q)
  | bad => exact a
theorem Ans.now {v : α} {k : α → AH → List Addr → Hp → Prop} {e : AX → List Addr → Hp → Prop} (r : HR S K ρ h H) (a : Ans S K ρ H (.ok v h) k e) : k v h ρ H := a ρ H r (Ext.refl _ _)
end
/-- the exception's part -/
def eW (S : Sg) (K : PySem.W.Frag) (W : WX) (σ : St) : AX → List Addr → Hp → Prop := fun x ρ' H' => ∀ c d, XR S K ρ' H' x c d → W c d σ H'
def kAv (S : Sg) (K : PySem.W.Frag) (Q : VK) : AV → AH → List Addr → Hp → Prop := fun v _ ρ' H' => ∀ u, VR S K ρ' H' v u → Q u H'
def kAvs (S : Sg) (K : PySem.W.Frag) (Q : List V → Hp → Prop) : List AV → AH → List Addr → Hp → Prop := fun v _ ρ' H' => ∀ u, VRs S K ρ' H' v u → Q u H'
def kU (Q : Hp → Prop) : Unit → AH → List Addr → Hp → Prop := fun _ _ _ H' => Q H'
def tEv (S : Sg) (K : PySem.W.Frag) (d : Nat) (W : WX) (e : E) : TE := fun σ H Q => ∃ ρ h l, HR S K ρ h H ∧ LR S K ρ H l σ ∧ Ans S K ρ H (ev S.T (run S.T d) e l h) (kAv S K Q) (eW S K W σ)
def tEvs (S : Sg) (K : PySem.W.Frag) (d : Nat) (W : WX) (e : E) : TA := fun σ H Q => ∃ ρ h l, HR S K ρ h H ∧ LR S K ρ H l σ ∧ Ans S K ρ H (evs S.T (run S.T d) e l h) (kAvs S K Q) (eW S K W σ)
/-- as a test -/
def tTr (S : Sg) (K : PySem.W.Frag) (d : Nat) (W : WX) (e : E) : TT := fun σ H Q => ∃ ρ h l, HR S K ρ h H ∧ LR S K ρ H l σ ∧
  Ans S K ρ H ((ev S.T (run S.T d) e l h).bind fun x h => Rs.ofO (truth h x) h) (fun b _ _ H' => Q b H') (eW S K W σ)

end Ms
namespace L2
open PySem
theorem PE.imp {X : Cx} {e : Expr} {t t' : TE} (p : PE X e t) (h : ∀ σ H Q, t' σ H Q → t σ H Q) : PE X e t' := ⟨fun pins s σ H Q I q => p.run pins s σ H Q I (h _ _ _ q)⟩
theorem PT.imp {X : Cx} {e : Expr} {t t' : TT} (p : PT X e t) (h : ∀ σ H Q, t' σ H Q → t σ H Q) : PT X e t' := ⟨fun pins s σ H Q I q => p.run pins s σ H Q I (h _ _ _ q)⟩
theorem PW.imp {X : Cx} {e : Expr} {t t' : TT} (p : PW X e t) (h : ∀ σ H Q, t' σ H Q → t σ H Q) : PW X e t' := ⟨fun wh pins s σ H Q I q => p.run wh pins s σ H Q I (h _ _ _ q)⟩
theorem PA.imp {X : Cx} {e : List Expr} {t t' : TA} (p : PA X e t) (h : ∀ σ H Q, t' σ H Q → t σ H Q) : PA X e t' := ⟨fun pos pins s σ H Q I q => p.run pos pins s σ H Q I (h _ _ _ q)⟩
theorem PS.imp {X : Cx} {e : Stmt} {t t' : TS} (p : PS X e t) (h : ∀ D σ H, t' D σ H → t D σ H) : PS X e t' := ⟨fun pins s σ H D I q => p.run pins s σ H D I (h _ _ _ q)⟩
theorem PSs.imp {X : Cx} {e : List Stmt} {t t' : TS} (p : PSs X e t) (h : ∀ D σ H, t' D σ H → t D σ H) : PSs X e t' := ⟨fun pins s σ H D I q => p.run pins s σ H D I (h _ _ _ q)⟩
end L2

set_option Elab.async false
set_option linter.all false
set_option maxRecDepth 100000
/-! Expressions: names, constants, operators, comparisons, truth. -/
namespace Ms
open PySem PySem.Spec L2 Mm
open PyProof.Rows hiding St

/-- all that the text's defs lean on, at a context -/
structure Xk (S : Sg) (d : Nat) (W : WX) (X : Cx) : Prop where
  nd : X.N.Nodup
  calm : X.calm = true
  room : Room (2 * d + 2) X.A
  takes : Takes X W

section
variable {S : Sg} {X : Cx} {d : Nat} {W : WX} {a b c : Expr} {A B C : E} {pos : Pos} {ρ : List Addr} {h : AH} {H : Hp} {l : Lo} {σ : St}

abbrev CE (S : Sg) (X : Cx) (d : Nat) (W : WX) (e : Expr) (E : E) : Prop := PE X e (tEv S X.K d W E)
abbrev CT (S : Sg) (X : Cx) (d : Nat) (W : WX) (e : Expr) (E : E) : Prop := PT X e (tTr S X.K d W E)
abbrev CW (S : Sg) (X : Cx) (d : Nat) (W : WX) (e : Expr) (E : E) : Prop := PW X e (tTr S X.K d W E)
abbrev CA (S : Sg) (X : Cx) (d : Nat) (W : WX) (e : List Expr) (E : E) : Prop := PA X e (tEvs S X.K d W E)

/-- no exception -/
def eN : AX → List Addr → Hp → Prop := fun _ _ _ => False

theorem toStr_str (x : Str) : toStr x.cps.toList = x := by
  obtain ⟨c⟩ := x
  rfl
theorem toStr_list (s : Tx) : (toStr s).cps.toList = s := rfl
theorem toStr_inj {s t : Tx} (e : toStr s = toStr t) : s = t := by
  have z := congrArg (fun q : Str => q.cps.toList) e
  exact z
theorem toStr_length (s : Tx) : (toStr s).length = s.length := by simp [toStr, Str.length]
theorem toStr_append (s t : Tx) : toStr s ++ toStr t = toStr (s ++ t) := by
  apply TL.ext_tl
  rw [TL.tl_append]
  rfl

/-! ### names, constants -/
theorem ce_var {i : Nat} {x : Str} (hN : X.N[i]? = some x) (hv : Vis X.env.scope x) (hd : (x == ("__debug__" : Str)) = false) (hcd : (x == ("__classdict__" : Str)) = false) : CE S X d W (.Name x pos) (.var i) := by
  refine (pe_var hN hv hd hcd).imp fun σ H Q ⟨ρ, h, l, r, lr, q⟩ => ?_
  unfold ev at q
  cases e : l[i]? with
  | none => rw [e] at q; exact q.elim
  | some o => cases o with
    | none => rw [e] at q; exact q.elim
    | some v =>
      rw [e] at q
      obtain ⟨u, h1, h2⟩ := lr.get e
      exact ⟨u, h1, q.now r _ h2⟩
/-- a constant value -/
def GV (S : Sg) (K : PySem.W.Frag) (v : AV) (x : V) : Prop := ∀ ρ H, VR S K ρ H v x
theorem tC_of {v : AV} {x : V} (g : GV S X.K v x) {σ : St} {H : Hp} {Q : VK} (t : tEv S X.K d W (.cst v) σ H Q) : tC x σ H Q := by
  obtain ⟨ρ, h, l, r, lr, q⟩ := t
  unfold ev at q
  exact q.now r _ (g ρ H)
theorem ce_cst {e : Expr} {v : AV} {x : V} (p : PE X e (tC x)) (g : GV S X.K v x) : CE S X d W e (.cst v) := p.imp fun _ _ _ t => tC_of g t
theorem ce_int {i : Int} {j : Nat} : CE S X d W (.Constant (.int i) j pos) (.cst (.int i)) := ce_cst pe_int fun _ _ => .int i
theorem ce_bl {i : Bool} {j : Nat} : CE S X d W (.Constant (.bool i) j pos) (.cst (.bl i)) := ce_cst pe_bl fun _ _ => .bl i
theorem ce_non {j : Nat} : CE S X d W (.Constant .none j pos) (.cst .non) := ce_cst pe_non fun _ _ => .non
theorem ce_str {x : Str} {j : Nat} : CE S X d W (.Constant (.str x) j pos) (.cst (.str x.cps.toList)) := ce_cst pe_str fun ρ H => by
  have z := VR.str (S := S) (K := X.K) (ρ := ρ) (H := H) x.cps.toList
  rw [toStr_str] at z
  exact z
theorem ce_glob {x : Str} {v : V} {u : Value} {av : AV} (hg : Gl X x) (hm : X.mg x = some u) (r : RelV v u) (g : GV S X.K av v) (hd : (x == ("__debug__" : Str)) = false) : CE S X d W (.Name x pos) (.cst av) := ce_cst (pe_glob hg hm r hd) g

/-! ### pieces for two, three in a row -/
theorem tE_of {e : E} {Q : VK} {α : Type} {f : AV → AH → Rs α} {k : α → AH → List Addr → Hp → Prop} (r : HR S X.K ρ h H) (lr : LR S X.K ρ H l σ) (q : Ans S X.K ρ H ((ev S.T (run S.T d) e l h).bind f) k (eW S X.K W σ))
    (g : ∀ v h1 ρ1 H1 u, HR S X.K ρ1 h1 H1 → Ext ρ H ρ1 H1 → VR S X.K ρ1 H1 v u → Ans S X.K ρ1 H1 (f v h1) k (eW S X.K W σ) → Q u H1) : tEv S X.K d W e σ H Q :=
  ⟨ρ, h, l, r, lr, q.bind.imp (fun v h' ρ' H' r' e' a u hu => g v h' ρ' H' u r' e' hu a) fun _ _ _ z => z⟩
theorem tA_of {e : E} {Q : List V → Hp → Prop} {α : Type} {f : List AV → AH → Rs α} {k : α → AH → List Addr → Hp → Prop} (r : HR S X.K ρ h H) (lr : LR S X.K ρ H l σ) (q : Ans S X.K ρ H ((evs S.T (run S.T d) e l h).bind f) k (eW S X.K W σ))
    (g : ∀ v h1 ρ1 H1 u, HR S X.K ρ1 h1 H1 → Ext ρ H ρ1 H1 → VRs S X.K ρ1 H1 v u → Ans S X.K ρ1 H1 (f v h1) k (eW S X.K W σ) → Q u H1) : tEvs S X.K d W e σ H Q :=
  ⟨ρ, h, l, r, lr, q.bind.imp (fun v h' ρ' H' r' e' a u hu => g v h' ρ' H' u r' e' hu a) fun _ _ _ z => z⟩
/-- an operation on two values, by the machine's own -/
def rOp (S : Sg) (K : PySem.W.Frag) (f : AV → AV → AH → Rs AV) : R2 := fun x y H Q => ∃ ρ h a b, HR S K ρ h H ∧ VR S K ρ H a x ∧ VR S K ρ H b y ∧ Ans S K ρ H (f a b h) (kAv S K Q) eN
/-- no exception comes of it -/
def NoX {α : Type} (r : Rs α) : Prop := match r with
  | .ex _ _ => False
  | _ => True
theorem Ans.noX {α : Type} {K : PySem.W.Frag} {r : Rs α} {k : α → AH → List Addr → Hp → Prop} {e e' : AX → List Addr → Hp → Prop} (n : NoX r) (a : Ans S K ρ H r k e) : Ans S K ρ H r k e' := by
  cases r with
  | ok v h' => exact a
  | ex v h' => exact n.elim
  | bad => exact a
theorem two_of {f : AV → AV → AH → Rs AV} {Q : VK} (n : ∀ a b h, NoX (f a b h)) (r : HR S X.K ρ h H) (lr : LR S X.K ρ H l σ)
    (q : Ans S X.K ρ H ((ev S.T (run S.T d) A l h).bind fun x h => (ev S.T (run S.T d) B l h).bind fun y h => f x y h) (kAv S X.K Q) (eW S X.K W σ)) : tOp (rOp S X.K f) (tEv S X.K d W A) (tEv S X.K d W B) σ H Q := by
  refine tE_of r lr q fun v h1 ρ1 H1 u r1 e1 hu q1 => ?_
  refine tE_of r1 (lr.mono r e1) q1 fun w h2 ρ2 H2 u2 r2 e2 hu2 q2 => ?_
  exact ⟨ρ2, h2, v, w, r2, hu.mono r1 e2, hu2, q2.noX (n _ _ _)⟩

/-! ### operators -/
theorem noX_new {o : AO} {h : AH} : NoX (newO o h) := trivial
theorem noX_newL {o : List AV} {h : AH} : NoX (newL o h) := by
  unfold newL
  split
  · exact noX_new
  · trivial
theorem noX_bin (o : Bop) (x y : AV) (h : AH) : NoX (binA o x y h) := by
  unfold binA
  repeat' split
  all_goals first | trivial | exact noX_newL
theorem noX_vO (o : Option AV) (h : AH) : NoX (vO o h) := by cases o <;> trivial
theorem noX_bO (o : Option Bool) (h : AH) : NoX (bO o h) := by cases o <;> trivial
theorem noX_getA (W : List (List (Tx × AV))) (o i : AV) (h : AH) : NoX (getA W o i h) := by
  unfold getA
  repeat' split
  all_goals first | trivial | exact noX_vO _ _

theorem VR.int_inv {K : PySem.W.Frag} {i : Int} {x : V} (a : VR S K ρ H (.int i) x) : x = .int i := by cases a; rfl
theorem VR.str_inv {K : PySem.W.Frag} {s : Tx} {x : V} (a : VR S K ρ H (.str s) x) : x = .str (toStr s) := by cases a; rfl
theorem VR.bl_inv {K : PySem.W.Frag} {i : Bool} {x : V} (a : VR S K ρ H (.bl i) x) : x = .bl i := by cases a; rfl
theorem VR.non_inv {K : PySem.W.Frag} {x : V} (a : VR S K ρ H .non x) : x = .non := by cases a; rfl
theorem VR.tup_inv {K : PySem.W.Frag} {xs : List AV} {x : V} (a : VR S K ρ H (.tup xs) x) : ∃ p vs, x = .ref p ∧ SqT K H p vs ∧ VRs S K ρ H xs vs := by
  cases a with
  | tup a b => exact ⟨_, _, rfl, a, b⟩
theorem VR.ref_inv {K : PySem.W.Frag} {i : Nat} {x : V} (a : VR S K ρ H (.ref i) x) : ∃ p, x = .ref p ∧ ρ[i]? = some p := by
  cases a with
  | ref a => exact ⟨_, rfl, a⟩
theorem VR.wd_inv {K : PySem.W.Frag} {i : Nat} {x : V} (a : VR S K ρ H (.wd i) x) : x = .ref (S.wadr i) := by cases a; rfl
theorem HR.lst {K : PySem.W.Frag} (r : HR S K ρ h H) {i : Nat} {p : Addr} {xs : List AV} (e : ρ[i]? = some p) (z : h[i]? = some (.lst xs)) : ∃ vs, H p = some (.lst vs) ∧ VRs S K ρ H xs vs := r.at_ i p _ e z
theorem HR.flst {K : PySem.W.Frag} (r : HR S K ρ h H) {i : Nat} {p : Addr} {xs : List AV} (e : ρ[i]? = some p) (z : h[i]? = some (.flst xs)) : ∃ vs, SqL K H p vs ∧ VRs S K ρ H xs vs := (r.at_ i p _ e z).2.2
theorem HR.dic {K : PySem.W.Frag} (r : HR S K ρ h H) {i : Nat} {p : Addr} {lk : Bool} {xs : List (AK × AV)} (e : ρ[i]? = some p) (z : h[i]? = some (.dic lk xs)) : ∃ q, Rd H p (.dK q) ∧ KVR S K ρ H xs q ∧ (lk = false → H p = some (.dK q)) ∧ (lk = true → ∃ o, H p = some (.frz o (.dK q))) := by
  have y := r.at_ i p _ e z
  cases lk with
  | false => obtain ⟨q, h1, h2⟩ := y; exact ⟨q, .inl h1, h2, fun _ => h1, fun z => nomatch z⟩
  | true => obtain ⟨o, q, h1, h2⟩ := y; exact ⟨q, .inr ⟨o, h1⟩, h2, (fun z => nomatch z), fun _ => ⟨o, h1⟩⟩
theorem HR.ins {K : PySem.W.Frag} (r : HR S K ρ h H) {i : Nat} {p : Addr} {c : Nat} {fs : List (Nat × AV)} (e : ρ[i]? = some p) (z : h[i]? = some (.ins c fs)) : (CF S K c ∧ ∀ p ∈ fs, p.1 ∈ S.flds) ∧ ∃ dx q, H p = some (.ins (S.cadr c) dx q) ∧ FRs S K ρ H fs q := r.at_ i p _ e z

theorem small_ok {i : Int} (e : small i = true) : -(2 ^ 64) < i ∧ i < 2 ^ 64 := by
  unfold small at e
  simp only [Bool.and_eq_true, decide_eq_true_eq] at e
  omega
theorem sz_eq : SZ = sizeLine := rfl
theorem okL_ok {α : Type} {xs : List α} (e : okL xs = true) : xs.length ≤ sizeLine := Nat.le_of_ble_eq_true e
/-- a new list -/
theorem newL_of {K : PySem.W.Frag} {xs : List AV} {Q : VK} {e : AX → List Addr → Hp → Prop} (r : HR S K ρ h H) (a : Ans S K ρ H (newL xs h) (kAv S K Q) e) {vs : List V} (v : VRs S K ρ H xs vs) : vs.length ≤ sizeLine ∧ ∀ p, H p = none → Q (.ref p) (upd H p (.lst vs)) := by
  unfold newL at a
  cases e1 : okL xs with
  | false => rw [e1] at a; exact a.elim
  | true =>
    rw [e1] at a
    refine ⟨by rw [← v.length]; exact okL_ok e1, fun p np => ?_⟩
    have hp : p ∉ ρ := r.free np
    have ex : Ext ρ H (ρ ++ [p]) (upd H p (.lst vs)) := by
      refine ⟨⟨_, rfl⟩, fun b o hb _ => ?_, fun b hb hn => ?_⟩
      · rw [upd_ne (ne_of_none hb np)]; exact hb
      · rcases List.mem_append.mp hb with m | m
        · exact absurd m hn
        · rw [List.mem_singleton.mp m]; exact np
    obtain ⟨r1, e2⟩ := r.push (o := .lst xs) (u := .lst vs) np ⟨vs, upd_same, v.mono r ex⟩
    refine a _ _ r1 e2 _ (.ref ?_)
    rw [← r.len]
    simp
/-- a new tuple -/
theorem tup_new {K : PySem.W.Frag} {xs : List AV} {vs : List V} (r : HR S K ρ h H) (v : VRs S K ρ H xs vs) {p : Addr} (np : H p = none) : HR S K ρ h (upd H p (.tup vs)) ∧ Ext ρ H ρ (upd H p (.tup vs)) ∧ VR S K ρ (upd H p (.tup vs)) (.tup xs) (.ref p) := by
  obtain ⟨r1, e1⟩ := r.side (u := .tup vs) np
  exact ⟨r1, e1, .tup (SqT.of upd_same) (v.mono r e1)⟩
theorem tup_of {K : PySem.W.Frag} {xs : List AV} {vs : List V} {Q : VK} {e : AX → List Addr → Hp → Prop} (r : HR S K ρ h H) (v : VRs S K ρ H xs vs) (q : Ans S K ρ H (.ok (.tup xs) h) (kAv S K Q) e) : ∀ p, H p = none → Q (.ref p) (upd H p (.tup vs)) := fun p np => by
  obtain ⟨r1, e1, w⟩ := tup_new r v np
  exact q ρ _ r1 e1 _ w
def bopOf : Bop → Operator
  | .add => .Add
  | .sub => .Sub
  | .mul => .Mult
  | .fdiv => .FloorDiv
  | .mod => .Mod
  | .pow => .Pow
theorem len_rep {α : Type} (k : Nat) (xs : List α) : (List.replicate k xs).flatten.length = k * xs.length := by
  induction k with
  | zero => simp
  | succ k ih => simp [List.replicate_succ, ih, Nat.succ_mul, Nat.add_comm]
theorem VRs.rep {K : PySem.W.Frag} {xs : List AV} {vs : List V} (v : VRs S K ρ H xs vs) : ∀ k, VRs S K ρ H (List.replicate k xs).flatten (List.replicate k vs).flatten
  | 0 => .nil
  | k + 1 => by
    simp only [List.replicate_succ, List.flatten_cons]
    exact v.append (VRs.rep v k)
theorem op_bin (o : Bop) : OpR X (binaryOp (bopOf o)) (rOp S X.K (binA o)) := by
  intro pins s σ H x y v u Q I rx ry q
  obtain ⟨ρ, h, a, b, r, va, vb, q⟩ := q
  unfold binA at q
  split at q
  case h_1 i j =>
    obtain rfl := va.int_inv
    obtain rfl := vb.int_inv
    exact op_add pins s σ H _ _ v u Q I rx ry ⟨i, j, rfl, rfl, q.now r _ (.int _)⟩
  case h_2 i j =>
    obtain rfl := va.int_inv
    obtain rfl := vb.int_inv
    exact op_sub pins s σ H _ _ v u Q I rx ry ⟨i, j, rfl, rfl, q.now r _ (.int _)⟩
  case h_3 i j =>
    obtain rfl := va.int_inv
    obtain rfl := vb.int_inv
    split at q
    case h_2 => exact q.elim
    case h_1 e =>
    refine op_mul pins s σ H _ _ v u Q I rx ry ⟨i, j, rfl, rfl, ?_, q.now r _ (.int _)⟩
    rcases Bool.or_eq_true_iff.mp e with e | e
    · exact .inl (small_ok e)
    · exact .inr (small_ok e)
  case h_4 i j =>
    obtain rfl := va.int_inv
    obtain rfl := vb.int_inv
    split at q
    case h_2 => exact q.elim
    case h_1 e =>
    simp only [Bool.and_eq_true, decide_eq_true_eq] at e
    exact op_fdiv pins s σ H _ _ v u Q I rx ry ⟨i, j, rfl, rfl, e, q.now r _ (.int _)⟩
  case h_5 i j =>
    obtain rfl := va.int_inv
    obtain rfl := vb.int_inv
    split at q
    case h_2 => exact q.elim
    case h_1 e =>
    exact op_mod pins s σ H _ _ v u Q I rx ry ⟨i, j, rfl, rfl, of_decide_eq_true e, q.now r _ (.int _)⟩
  case h_6 i j =>
    obtain rfl := va.int_inv
    obtain rfl := vb.int_inv
    split at q
    case h_2 => exact q.elim
    case h_1 e =>
    simp only [Bool.and_eq_true, decide_eq_true_eq] at e
    obtain ⟨e1, e2, e3⟩ := e
    have e4 := small_ok e3
    exact op_pow pins s σ H _ _ v u Q I rx ry ⟨i, j, rfl, rfl, ⟨e1, e2, by omega⟩, q.now r _ (.int _)⟩
  case h_7 s1 t1 =>
    obtain rfl := va.str_inv
    obtain rfl := vb.str_inv
    split at q
    case h_2 => exact q.elim
    case h_1 e =>
    refine op_add_str pins s σ H _ _ v u Q I rx ry ⟨_, _, rfl, rfl, ?_, ?_⟩
    · rw [toStr_length, toStr_length]; exact Nat.le_of_ble_eq_true e
    · rw [toStr_append]; exact q.now r _ (.str _)
  case h_8 xs ys =>
    obtain ⟨p, vs, rfl, sp, vx⟩ := va.tup_inv
    obtain ⟨p', ws, rfl, sp', vy⟩ := vb.tup_inv
    split at q
    case h_2 => exact q.elim
    case h_1 e =>
    simp only [Bool.and_eq_true] at e
    have el := okL_ok e.2.2
    rw [List.length_append, vx.length, vy.length] at el
    refine op_catA pins s σ H _ _ v u Q I rx ry ⟨p, p', vs, ws, rfl, rfl, sp, sp', el, fun z => ?_, fun z1 z2 => ?_, fun _ _ => tup_of r (vx.append vy) q⟩
    · subst z
      cases vx
      exact q.now r _ vb
    · subst z2
      cases vy
      rw [List.append_nil] at q
      exact q.now r _ va
  case h_9 i j =>
    obtain ⟨p, rfl, ep⟩ := va.ref_inv
    obtain ⟨p', rfl, ep'⟩ := vb.ref_inv
    split at q
    case h_2 => exact q.elim
    case h_1 xs ys e1 e2 =>
    obtain ⟨vs, hp, vx⟩ := r.lst ep e1
    obtain ⟨ws, hp', vy⟩ := r.lst ep' e2
    obtain ⟨z, q⟩ := newL_of r q (vx.append vy)
    rw [List.length_append] at z
    exact op_cat pins s σ H _ _ v u Q I rx ry ⟨p, p', vs, ws, rfl, rfl, hp, hp', z, q⟩
  case h_10 i k =>
    obtain ⟨p, rfl, ep⟩ := va.ref_inv
    obtain rfl := vb.int_inv
    split at q
    case h_2 => exact q.elim
    case h_1 xs e1 =>
    obtain ⟨vs, hp, vx⟩ := r.lst ep e1
    split at q
    case h_2 => exact q.elim
    case h_1 e2 =>
    simp only [Bool.and_eq_true, decide_eq_true_eq] at e2
    obtain ⟨e2, e3, e4⟩ := e2
    have e4 := Nat.le_of_ble_eq_true e4
    refine op_rep pins s σ H _ _ v u Q I rx ry ⟨p, k, vs, rfl, rfl, hp, by omega, by omega, by rw [← vx.length]; exact e4, fun b nb => ?_⟩
    have z : okL (List.replicate k.toNat xs).flatten = true := by
      unfold okL
      rw [len_rep, Nat.mul_comm]
      exact Nat.ble_eq_true_of_le e4
    have q' : Ans S X.K ρ H (newL (List.replicate k.toNat xs).flatten h) (kAv S X.K Q) eN := by
      unfold newL
      rw [z]
      exact q
    exact (newL_of r q' (vx.rep _)).2 b nb
  case h_11 => exact q.elim
theorem ce_bin {o : Bop} (ha : CE S X d W a A) (hb : CE S X d W b B) : CE S X d W (.BinOp a (bopOf o) b pos) (.bin o A B) :=
  (pe_op (op_bin o) ha hb).imp fun σ H Q ⟨ρ, h, l, r, lr, q⟩ => two_of (f := fun x y h => binA o x y h) (noX_bin o) r lr (by unfold ev at q; exact q)

/-! ### truth -/
theorem VRs.isEmpty {K : PySem.W.Frag} {xs : List AV} {vs : List V} (v : VRs S K ρ H xs vs) : xs.isEmpty = vs.isEmpty := by cases v <;> rfl
theorem KVR.isEmpty {K : PySem.W.Frag} {xs : List (AK × AV)} {vs : List (Key × V)} (v : KVR S K ρ H xs vs) : xs.isEmpty = vs.isEmpty := by cases v <;> rfl
theorem tru_of {K : PySem.W.Frag} {v : AV} {x : V} {k : Bool} (r : HR S K ρ h H) (vx : VR S K ρ H v x) (e : truth h v = some k) : TruV K x H k := by
  cases vx with
  | non => exact (Option.some.inj e).symm
  | bl b => exact (Option.some.inj e).symm
  | int i => exact (Option.some.inj e).symm
  | str s =>
    unfold truth at e
    dsimp only at e
    split at e
    case h_2 => cases e
    case h_1 z =>
    refine ⟨by rw [toStr_length]; exact Nat.le_of_ble_eq_true z, ?_⟩
    rw [toStr_length, ← Option.some.inj e]
    cases s with
    | nil => rfl
    | cons c s =>
      show true = ((((s.length + 1 : Nat) : Int)) != 0)
      exact (bne_iff_ne.mpr (by omega)).symm
  | @tup xs p vs a b =>
    have e' : some (!xs.isEmpty) = some k := e
    refine .inr (.inl ⟨vs, a, ?_⟩)
    rw [← Option.some.inj e', b.isEmpty]
  | @ref i p a =>
    unfold truth at e
    dsimp only at e
    split at e
    case h_1 xs z =>
      obtain ⟨vs, hp, vx⟩ := r.lst a z
      exact .inl ⟨vs, SqL.of hp, by rw [← Option.some.inj e, vx.isEmpty]⟩
    case h_2 xs z =>
      obtain ⟨vs, hp, vx⟩ := r.flst a z
      exact .inl ⟨vs, hp, by rw [← Option.some.inj e, vx.isEmpty]⟩
    case h_3 xs z =>
      obtain ⟨q, _, kv, h1, _⟩ := r.dic a z
      exact .inr (.inr ⟨q, h1 rfl, by rw [← Option.some.inj e, kv.isEmpty]⟩)
    case h_4 => cases e
  | wd i => cases e
theorem ce_not (ha : CE S X d W a A) : CE S X d W (.UnaryOp .Not a pos) (.not A) := by
  refine (pe_notT ha).imp fun σ H Q ⟨ρ, h, l, r, lr, q⟩ => ?_
  unfold ev at q
  refine tE_of r lr q fun v h1 ρ1 H1 u r1 e1 hu q1 => ?_
  cases e : truth h1 v with
  | none => rw [e] at q1; exact q1.elim
  | some k =>
    rw [e] at q1
    exact ⟨k, tru_of r1 hu e, q1.now r1 _ (.bl _)⟩
theorem ce_and {rest : List Expr} (ha : CE S X d W a A) (hb : CE S X d W (.BoolOp .And (b :: rest) pos) B) : CE S X d W (.BoolOp .And (a :: b :: rest) pos) (.and A B) := by
  refine (pe_andT ha hb).imp fun σ H Q ⟨ρ, h, l, r, lr, q⟩ => ?_
  unfold ev at q
  refine tE_of r lr q fun v h1 ρ1 H1 u r1 e1 hu q1 => ?_
  split at q1
  case h_1 e => exact ⟨true, tru_of r1 hu e, iteT ⟨ρ1, h1, l, r1, lr.mono r e1, q1⟩⟩
  case h_2 e => exact ⟨false, tru_of r1 hu e, iteF (q1.now r1 _ hu)⟩
  case h_3 => exact q1.elim
theorem ce_or {rest : List Expr} (ha : CE S X d W a A) (hb : CE S X d W (.BoolOp .Or (b :: rest) pos) B) : CE S X d W (.BoolOp .Or (a :: b :: rest) pos) (.or A B) := by
  refine (pe_orT ha hb).imp fun σ H Q ⟨ρ, h, l, r, lr, q⟩ => ?_
  unfold ev at q
  refine tE_of r lr q fun v h1 ρ1 H1 u r1 e1 hu q1 => ?_
  split at q1
  case h_1 e => exact ⟨false, tru_of r1 hu e, iteF ⟨ρ1, h1, l, r1, lr.mono r e1, q1⟩⟩
  case h_2 e => exact ⟨true, tru_of r1 hu e, iteT (q1.now r1 _ hu)⟩
  case h_3 => exact q1.elim
theorem ce_one {o : BoolOp} (ha : CE S X d W a A) : CE S X d W (.BoolOp o [a] pos) A := pe_one ha

/-! ### tests -/
theorem tT_of {e : E} {Q : Bool → Hp → Prop} {α : Type} {f : AV → AH → Rs α} {k : α → AH → List Addr → Hp → Prop} (r : HR S X.K ρ h H) (lr : LR S X.K ρ H l σ) (q : Ans S X.K ρ H ((ev S.T (run S.T d) e l h).bind f) k (eW S X.K W σ))
    (g : ∀ v h1 ρ1 H1 b, HR S X.K ρ1 h1 H1 → Ext ρ H ρ1 H1 → truth h1 v = some b → Ans S X.K ρ1 H1 (f v h1) k (eW S X.K W σ) → Q b H1)
    (n : ∀ v h1, truth h1 v = none → f v h1 = .bad) : tTr S X.K d W e σ H Q := by
  refine ⟨ρ, h, l, r, lr, ?_⟩
  cases e1 : ev S.T (run S.T d) e l h with
  | bad => rw [e1] at q; exact q
  | ex x h1 => rw [e1] at q; exact q
  | ok v h1 =>
    rw [e1] at q
    have q' : Ans S X.K ρ H (f v h1) k (eW S X.K W σ) := q
    show Ans S X.K ρ H (Rs.ofO (truth h1 v) h1) _ _
    cases e2 : truth h1 v with
    | none => rw [n v h1 e2] at q'; exact q'.elim
    | some b => exact fun ρ' H' r' x' => g v h1 ρ' H' b r' x' e2 (q'.ext x')
/-- an expression of any kind as a test -/
theorem ct_any (ha : CE S X d W a A) (he : ∀ whole, isTrue a X.env whole = (do let v ← whole; standAt a.pos; holding [v] (truthy v))) : CT S X d W a A := by
  refine (pt_truth ha he).imp fun σ H Q ⟨ρ, h, l, r, lr, q⟩ => ?_
  refine tE_of r lr q fun v h1 ρ1 H1 u r1 e1 hu q1 => ?_
  cases e : truth h1 v with
  | none => rw [e] at q1; exact q1.elim
  | some k =>
    rw [e] at q1
    exact ⟨k, tru_of r1 hu e, q1.now r1⟩
theorem ct_not (ha : CT S X d W a A) : CT S X d W (.UnaryOp .Not a pos) (.not A) := by
  refine (pt_not ha).imp fun σ H Q ⟨ρ, h, l, r, lr, q⟩ => ?_
  unfold ev at q
  refine ⟨ρ, h, l, r, lr, ?_⟩
  cases e1 : ev S.T (run S.T d) A l h with
  | bad => rw [e1] at q; exact q
  | ex x h1 => rw [e1] at q; exact q
  | ok v h1 =>
    rw [e1] at q
    show Ans S X.K ρ H (Rs.ofO (truth h1 v) h1) _ _
    cases e2 : truth h1 v with
    | none =>
      have q' : Ans S X.K ρ H ((bO (notO (truth h1 v)) h1).bind fun x h => Rs.ofO (truth h x) h) (fun b _ _ H' => Q b H') (eW S X.K W σ) := q
      rw [e2] at q'
      exact q'
    | some b =>
      have q' : Ans S X.K ρ H ((bO (notO (truth h1 v)) h1).bind fun x h => Rs.ofO (truth h x) h) (fun b _ _ H' => Q b H') (eW S X.K W σ) := q
      rw [e2] at q'
      exact q'
theorem cw_and {rest : List Expr} (ha : CT S X d W a A) (hb : CW S X d W (.BoolOp .And (b :: rest) pos) B) : CW S X d W (.BoolOp .And (a :: b :: rest) pos) (.and A B) := by
  refine (pw_and ha hb).imp fun σ H Q ⟨ρ, h, l, r, lr, q⟩ => ?_
  unfold ev at q
  refine ⟨ρ, h, l, r, lr, ?_⟩
  cases e1 : ev S.T (run S.T d) A l h with
  | bad => rw [e1] at q; exact q
  | ex x h1 => rw [e1] at q; exact q
  | ok v h1 =>
    rw [e1] at q
    have q' : Ans S X.K ρ H ((match truth h1 v with
      | some true => ev S.T (run S.T d) B l h1
      | some false => .ok v h1
      | none => .bad).bind fun x h => Rs.ofO (truth h x) h) (fun b _ _ H' => Q b H') (eW S X.K W σ) := q
    show Ans S X.K ρ H (Rs.ofO (truth h1 v) h1) _ _
    cases e2 : truth h1 v with
    | none => rw [e2] at q'; exact q'
    | some b =>
      rw [e2] at q'
      intro ρ' H' r' x'
      cases b with
      | true => exact iteT ⟨ρ', h1, l, r', lr.mono r x', Ans.ext x' q'⟩
      | false =>
        have q2 : Ans S X.K ρ H (Rs.ofO (truth h1 v) h1) (fun b _ _ H' => Q b H') (eW S X.K W σ) := q'
        rw [e2] at q2
        exact iteF (q2 ρ' H' r' x')
theorem cw_or {rest : List Expr} (ha : CT S X d W a A) (hb : CW S X d W (.BoolOp .Or (b :: rest) pos) B) : CW S X d W (.BoolOp .Or (a :: b :: rest) pos) (.or A B) := by
  refine (pw_or ha hb).imp fun σ H Q ⟨ρ, h, l, r, lr, q⟩ => ?_
  unfold ev at q
  refine ⟨ρ, h, l, r, lr, ?_⟩
  cases e1 : ev S.T (run S.T d) A l h with
  | bad => rw [e1] at q; exact q
  | ex x h1 => rw [e1] at q; exact q
  | ok v h1 =>
    rw [e1] at q
    have q' : Ans S X.K ρ H ((match truth h1 v with
      | some false => ev S.T (run S.T d) B l h1
      | some true => .ok v h1
      | none => .bad).bind fun x h => Rs.ofO (truth h x) h) (fun b _ _ H' => Q b H') (eW S X.K W σ) := q
    show Ans S X.K ρ H (Rs.ofO (truth h1 v) h1) _ _
    cases e2 : truth h1 v with
    | none => rw [e2] at q'; exact q'
    | some b =>
      rw [e2] at q'
      intro ρ' H' r' x'
      cases b with
      | false => exact iteF ⟨ρ', h1, l, r', lr.mono r x', Ans.ext x' q'⟩
      | true =>
        have q2 : Ans S X.K ρ H (Rs.ofO (truth h1 v) h1) (fun b _ _ H' => Q b H') (eW S X.K W σ) := q'
        rw [e2] at q2
        exact iteT (q2 ρ' H' r' x')
theorem cw_and1 (ha : CT S X d W a A) : CW S X d W (.BoolOp .And [a] pos) A := pw_and1 ha
theorem cw_or1 (ha : CT S X d W a A) : CW S X d W (.BoolOp .Or [a] pos) A := pw_or1 ha
theorem ce_ite (hc : CT S X d W c C) (ha : CE S X d W a A) (hb : CE S X d W b B) : CE S X d W (.IfExp c a b pos) (.ite C A B) := by
  refine (pe_ifExp hc ha hb).imp fun σ H Q ⟨ρ, h, l, r, lr, q⟩ => ?_
  unfold ev at q
  refine tT_of r lr q (fun v h1 ρ1 H1 k r1 e1 ek q1 => ?_) fun v h1 ek => by rw [ek]
  rw [ek] at q1
  cases k with
  | true => exact iteT ⟨ρ1, h1, l, r1, lr.mono r e1, q1⟩
  | false => exact iteF ⟨ρ1, h1, l, r1, lr.mono r e1, q1⟩
end
end Ms

set_option Elab.async false
set_option linter.all false
set_option maxRecDepth 100000
/-! Comparisons. -/
namespace Ms
open PySem PySem.Spec L2 Mm
open PyProof.Rows hiding St
section
variable {S : Sg} {X : Cx} {d : Nat} {W : WX} {a b c : Expr} {A B C : E} {pos : Pos} {ρ : List Addr} {h : AH} {H : Hp} {l : Lo} {σ : St} {K : PySem.W.Frag}

theorem eqX_iff : ∀ {s t : Tx}, eqX s t = true ↔ s = t
  | [], [] => by simp [eqX]
  | [], _ :: _ => by simp [eqX]
  | _ :: _, [] => by simp [eqX]
  | a :: r, b :: q => by
    simp only [eqX, Bool.and_eq_true, List.cons.injEq, eqX_iff (s := r) (t := q)]
    rw [Nat.beq_eq]
theorem eqX_dec (s t : Tx) : eqX s t = decide (s = t) := by
  by_cases e : s = t
  · rw [decide_eq_true e]; exact eqX_iff.mpr e
  · rw [decide_eq_false e]
    cases z : eqX s t with
    | false => rfl
    | true => exact absurd (eqX_iff.mp z) e
theorem ltT_dec : ∀ s t : Tx, ltT s t = decide (s < t)
  | [], [] => by simp [ltT]
  | [], _ :: _ => by simp [ltT]
  | _ :: _, [] => by simp [ltT]
  | a :: r, b :: q => by
    unfold ltT
    by_cases e : a = b
    · subst e
      rw [if_pos (by simp), ltT_dec r q]
      simp
    · rw [if_neg (by simpa using e)]
      have z : (a :: r < b :: q) ↔ a < b := by
        rw [List.cons_lt_cons_iff]
        constructor
        · rintro (z | ⟨z, _⟩)
          · exact z
          · exact absurd z e
        · exact .inl
      by_cases l : a < b
      · rw [decide_eq_true (z.mpr l)]
        have : Nat.ble (a + 1) b = true := Nat.ble_eq_true_of_le l
        exact this
      · rw [decide_eq_false (fun y => l (z.mp y))]
        cases y : Nat.blt a b with
        | false => rfl
        | true => exact absurd (Nat.le_of_ble_eq_true y) l
mutual
theorem toD_ok (r : HR S K ρ h H) : ∀ (n : Nat) {v : AV} {x : V} {q : PyData}, VR S K ρ H v x → toD h n v = some q → Dp K H x q
  | 0, _, _, _, _, e => by cases e
  | n + 1, _, _, q, .non, e => by cases e; exact .non
  | n + 1, _, _, q, .bl b, e => by cases e; exact .bl b
  | n + 1, _, _, q, .int b, e => by cases e; exact .int b
  | n + 1, _, _, q, .str b, e => by cases e; exact .str _
  | n + 1, _, _, q, @VR.tup _ _ _ _ xs p vs s w, e => by
    have e' : (toD.toDs (toD h n) xs).map PyData.tuple = some q := e
    cases z : toD.toDs (toD h n) xs with
    | none => rw [z] at e'; cases e'
    | some ds => rw [z] at e'; cases e'; exact .tup s (toDs_ok r n w z)
  | n + 1, _, _, q, @VR.ref _ _ _ _ i p s, e => by
    unfold toD at e
    dsimp only at e
    split at e
    case h_1 xs z =>
      obtain ⟨vs, hp, w⟩ := r.lst s z
      cases z2 : toD.toDs (toD h n) xs with
      | none => rw [z2] at e; cases e
      | some ds => rw [z2] at e; cases e; exact .lst (SqL.of hp) (toDs_ok r n w z2)
    case h_2 xs z =>
      obtain ⟨vs, hp, w⟩ := r.flst s z
      cases z2 : toD.toDs (toD h n) xs with
      | none => rw [z2] at e; cases e
      | some ds => rw [z2] at e; cases e; exact .lst hp (toDs_ok r n w z2)
    case h_3 => cases e
  | n + 1, _, _, q, .wd i, e => by cases e
theorem toDs_ok (r : HR S K ρ h H) : ∀ (n : Nat) {v : List AV} {x : List V} {q : List PyData}, VRs S K ρ H v x → toD.toDs (toD h n) v = some q → DpAll K H x q
  | n, _, _, q, .nil, e => by cases e; exact .nil
  | n, _, _, q, @VRs.cons _ _ _ _ y v xs vs a b, e => by
    unfold toD.toDs at e
    cases z : toD h n y with
    | none => rw [z] at e; cases e
    | some dd =>
      rw [z] at e
      cases z2 : toD.toDs (toD h n) xs with
      | none => rw [z2] at e; cases e
      | some ds => rw [z2] at e; cases e; exact .cons (toD_ok r n a z) (toDs_ok r n b z2)
end
theorem one_flat {kk : Key} {w : V} (f : flatB w = true) : ∀ p ∈ [(kk, w)], valV [(kk, w)] p.1 = some p.2 ∧ flatB p.2 = true := by
  intro p m
  obtain rfl := List.mem_singleton.mp m
  refine ⟨?_, f⟩
  unfold valV
  rw [List.find?_cons]
  simp
/-- what == is -/
theorem eqA_of (r : HR S K ρ h H) {va vb : AV} {x y : V} {k : Bool} (rx : VR S K ρ H va x) (ry : VR S K ρ H vb y) (e : eqA h va vb = some k) :
    (scal x y = true ∧ k = decide (x = y)) ∨ (∃ p q, Dp K H x p ∧ Dp K H y q ∧ SeqAt.shaped p = true ∧ SeqAt.shaped q = true ∧ k = PyData.eqv p q) ∨ ∃ a kk v, x = .ref a ∧ y = .ref a ∧ H a = some (.dK [(kk, v)]) ∧ flatB v = true ∧ k = true := by
  have deep : eqB h va vb = some k → ∃ p q, Dp K H x p ∧ Dp K H y q ∧ SeqAt.shaped p = true ∧ SeqAt.shaped q = true ∧ k = PyData.eqv p q := by
    intro e
    unfold eqB at e
    split at e
    case h_2 => cases e
    case h_1 p q e1 e2 =>
    split at e
    case h_2 => cases e
    case h_1 z =>
    rw [Bool.and_eq_true] at z
    exact ⟨p, q, toD_ok r _ rx e1, toD_ok r _ ry e2, z.1, z.2, (Option.some.inj e).symm⟩
  unfold eqA at e
  split at e
  case h_1 i j =>
    obtain rfl := rx.int_inv
    obtain rfl := ry.int_inv
    exact .inl ⟨rfl, by rw [← Option.some.inj e, dec_int]⟩
  case h_2 s t =>
    obtain rfl := rx.str_inv
    obtain rfl := ry.str_inv
    refine .inl ⟨rfl, ?_⟩
    rw [← Option.some.inj e, eqX_dec]
    by_cases z : s = t
    · subst z; simp
    · rw [decide_eq_false z, decide_eq_false (fun q => z (toStr_inj (V.str.inj q)))]
  case h_3 i j =>
    obtain rfl := rx.bl_inv
    obtain rfl := ry.bl_inv
    exact .inl ⟨rfl, by rw [← Option.some.inj e, dec_bl]⟩
  case h_4 =>
    obtain rfl := rx.non_inv
    obtain rfl := ry.non_inv
    exact .inl ⟨rfl, by rw [← Option.some.inj e]; rfl⟩
  case h_5 i j =>
    split at e
    case h_2 => exact .inr (.inl (deep e))
    case h_1 ds =>
      unfold dicS at ds
      rw [Bool.and_eq_true] at ds
      obtain ⟨d1, d2⟩ := ds
      have d1 := Nat.eq_of_beq_eq_true d1
      subst d1
      split at d2
      case h_2 => cases d2
      case h_1 kk v z =>
      obtain ⟨p, rfl, ep⟩ := rx.ref_inv
      obtain ⟨p', rfl, ep'⟩ := ry.ref_inv
      rw [ep] at ep'
      cases ep'
      obtain ⟨q, hp, kv, hf, _⟩ := r.dic ep z
      cases kv with
      | cons a b =>
        cases b
        refine .inr (.inr ⟨p, _, _, rfl, rfl, hf rfl, ?_, (Option.some.inj e).symm⟩)
        cases a <;> first | rfl | cases d2
  case h_6 => exact .inr (.inl (deep e))
theorem anyFl_ok {x : AV} {u : V} {xs : List AV} {vs : List V} (rx : VR S K ρ H x u) (fx : flat x = true) (r : VRs S K ρ H xs vs) (fs : xs.all flat = true) : flatV u = true ∧ vs.all flatV = true ∧ inV u vs = anyFl x xs := by
  have fl : ∀ {y : AV} {w : V}, VR S K ρ H y w → flat y = true → flatV w = true ∧ eqV w u = eqFl y x := by
    intro y w ry fy
    cases ry <;> first | cases fy | skip
    all_goals (cases rx <;> first | cases fx | skip)
    all_goals refine ⟨rfl, ?_⟩
    all_goals first | rfl | skip
    rename_i s t
    show (toStr s == toStr t) = eqX s t
    rw [eqX_dec]
    by_cases z : s = t
    · subst z; simp
    · rw [decide_eq_false z]
      exact beq_eq_false_iff_ne.mpr fun q => z (toStr_inj q)
  have fu : flatV u = true := (fl rx fx).1
  refine ⟨fu, ?_⟩
  induction xs generalizing vs with
  | nil => cases r; exact ⟨rfl, rfl⟩
  | cons y xs ih =>
    cases r with
    | cons a b =>
      rw [List.all_cons, Bool.and_eq_true] at fs
      obtain ⟨h1, h2⟩ := ih b fs.2
      obtain ⟨h3, h4⟩ := fl a fs.1
      refine ⟨by rw [List.all_cons, h3, h1]; rfl, ?_⟩
      unfold inV at h2 ⊢
      rw [List.any_cons, h2, h4]
      rfl
def copOf : Cop → CmpOp
  | .eq => .Eq
  | .ne => .NotEq
  | .lt => .Lt
  | .le => .LtE
  | .gt => .Gt
  | .ge => .GtE
  | .is => .Is
  | .isn => .IsNot
  | .inn => .In
  | .nin => .NotIn

/-! keys -/
theorem kR_inj {j k : AK} (e : kR j = kR k) : j = k := by
  cases j with
  | inl i => cases k with
    | inl j => cases e; rfl
    | inr t => cases e
  | inr s => cases k with
    | inl j => cases e
    | inr t => exact congrArg Sum.inr (toStr_inj (Sum.inr.inj e))
theorem eqK_dec (j k : AK) : eqK j k = decide (kR j = kR k) := by
  by_cases e : j = k
  · subst e
    rw [decide_eq_true rfl]
    cases j with
    | inl i => exact beq_self_eq_true i
    | inr s => exact eqX_iff.mpr rfl
  · rw [decide_eq_false (fun z => e (kR_inj z))]
    cases j with
    | inl i => cases k with
      | inl j => exact beq_eq_false_iff_ne.mpr fun z => e (congrArg Sum.inl z)
      | inr t => rfl
    | inr s => cases k with
      | inl j => rfl
      | inr t =>
        show eqX s t = false
        rw [eqX_dec]
        exact decide_eq_false fun z => e (congrArg Sum.inr z)
theorem keyOf_ok {v : AV} {x : V} {k : AK} (r : VR S K ρ H v x) (e : keyOf v = some k) : x = kV (kR k) := by
  cases r <;> cases e <;> rfl
theorem avK_ok (k : AK) : VR S K ρ H (avK k) (kV (kR k)) := by
  cases k with
  | inl i => exact .int i
  | inr s => exact .str s
theorem getK_ok {xs : List (AK × AV)} {q : List (Key × V)} (r : KVR S K ρ H xs q) (k : AK) : (∃ v x, getK k xs = some v ∧ valV q (kR k) = some x ∧ VR S K ρ H v x) ∨ (getK k xs = none ∧ valV q (kR k) = none) := by
  induction r with
  | nil => exact .inr ⟨rfl, rfl⟩
  | @cons j x v xs vs a b ih =>
    unfold getK
    rw [eqK_dec]
    by_cases e : kR j = kR k
    · rw [decide_eq_true e, valV_pos (p := (kR j, v)) e]
      exact .inl ⟨x, v, rfl, rfl, a⟩
    · rw [decide_eq_false e, valV_neg (p := (kR j, v)) e]
      exact ih
theorem getK_some {xs : List (AK × AV)} {q : List (Key × V)} (r : KVR S K ρ H xs q) {k : AK} {v : AV} (e : getK k xs = some v) : ∃ x, valV q (kR k) = some x ∧ VR S K ρ H v x := by
  rcases getK_ok r k with ⟨v', x, h1, h2, h3⟩ | ⟨h1, _⟩
  · rw [e] at h1; cases h1; exact ⟨x, h2, h3⟩
  · rw [e] at h1; cases h1
theorem getK_none {xs : List (AK × AV)} {q : List (Key × V)} (r : KVR S K ρ H xs q) {k : AK} (e : getK k xs = none) : valV q (kR k) = none := by
  rcases getK_ok r k with ⟨v', x, h1, h2, h3⟩ | ⟨_, h1⟩
  · rw [e] at h1; cases h1
  · exact h1
theorem getK_is {xs : List (AK × AV)} {q : List (Key × V)} (r : KVR S K ρ H xs q) (k : AK) : (getK k xs).isSome = (valV q (kR k)).isSome := by
  rcases getK_ok r k with ⟨v', x, h1, h2, h3⟩ | ⟨h1, h2⟩ <;> rw [h1, h2] <;> rfl
theorem DGet.rd {p : Addr} {q : List (Key × V)} {k : Key} (e : Rd H p (.dK q)) : DGet H p (kV k) (valV q k) := .inl ⟨q, k, e, rfl, rfl⟩
theorem op_in_dict (hu : X.A.units + 1 < cLine) : OpR X (compareOp .In) (fun x y H Q => ∃ p q k, x = kV k ∧ y = .ref p ∧ Rd H p (.dK q) ∧ Q (.bl (valV q k).isSome) H) := by
  intro pins s σ H x y v u Q I rx ry h
  obtain ⟨p, q, k, rfl, rfl, e, z⟩ := h
  cases ry
  exact d_in hu I (DGet.rd e) rx fun s' I' => ⟨.bl _, H, I', rfl, z⟩
theorem op_nin_dict (hu : X.A.units + 1 < cLine) : OpR X (compareOp .NotIn) (fun x y H Q => ∃ p q k, x = kV k ∧ y = .ref p ∧ Rd H p (.dK q) ∧ Q (.bl (!(valV q k).isSome)) H) := by
  intro pins s σ H x y v u Q I rx ry h
  obtain ⟨p, q, k, rfl, rfl, e, z⟩ := h
  cases ry
  exact d_notIn hu I (DGet.rd e) rx fun s' I' => ⟨.bl _, H, I', rfl, z⟩

/-- the written dicts -/
def WdOk (S : Sg) (K : PySem.W.Frag) (w : World) : Prop := ∀ (i : Nat) (kvs : List (Tx × AV)), S.T.wds[i]? = some kvs → (∃ es n, KDict K w (S.wadr i) es n) ∧
  ∀ s : Tx, match kvs.find? (fun q => eqX q.1 s) with
    | some q => ∃ v u, PySem.W.nsIn K (S.wadr i) (toStr s) = some (some u) ∧ RelV v u ∧ GV S K q.2 v
    | none => PySem.W.nsIn K (S.wadr i) (toStr s) = some none
theorem any_find {α : Type} (p : α → Bool) : ∀ l : List α, l.any p = (l.find? p).isSome
  | [] => rfl
  | x :: r => by
    rw [List.any_cons, List.find?_cons]
    cases p x with
    | true => rfl
    | false => exact any_find p r
theorem hu1 (hr : Room d X.A) : X.A.units + 1 < cLine := hu_of hr

theorem any_beq (c : Nat) (t : Tx) : t.any (Nat.beq c) = decide (c ∈ t) := by
  induction t with
  | nil => simp
  | cons a r ih =>
    rw [List.any_cons, ih]
    by_cases e : c = a
    · subst e; simp
    · have z : Nat.beq c a = false := by
        cases y : Nat.beq c a with
        | false => rfl
        | true => exact absurd (Nat.eq_of_beq_eq_true y) e
      rw [z]
      by_cases m : c ∈ r
      · rw [decide_eq_true m, decide_eq_true (List.mem_cons_of_mem _ m)]; rfl
      · rw [decide_eq_false m, decide_eq_false (by simp [e, m])]; rfl
/-- what 'in' is -/
theorem in_of {Q : VK} (hw : WdOk S X.K X.w) (r : HR S X.K ρ h H) {va vb : AV} {x y : V} {k : Bool} (rx : VR S X.K ρ H va x) (ry : VR S X.K ρ H vb y) (e : orO (inOf h va vb) (wdIn S.T.wds va vb) = some k) :
    (∃ (c : Nat) (z : Str), x = .str ⟨#[c]⟩ ∧ y = .str z ∧ k = decide (c ∈ z.cps.toList)) ∨
    (∃ p xs, y = .ref p ∧ (SqL X.K H p xs ∨ SqT X.K H p xs) ∧ flatV x = true ∧ xs.all flatV = true ∧ k = inV x xs) ∨
    (∃ q ds, Dp X.K H x q ∧ Dp X.K H y (.list ds) ∧ SeqAt.shaped q = true ∧ SeqAt.shaped (.list ds) = true ∧ k = ds.any fun z => PyData.eqv z q) ∨
    (∃ p q j, x = kV j ∧ y = .ref p ∧ Rd H p (.dK q) ∧ k = (valV q j).isSome) ∨
    (∃ p es n z o, x = .str z ∧ y = .ref p ∧ KDict X.K X.w p es n ∧ PySem.W.nsIn X.K p z = some o ∧ k = o.isSome) := by
  unfold orO at e
  split at e
  case h_1 b e1 =>
    obtain rfl := Option.some.inj e
    unfold inOf at e1
    split at e1
    case h_1 t =>
      split at e1
      case h_2 => cases e1
      case h_1 c =>
      obtain rfl := rx.str_inv
      obtain rfl := ry.str_inv
      refine .inl ⟨c, _, rfl, rfl, ?_⟩
      rw [← Option.some.inj e1, any_beq, toStr_list]
    case h_2 ys =>
      obtain ⟨p, vs, rfl, sp, vy⟩ := ry.tup_inv
      unfold inTp at e1
      split at e1
      case h_2 => cases e1
      case h_1 z =>
      rw [Bool.and_eq_true] at z
      obtain ⟨h1, h2, h3⟩ := anyFl_ok rx z.1 vy z.2
      exact .inr (.inl ⟨p, vs, rfl, .inr sp, h1, h2, by rw [h3]; exact (Option.some.inj e1).symm⟩)
    case h_3 i =>
      obtain ⟨p, rfl, ep⟩ := ry.ref_inv
      split at e1
      case h_1 ys e2 =>
        obtain ⟨vs, hp, vy⟩ := r.lst ep e2
        unfold inL at e1
        split at e1
        case h_1 z =>
          rw [Bool.and_eq_true] at z
          obtain ⟨h1, h2, h3⟩ := anyFl_ok rx z.1 vy z.2
          exact .inr (.inl ⟨p, vs, rfl, .inl (SqL.of hp), h1, h2, by rw [h3]; exact (Option.some.inj e1).symm⟩)
        case h_2 =>
          split at e1
          case h_2 => cases e1
          case h_1 q ds e3 e4 =>
          split at e1
          case h_2 => cases e1
          case h_1 z =>
          rw [Bool.and_eq_true] at z
          exact .inr (.inr (.inl ⟨q, ds, toD_ok r _ rx e3, .lst (SqL.of hp) (toDs_ok r _ vy e4), z.1, z.2, (Option.some.inj e1).symm⟩))
      case h_2 lk kvs e2 =>
        split at e1
        case h_2 => cases e1
        case h_1 j e3 =>
        obtain ⟨q, hp, kv, _⟩ := r.dic ep e2
        refine .inr (.inr (.inr (.inl ⟨p, q, kR j, keyOf_ok rx e3, rfl, hp, ?_⟩)))
        rw [← Option.some.inj e1, getK_is kv]
      case h_3 => cases e1
    case h_4 => cases e1
  case h_2 e1 =>
    unfold wdIn at e
    split at e
    case h_2 => cases e
    case h_1 i s =>
    split at e
    case h_2 => cases e
    case h_1 kvs e2 =>
    obtain rfl := rx.str_inv
    obtain rfl := ry.wd_inv
    obtain ⟨⟨es, n, kd⟩, f⟩ := hw i kvs e2
    have f := f s
    have ek := Option.some.inj e
    rw [any_find] at ek
    refine .inr (.inr (.inr (.inr ?_)))
    cases z : kvs.find? (fun q => eqX q.1 s) with
    | none =>
      rw [z] at f ek
      exact ⟨_, es, n, _, none, rfl, rfl, kd, f, ek.symm⟩
    | some q =>
      rw [z] at f ek
      obtain ⟨v, u, f1, _⟩ := f
      exact ⟨_, es, n, _, some u, rfl, rfl, kd, f1, ek.symm⟩
theorem bO_of {Q : VK} {o : Option Bool} {e : AX → List Addr → Hp → Prop} (r : HR S K ρ h H) (q : Ans S K ρ H (bO o h) (kAv S K Q) e) : ∃ k, o = some k ∧ Q (.bl k) H := by
  cases o with
  | none => exact q.elim
  | some k => exact ⟨k, rfl, q.now r _ (.bl k)⟩
def fCmp (S : Sg) (o : Cop) : AV → AV → AH → Rs AV := fun x y h => bO (cmpA S.T.wds h o x y) h
theorem noX_cmp (o : Cop) (x y : AV) (h : AH) : NoX (fCmp S o x y h) := noX_bO _ _
theorem notO_some {o : Option Bool} {k : Bool} (e : notO o = some k) : o = some (!k) := by
  cases o with
  | none => cases e
  | some b => cases e; simp
/-- is of None and truths -/
theorem is_flat {x y : V} {v u : Value} (rx : RelV x v) (ry : RelV y u) (hx : ∃ va, flat va = true ∧ ∃ ρ H, VR S K ρ H va x) (hy : y = .non ∨ ∃ b, y = .bl b) : plainIs v u = true ∧ (v == u) = decide (x = y) := by
  obtain ⟨va, fl, ρ, H, hx⟩ := hx
  rcases hy with rfl | ⟨b, rfl⟩
  · cases (show u = Value.none from ry)
    cases hx <;> first | cases fl | skip
    · cases (show v = Value.none from rx); exact ⟨rfl, rfl⟩
    · cases (show v = Value.bool _ from rx); exact ⟨rfl, rfl⟩
    · obtain ⟨t, rfl⟩ := rx; exact ⟨rfl, rfl⟩
    · obtain ⟨t, rfl⟩ := rx; exact ⟨rfl, rfl⟩
  · cases (show u = Value.bool b from ry)
    cases hx <;> first | cases fl | skip
    · cases (show v = Value.none from rx); exact ⟨rfl, rfl⟩
    · rename_i c
      cases (show v = Value.bool c from rx)
      refine ⟨rfl, ?_⟩
      cases c <;> cases b <;> rfl
    · obtain ⟨t, rfl⟩ := rx; exact ⟨rfl, rfl⟩
    · obtain ⟨t, rfl⟩ := rx; exact ⟨rfl, rfl⟩

theorem op_cmp (o : Cop) (hw : WdOk S X.K X.w) (hr : Room d X.A) : OpR X (compareOp (copOf o)) (rOp S X.K (fCmp S o)) := by
  intro pins s σ H x y v u Q I rx ry q
  obtain ⟨ρ, h, a, b, r, va, vb, q⟩ := q
  obtain ⟨k, e, qq⟩ := bO_of r q
  clear q
  cases o with
  | eq =>
    rcases eqA_of r va vb e with ⟨h1, rfl⟩ | ⟨p, p', h1, h2, h3, h4, rfl⟩ | ⟨p, kk, w, rfl, rfl, hp, fw, rfl⟩
    · exact op_eq pins s σ H x y v u Q I rx ry ⟨h1, qq⟩
    · exact op_eqD hr.units pins s σ H x y v u Q I rx ry ⟨p, p', h1, h2, h3, h4, qq⟩
    · exact op_eq_dictA (by have := hr.units; omega) pins s σ H _ _ v u Q I rx ry ⟨p, p, _, _, rfl, rfl, hp, hp, rfl, one_flat fw, qq⟩
  | ne =>
    have e := notO_some (o := eqA h a b) e
    rcases eqA_of r va vb e with ⟨h1, h2⟩ | ⟨p, p', h1, h2, h3, h4, h5⟩ | ⟨p, kk, w, rfl, rfl, hp, fw, h5⟩
    · exact op_ne pins s σ H x y v u Q I rx ry ⟨h1, by rw [← h2, Bool.not_not]; exact qq⟩
    · exact op_neD hr.units pins s σ H x y v u Q I rx ry ⟨p, p', h1, h2, h3, h4, by rw [← h5, Bool.not_not]; exact qq⟩
    · exact op_ne_dictA (by have := hr.units; omega) pins s σ H _ _ v u Q I rx ry ⟨p, p, _, _, rfl, rfl, hp, hp, rfl, one_flat fw, by
        have h5 : k = false := by cases k <;> first | rfl | cases h5
        rw [h5] at qq
        exact qq⟩
  | lt =>
    have e' : ordA .lt a b = some k := e
    unfold ordA at e'
    split at e'
    case h_1 i j =>
      obtain rfl := va.int_inv
      obtain rfl := vb.int_inv
      cases e'
      exact op_lt pins s σ H _ _ v u Q I rx ry ⟨i, j, rfl, rfl, qq⟩
    case h_2 i j =>
      obtain rfl := va.str_inv
      obtain rfl := vb.str_inv
      cases e'
      exact op_lt_str pins s σ H _ _ v u Q I rx ry ⟨_, _, rfl, rfl, by rw [toStr_list, toStr_list, ← ltT_dec]; exact qq⟩
    case h_3 => cases e'
  | le =>
    have e' : ordA .le a b = some k := e
    unfold ordA at e'
    split at e'
    case h_1 i j =>
      obtain rfl := va.int_inv
      obtain rfl := vb.int_inv
      cases e'
      exact op_le pins s σ H _ _ v u Q I rx ry ⟨i, j, rfl, rfl, qq⟩
    case h_2 i j =>
      obtain rfl := va.str_inv
      obtain rfl := vb.str_inv
      cases e'
      exact op_le_str pins s σ H _ _ v u Q I rx ry ⟨_, _, rfl, rfl, by rw [toStr_list, toStr_list, ← ltT_dec]; exact qq⟩
    case h_3 => cases e'
  | gt =>
    have e' : ordA .gt a b = some k := e
    unfold ordA at e'
    split at e'
    case h_1 i j =>
      obtain rfl := va.int_inv
      obtain rfl := vb.int_inv
      cases e'
      exact op_gt pins s σ H _ _ v u Q I rx ry ⟨i, j, rfl, rfl, qq⟩
    case h_2 i j =>
      obtain rfl := va.str_inv
      obtain rfl := vb.str_inv
      cases e'
      exact op_gt_str pins s σ H _ _ v u Q I rx ry ⟨_, _, rfl, rfl, by rw [toStr_list, toStr_list, ← ltT_dec]; exact qq⟩
    case h_3 => cases e'
  | ge =>
    have e' : ordA .ge a b = some k := e
    unfold ordA at e'
    split at e'
    case h_1 i j =>
      obtain rfl := va.int_inv
      obtain rfl := vb.int_inv
      cases e'
      exact op_ge pins s σ H _ _ v u Q I rx ry ⟨i, j, rfl, rfl, qq⟩
    case h_2 i j =>
      obtain rfl := va.str_inv
      obtain rfl := vb.str_inv
      cases e'
      exact op_ge_str pins s σ H _ _ v u Q I rx ry ⟨_, _, rfl, rfl, by rw [toStr_list, toStr_list, ← ltT_dec]; exact qq⟩
    case h_3 => cases e'
  | is =>
    have e' : isA a b = some k := e
    unfold isA at e'
    split at e'
    case h_1 =>
      obtain rfl := vb.non_inv
      refine op_isN pins s σ H x _ v u Q I rx ry ⟨rfl, ?_⟩
      have z : decide (x = .non) = k := by
        cases va <;> cases e' <;> rfl
      rw [z]; exact qq
    case h_2 cc =>
      obtain rfl := vb.bl_inv
      have fl : flat a = true := by cases a <;> first | rfl | cases e'
      obtain ⟨z1, z2⟩ := is_flat rx ry ⟨a, fl, ρ, H, va⟩ (.inr ⟨cc, rfl⟩)
      refine wpAny_is_plain z1 ⟨.bl k, H, I, ?_, qq⟩
      show Value.bool (v == u) = Value.bool k
      rw [z2]
      cases va <;> first | cases fl | skip
      · cases e'; rfl
      · rename_i dd
        cases e'
        cases cc <;> cases dd <;> rfl
      · cases e'; rfl
      · cases e'; rfl
    case h_3 => cases e'
  | isn =>
    have e' : isA a b = some (!k) := notO_some (o := isA a b) e
    unfold isA at e'
    split at e'
    case h_1 =>
      obtain rfl := vb.non_inv
      refine op_notN pins s σ H x _ v u Q I rx ry ⟨rfl, ?_⟩
      have z : (!decide (x = .non)) = k := by
        have z2 : decide (x = .non) = !k := by
          cases va <;> (first | (have := Option.some.inj e'; rw [← this]; rfl))
        rw [z2, Bool.not_not]
      rw [z]; exact qq
    case h_2 cc =>
      obtain rfl := vb.bl_inv
      have fl : flat a = true := by cases a <;> first | rfl | cases e'
      obtain ⟨z1, z2⟩ := is_flat rx ry ⟨a, fl, ρ, H, va⟩ (.inr ⟨cc, rfl⟩)
      refine wpAny_isNot_plain z1 ⟨.bl k, H, I, ?_, qq⟩
      show Value.bool (!(v == u)) = Value.bool k
      rw [z2]
      have e2 : k = !(!k) := (Bool.not_not k).symm
      rw [e2]
      cases va <;> first | cases fl | skip
      · rw [← Option.some.inj e']; rfl
      · rename_i dd
        rw [← Option.some.inj e']
        cases cc <;> cases dd <;> rfl
      · rw [← Option.some.inj e']; rfl
      · rw [← Option.some.inj e']; rfl
    case h_3 => cases e'
  | inn =>
    rcases in_of (Q := Q) hw r va vb e with ⟨c, z, rfl, rfl, rfl⟩ | ⟨p, xs, rfl, h1, h2, h3, rfl⟩ | ⟨p, ds, h1, h2, h3, h4, rfl⟩ | ⟨p, p', j, rfl, rfl, h1, rfl⟩ | ⟨p, es, n, z, o, rfl, rfl, h1, h2, rfl⟩
    · exact op_in_sign pins s σ H _ _ v u Q I rx ry ⟨c, z, rfl, rfl, qq⟩
    · exact op_in_seq pins s σ H _ _ v u Q I rx ry ⟨p, xs, rfl, h1, h2, h3, qq⟩
    · exact op_inD (by have := hr.un; omega) pins s σ H _ _ v u Q I rx ry ⟨p, ds, h1, h2, h3, h4, qq⟩
    · exact op_in_dict (hu1 hr) pins s σ H _ _ v u Q I rx ry ⟨p, p', j, rfl, rfl, h1, qq⟩
    · exact op_in_kd h1 pins s σ H _ _ v u Q I rx ry ⟨z, o, rfl, rfl, h2, qq⟩
  | nin =>
    have e := notO_some (o := orO (inOf h a b) (wdIn S.T.wds a b)) e
    rcases in_of (Q := Q) hw r va vb e with ⟨c, z, rfl, rfl, h9⟩ | ⟨p, xs, rfl, h1, h2, h3, h9⟩ | ⟨p, ds, h1, h2, h3, h4, h9⟩ | ⟨p, p', j, rfl, rfl, h1, h9⟩ | ⟨p, es, n, z, o, rfl, rfl, h1, h2, h9⟩
    · exact op_notIn_sign pins s σ H _ _ v u Q I rx ry ⟨c, z, rfl, rfl, by rw [← h9, Bool.not_not]; exact qq⟩
    · exact op_notIn_seq pins s σ H _ _ v u Q I rx ry ⟨p, xs, rfl, h1, h2, h3, by show Q (.bl (!inV x xs)) H; rw [← h9, Bool.not_not]; exact qq⟩
    · exact op_notInD (by have := hr.un; omega) pins s σ H _ _ v u Q I rx ry ⟨p, ds, h1, h2, h3, h4, by rw [← h9, Bool.not_not]; exact qq⟩
    · exact op_nin_dict (hu1 hr) pins s σ H _ _ v u Q I rx ry ⟨p, p', j, rfl, rfl, h1, by rw [← h9, Bool.not_not]; exact qq⟩
    · exact op_notIn_kd h1 pins s σ H _ _ v u Q I rx ry ⟨z, o, rfl, rfl, h2, by rw [← h9, Bool.not_not]; exact qq⟩
end
end Ms

set_option Elab.async false
set_option linter.all false
set_option maxRecDepth 100000
/-! Comparisons as syntax, lists of arguments, displays, items, slices, fields. -/
namespace Ms
open PySem PySem.Spec L2 Mm
open PyProof.Rows hiding St
/-- what is read off the machine's tables alone -/
structure Sok (S : Sg) : Prop where
  inj : ∀ f ∈ S.flds, ∀ g ∈ S.flds, S.nm f = S.nm g → f = g
  dis : ∀ f ∈ S.flds, ∀ m ∈ S.mets, S.nm f ≠ S.nm m
  noEq : ∀ c, lookM S.T c 0 = none
  noLen : ∀ c, lookM S.T c 1 = none
section
variable {S : Sg} {X : Cx} {d : Nat} {W : WX} {a b c : Expr} {A B C : E} {pos : Pos} {ρ : List Addr} {h : AH} {H : Hp} {l : Lo} {σ : St} {K : PySem.W.Frag}
theorem cmp_of {o : Cop} {Q : VK} (so : Sok S) (r : HR S X.K ρ h H) (lr : LR S X.K ρ H l σ) (q : Ans S X.K ρ H (ev S.T (run S.T d) (.cmp o A B) l h) (kAv S X.K Q) (eW S X.K W σ)) :
    tOp (rOp S X.K (fCmp S o)) (tEv S X.K d W A) (tEv S X.K d W B) σ H Q := by
  unfold ev at q
  refine tE_of r lr q fun v h1 ρ1 H1 u r1 e1 hu q1 => ?_
  refine tE_of r1 (lr.mono r e1) q1 fun w h2 ρ2 H2 u2 r2 e2 hu2 q2 => ?_
  refine ⟨ρ2, h2, v, w, r2, hu.mono r1 e2, hu2, ?_⟩
  have q3 : Ans S X.K ρ2 H2 (fCmp S o v w h2) (kAv S X.K Q) (eW S X.K W σ) := by
    split at q2
    · rw [so.noEq] at q2
      exact q2.elim
    · exact q2
  exact q3.noX (noX_cmp _ _ _ _)
theorem ce_cmp {o : Cop} (so : Sok S) (hw : WdOk S X.K X.w) (hr : Room d X.A) (ha : CE S X d W a A) (hb : CE S X d W b B) (hm : behindInMarks (copOf o) b = false) : CE S X d W (.Compare a [copOf o] [b] pos) (.cmp o A B) :=
  (pe_cmpR (op_cmp o hw hr) ha hb hm).imp fun σ H Q ⟨ρ, h, l, r, lr, q⟩ => cmp_of so r lr q
/-- a test whose value is a truth -/
theorem test_of {e : E} {t : TE} {Q : Bool → Hp → Prop} (g : ∀ σ H (Q : VK), tEv S X.K d W e σ H Q → t σ H Q) (bl : ∀ l h v h1, ev S.T (run S.T d) e l h = .ok v h1 → ∃ k, v = .bl k) (q : tTr S X.K d W e σ H Q) : tTest t σ H Q := by
  obtain ⟨ρ, h, l, r, lr, q⟩ := q
  refine g σ H _ ⟨ρ, h, l, r, lr, ?_⟩
  cases e1 : ev S.T (run S.T d) e l h with
  | bad => rw [e1] at q; exact q
  | ex x h1 => rw [e1] at q; exact q
  | ok v h1 =>
    rw [e1] at q
    obtain ⟨k, rfl⟩ := bl l h v h1 e1
    intro ρ' H' r' x' u hu
    obtain rfl := hu.bl_inv
    exact ⟨k, rfl, q ρ' H' r' x'⟩
theorem bind_ok {α β : Type} {r : Rs α} {f : α → AH → Rs β} {b : β} {h1 : AH} (e : r.bind f = .ok b h1) : ∃ a h, r = .ok a h ∧ f a h = .ok b h1 := by
  cases r with
  | ok a h => exact ⟨a, h, rfl, e⟩
  | ex x h => cases e
  | bad => cases e
theorem bO_bl {o : Option Bool} {h h1 : AH} {v : AV} (e : bO o h = .ok v h1) : ∃ k, v = .bl k := by
  cases o with
  | none => cases e
  | some k => cases e; exact ⟨k, rfl⟩
theorem cmp_bl {o : Cop} (so : Sok S) (l : Lo) (h : AH) (v : AV) (h1 : AH) (e : ev S.T (run S.T d) (.cmp o A B) l h = .ok v h1) : ∃ k, v = .bl k := by
  unfold ev at e
  cases e1 : ev S.T (run S.T d) A l h with
  | bad => rw [e1] at e; cases e
  | ex x h1 => rw [e1] at e; cases e
  | ok x h2 =>
    rw [e1] at e
    have e' : (ev S.T (run S.T d) B l h2).bind (fun y h => (match clsOf h x, o with
      | some c, .eq => (match lookM S.T c 0 with
        | some f => run S.T d f [x, y] h
        | none => .bad)
      | _, _ => bO (cmpA S.T.wds h o x y) h)) = .ok v h1 := e
    cases e2 : ev S.T (run S.T d) B l h2 with
    | bad => rw [e2] at e'; cases e'
    | ex x h1 => rw [e2] at e'; cases e'
    | ok y h3 =>
      rw [e2] at e'
      have e3 : (match clsOf h3 x, o with
        | some c, .eq => (match lookM S.T c 0 with
          | some f => run S.T d f [x, y] h3
          | none => .bad)
        | _, _ => bO (cmpA S.T.wds h3 o x y) h3) = .ok v h1 := e'
      split at e3
      · rw [so.noEq] at e3; cases e3
      · exact bO_bl e3
theorem ct_cmp {o : Cop} (so : Sok S) (hw : WdOk S X.K X.w) (hr : Room d X.A) (ha : CE S X d W a A) (hb : CE S X d W b B) (hm : behindInMarks (copOf o) b = false) : CT S X d W (.Compare a [copOf o] [b] pos) (.cmp o A B) :=
  (pt_cmpR (op_cmp o hw hr) ha hb hm).imp fun σ H Q q => test_of (fun σ H Q ⟨ρ, h, l, r, lr, q⟩ => cmp_of so r lr q) (cmp_bl so) q
theorem chn_of {o o' : Cop} {Q : VK} (r : HR S X.K ρ h H) (lr : LR S X.K ρ H l σ) (q : Ans S X.K ρ H (ev S.T (run S.T d) (.chn o o' A B C) l h) (kAv S X.K Q) (eW S X.K W σ)) :
    tChain (rOp S X.K (fCmp S o)) (rOp S X.K (fCmp S o')) (tEv S X.K d W A) (tEv S X.K d W B) (tEv S X.K d W C) σ H Q := by
  unfold ev at q
  refine tE_of r lr q fun v h1 ρ1 H1 u r1 e1 hu q1 => ?_
  refine tE_of r1 (lr.mono r e1) q1 fun w h2 ρ2 H2 u2 r2 e2 hu2 q2 => ?_
  refine ⟨ρ2, h2, v, w, r2, hu.mono r1 e2, hu2, ?_⟩
  show Ans S X.K ρ2 H2 (bO (cmpA S.T.wds h2 o v w) h2) _ eN
  cases e3 : cmpA S.T.wds h2 o v w with
  | none => rw [e3] at q2; exact q2
  | some k =>
    rw [e3] at q2
    intro ρ3 H3 r3 e4 z hz
    obtain rfl := hz.bl_inv
    refine ⟨k, rfl, ?_⟩
    cases k with
    | false => exact iteF (q2 ρ3 H3 r3 e4 _ (.bl false))
    | true =>
      refine iteT ?_
      have q3 := Ans.ext e4 q2
      refine tE_of r3 ((lr.mono r e1).mono r1 (e2.trans e4)) q3 fun z h4 ρ4 H4 u4 r4 e5 hu4 q4 => ?_
      exact ⟨ρ4, h4, w, z, r4, (hu2.mono r2 e4).mono r3 e5, hu4, q4.noX (noX_cmp _ _ _ _)⟩
theorem ce_chn {o o' : Cop} (hw : WdOk S X.K X.w) (hr : Room d X.A) (ha : CE S X d W a A) (hb : CE S X d W b B) (hc : CE S X d W c C) (hm : lastMarks [copOf o, copOf o'] [b, c] = false) : CE S X d W (.Compare a [copOf o, copOf o'] [b, c] pos) (.chn o o' A B C) :=
  (pe_chain (op_cmp o hw hr) (op_cmp o' hw hr) ha hb hc hm).imp fun σ H Q ⟨ρ, h, l, r, lr, q⟩ => chn_of r lr q
theorem chn_bl {o o' : Cop} (l : Lo) (h : AH) (v : AV) (h1 : AH) (e : ev S.T (run S.T d) (.chn o o' A B C) l h = .ok v h1) : ∃ k, v = .bl k := by
  unfold ev at e
  obtain ⟨x, h2, _, e⟩ := bind_ok e
  obtain ⟨y, h3, _, e⟩ := bind_ok e
  split at e
  case h_1 =>
    obtain ⟨z, h4, _, e⟩ := bind_ok e
    exact bO_bl e
  case h_2 => cases e; exact ⟨_, rfl⟩
  case h_3 => cases e
theorem ct_chn {o o' : Cop} (hw : WdOk S X.K X.w) (hr : Room d X.A) (ha : CE S X d W a A) (hb : CE S X d W b B) (hc : CE S X d W c C) (hm : lastMarks [copOf o, copOf o'] [b, c] = false) : CT S X d W (.Compare a [copOf o, copOf o'] [b, c] pos) (.chn o o' A B C) :=
  (pt_chain (op_cmp o hw hr) (op_cmp o' hw hr) ha hb hc hm).imp fun σ H Q q => test_of (fun σ H Q ⟨ρ, h, l, r, lr, q⟩ => chn_of r lr q) chn_bl q

/-! ### arguments, displays -/
theorem ca_nil : CA S X d W [] .nil := pa_nil.imp fun σ H Q ⟨ρ, h, l, r, lr, q⟩ => by
  unfold evs at q
  exact q.now r _ .nil
theorem ca_cons {es : List Expr} {Es : E} (ha : CE S X d W a A) (hr : CA S X d W es Es) (hs : starEach (a :: es) X.env = (false, eval a X.env) :: starEach es X.env) : CA S X d W (a :: es) (.cons A Es) :=
  (pa_cons ha hr hs).imp fun σ H Q ⟨ρ, h, l, r, lr, q⟩ => by
    unfold evs at q
    refine tE_of r lr q fun v h1 ρ1 H1 u r1 e1 hu q1 => ?_
    refine tA_of r1 (lr.mono r e1) q1 fun w h2 ρ2 H2 u2 r2 e2 hu2 q2 => ?_
    exact q2.now r2 _ (.cons (hu.mono r1 e2) hu2)
theorem ce_tup {es : List Expr} {Es : E} {k : Nat} (ha : CA S X d W es Es) : CE S X d W (.Tuple es k pos) (.tup Es) :=
  (pe_tup ha).imp fun σ H Q ⟨ρ, h, l, r, lr, q⟩ => by
    unfold ev at q
    refine tA_of r lr q fun w h2 ρ2 H2 u2 r2 e2 hu2 q2 => ?_
    split at q2
    case h_2 => exact q2.elim
    case h_1 z => exact ⟨by rw [← hu2.length]; exact okL_ok z, tup_of r2 hu2 q2⟩
theorem ce_lst {es : List Expr} {Es : E} (ha : CA S X d W es Es) : CE S X d W (.List es pos) (.lst Es) :=
  (pe_lst ha).imp fun σ H Q ⟨ρ, h, l, r, lr, q⟩ => by
    unfold ev at q
    refine tA_of r lr q fun w h2 ρ2 H2 u2 r2 e2 hu2 q2 => ?_
    exact newL_of r2 q2 hu2

/-! ### items -/
theorem ixA_eq (n : Nat) (i : Int) : ixA n i = ixN n i := rfl
theorem atI_of {xs : List AV} {vs : List V} {i : Int} {v : AV} (r : VRs S K ρ H xs vs) (e : ((ixA xs.length i).bind fun j => xs[j]?) = some v) : ∃ u, atI vs i = some u ∧ VR S K ρ H v u := by
  rw [ixA_eq] at e
  unfold atI
  rw [← r.length]
  cases z : ixN xs.length i with
  | none => rw [z] at e; cases e
  | some j =>
    rw [z] at e
    have e' : xs[j]? = some v := e
    obtain ⟨u, h1, h2⟩ := r.get e'
    exact ⟨u, h1, h2⟩
theorem vO_of {Q : VK} {o : Option AV} {e : AX → List Addr → Hp → Prop} (r : HR S K ρ h H) (q : Ans S K ρ H (vO o h) (kAv S K Q) e) : ∃ v, o = some v ∧ ∀ u, VR S K ρ H v u → Q u H := by
  cases o with
  | none => exact q.elim
  | some k => exact ⟨k, rfl, q.now r⟩
def rIxDk : R2 := fun x y H Q => ∃ p q k v, x = .ref p ∧ y = kV k ∧ Rd H p (.dK q) ∧ valV q k = some v ∧ Q v H
theorem ix_dict (hu : X.A.units + 1 < cLine) : IxR X rIxDk := by
  intro value slice pins s σ H x y v u Q I rx ry h hs
  obtain ⟨p, q, k, z, rfl, rfl, e, ez, w⟩ := h
  obtain rfl : v = Value.ref p := rx
  have g := DGet.rd (k := k) e
  rw [ez] at g
  exact tail_any (dict_typeIs I g) slot_dict_getitem.lookup (d_getItem hu I g ry fun w' s' I' r' => ⟨z, H, I', r', w⟩) hs
def rIxAll (K : PySem.W.Frag) (w : World) : R2 := fun x y H Q => rIx K x y H Q ∨ rIxDk x y H Q ∨ rIxD K w x y H Q
theorem ix_all (hu : X.A.units + 1 < cLine) : IxR X (rIxAll X.K X.w) := ix_seq.or ((ix_dict hu).or ix_kdict)
theorem ix_of {Q : VK} (hw : WdOk S X.K X.w) (r : HR S X.K ρ h H) {va vb : AV} {x y : V} (rx : VR S X.K ρ H va x) (ry : VR S X.K ρ H vb y) (q : Ans S X.K ρ H (getA S.T.wds va vb h) (kAv S X.K Q) eN) : rIxAll X.K X.w x y H Q := by
  unfold getA at q
  split at q
  case h_1 xs k =>
    obtain ⟨v, e, q⟩ := vO_of r q
    obtain ⟨p, vs, rfl, sp, vx⟩ := rx.tup_inv
    obtain rfl := ry.int_inv
    obtain ⟨u, h1, h2⟩ := atI_of vx e
    exact .inl (.inr (.inl ⟨p, vs, k, u, rfl, rfl, sp, h1, q u h2⟩))
  case h_2 s k =>
    split at q
    case h_2 => exact q.elim
    case h_1 zz =>
    obtain ⟨v, e, q⟩ := vO_of r q
    obtain rfl := rx.str_inv
    obtain rfl := ry.int_inv
    cases z : ixN s.length k with
    | none => rw [ixA_eq, z] at e; cases e
    | some j =>
      rw [ixA_eq, z] at e
      have e' : (s[j]?).map (fun c => AV.str [c]) = some v := e
      cases z2 : s[j]? with
      | none => rw [z2] at e'; cases e'
      | some c =>
        rw [z2] at e'
        cases e'
        refine .inl (.inr (.inr ⟨toStr s, k, c, rfl, rfl, by rw [toStr_length]; exact okL_ok zz, ?_, q _ (.str [c])⟩))
        unfold atI
        rw [toStr_list, z]
        exact z2
  case h_3 i k =>
    obtain ⟨p, rfl, ep⟩ := rx.ref_inv
    split at q
    case h_1 xs k e1 =>
      obtain ⟨v, e, q⟩ := vO_of r q
      obtain rfl := ry.int_inv
      obtain ⟨vs, hp, vx⟩ := r.lst ep e1
      obtain ⟨u, h1, h2⟩ := atI_of vx e
      exact .inl (.inl ⟨p, vs, k, u, rfl, rfl, SqL.of hp, h1, q u h2⟩)
    case h_2 xs k e1 =>
      obtain ⟨v, e, q⟩ := vO_of r q
      obtain rfl := ry.int_inv
      obtain ⟨vs, hp, vx⟩ := r.flst ep e1
      obtain ⟨u, h1, h2⟩ := atI_of vx e
      exact .inl (.inl ⟨p, vs, k, u, rfl, rfl, hp, h1, q u h2⟩)
    case h_3 lk kvs k e1 =>
      split at q
      case h_2 => exact q.elim
      case h_1 j e2 =>
      obtain ⟨v, e, q⟩ := vO_of r q
      obtain ⟨qs, hp, kv, _⟩ := r.dic ep e1
      obtain ⟨u, h1, h2⟩ := getK_some kv e
      exact .inr (.inl ⟨p, qs, kR j, u, rfl, keyOf_ok ry e2, hp, h1, q u h2⟩)
    case h_4 => exact q.elim
  case h_4 i s =>
    obtain ⟨v, e, q⟩ := vO_of r q
    obtain rfl := rx.wd_inv
    obtain rfl := ry.str_inv
    unfold wdGet at e
    split at e
    case h_2 => cases e
    case h_1 kvs e2 =>
    obtain ⟨⟨es, n, kd⟩, f⟩ := hw i kvs e2
    have f := f s
    split at e
    case h_2 => cases e
    case h_1 qq e3 =>
    rw [e3] at f
    obtain ⟨vv, u, f1, f2, f3⟩ := f
    cases e
    exact .inr (.inr ⟨_, _, vv, rfl, rfl, ⟨es, n, u, kd.at_, kd.lit, f1, f2⟩, q _ (f3 ρ H)⟩)
  case h_5 => exact q.elim
theorem ce_idx (hw : WdOk S X.K X.w) (hr : Room d X.A) (ha : CE S X d W a A) (hb : CE S X d W b B) (hs : PlainIx b) : CE S X d W (.Subscript a b pos) (.idx A B) :=
  (pe_ix (ix_all (hu1 hr)) ha hb hs).imp fun σ H Q ⟨ρ, h, l, r, lr, q⟩ => by
    unfold ev at q
    refine tE_of r lr q fun v h1 ρ1 H1 u r1 e1 hu q1 => ?_
    refine tE_of r1 (lr.mono r e1) q1 fun w h2 ρ2 H2 u2 r2 e2 hu2 q2 => ?_
    exact ix_of hw r2 (hu.mono r1 e2) hu2 (q2.noX (noX_getA _ _ _ _))

/-! ### slices -/
theorem clipA_eq (n dd : Nat) (o : Option Int) : clipA n dd o = HT.sIx n dd o := by cases o <;> rfl
theorem cut_ok {xs : List AV} {vs : List V} (r : VRs S K ρ H xs vs) (lo hi : Option Int) : VRs S K ρ H (cutA xs lo hi) (cutV vs lo hi) := by
  unfold cutA cutV
  rw [clipA_eq, clipA_eq, r.length]
  exact (r.drop _).take _
theorem cutS_ok (s : Tx) (lo hi : Option Int) : cutS (toStr s) lo hi = toStr (cutA s lo hi) := by
  unfold cutS cutA
  rw [clipA_eq, clipA_eq, toStr_length, toStr_list]
  rfl
def rSlAll (K : PySem.W.Frag) : V → Option Int → Option Int → Hp → VK → Prop := fun x lo hi H Q => rSlL K x lo hi H Q ∨ rSlA K x lo hi H Q ∨ rSlS x lo hi H Q
theorem sl_all : SlR X (rSlAll X.K) := sl_list.or (sl_tupA.or sl_str)
def tO (S : Sg) (K : PySem.W.Frag) (d : Nat) (W : WX) (e : E) : TO := fun σ H Q => ∃ ρ h l, HR S K ρ h H ∧ LR S K ρ H l σ ∧ Ans S K ρ H (ev S.T (run S.T d) e l h) (fun v _ _ H' => ∃ o, optP e v = some o ∧ Q o H') (eW S K W σ)
theorem co_none : PO X none (tO S X.K d W .no) := by
  refine ⟨fun pins s σ H Q I q => po_none.run pins s σ H Q I ?_⟩
  obtain ⟨ρ, h, l, r, lr, q⟩ := q
  unfold ev at q
  obtain ⟨o, e, q⟩ := q.now r
  cases e
  exact q
theorem co_some (ha : CE S X d W a A) (hn : A ≠ .no) : PO X (some a) (tO S X.K d W A) := by
  refine ⟨fun pins s σ H Q I q => (po_some ha).run pins s σ H Q I ?_⟩
  obtain ⟨ρ, h, l, r, lr, q⟩ := q
  refine ⟨ρ, h, l, r, lr, q.imp (fun v h' ρ' H' r' e' z u hu => ?_) fun _ _ _ z => z⟩
  obtain ⟨o, e, z⟩ := z
  unfold optP at e
  split at e
  case h_1 => exact absurd rfl hn
  case h_2 =>
  split at e
  case h_2 => cases e
  case h_1 i =>
  cases e
  obtain rfl := hu.int_inv
  exact ⟨i, rfl, z⟩
theorem noX_slice (o : AV) (lo hi : Option (Option Int)) (h : AH) : NoX (sliceA o lo hi h) := by
  unfold sliceA
  repeat' split
  all_goals first | trivial | exact noX_newL
theorem sl_of {Q : VK} (r : HR S X.K ρ h H) {va : AV} {x : V} {lo hi : Option Int} (rx : VR S X.K ρ H va x) (q : Ans S X.K ρ H (sliceA va (some lo) (some hi) h) (kAv S X.K Q) eN) : rSlAll X.K x lo hi H Q := by
  unfold sliceA at q
  dsimp only at q
  split at q
  case h_1 s =>
    split at q
    case h_2 => exact q.elim
    case h_1 z =>
    obtain rfl := rx.str_inv
    refine .inr (.inr ⟨toStr s, rfl, by rw [toStr_length]; exact okL_ok z, ?_⟩)
    rw [cutS_ok]
    exact q.now r _ (.str _)
  case h_2 xs =>
    obtain ⟨p, vs, rfl, sp, vx⟩ := rx.tup_inv
    refine .inr (.inl ⟨p, vs, rfl, sp, fun ⟨z1, z2⟩ => ?_, fun _ => tup_of r (cut_ok vx lo hi) q⟩)
    have e : cutA xs lo hi = xs := by
      unfold cutA
      rw [clipA_eq, clipA_eq, vx.length, z1, z2, List.drop_zero, Nat.sub_zero, ← vx.length, List.take_length]
    rw [e] at q
    exact q.now r _ rx
  case h_3 i =>
    obtain ⟨p, rfl, ep⟩ := rx.ref_inv
    split at q
    case h_2 => exact q.elim
    case h_1 xs e1 =>
    obtain ⟨vs, hp, vx⟩ := r.lst ep e1
    exact .inl ⟨p, vs, rfl, SqL.of hp, (newL_of r q (cut_ok vx lo hi)).2⟩
  case h_4 => exact q.elim
theorem ce_sl {lo hi : Option Expr} {Lo Hi : E} {p2 : Pos} (ha : CE S X d W a A) (hl : PO X lo (tO S X.K d W Lo)) (hh : PO X hi (tO S X.K d W Hi)) : CE S X d W (.Subscript a (.Slice lo hi none p2) pos) (.sl A Lo Hi) :=
  (pe_slice sl_all ha hl hh).imp fun σ H Q ⟨ρ, h, l, r, lr, q⟩ => by
    unfold ev at q
    refine tE_of r lr q fun v h1 ρ1 H1 u r1 e1 hu q1 => ?_
    refine ⟨ρ1, h1, l, r1, lr.mono r e1, q1.bind.imp (fun y h2 ρ2 H2 r2 e2 q2 => ?_) fun _ _ _ z => z⟩
    cases o1 : optP Lo y with
    | none => rw [o1] at q2; exact q2.elim
    | some o =>
      rw [o1] at q2
      refine ⟨o, rfl, ρ2, h2, l, r2, (lr.mono r e1).mono r1 e2, q2.bind.imp (fun z h3 ρ3 H3 r3 e3 q3 => ?_) fun _ _ _ z => z⟩
      cases o2 : optP Hi z with
      | none => rw [o2] at q3; exact q3.elim
      | some o' =>
        rw [o2] at q3
        exact ⟨o', rfl, sl_of r3 ((hu.mono r1 e2).mono r2 e3) (q3.noX (noX_slice _ _ _ _))⟩

/-! ### fields -/
theorem FRs.get (so : Sok S) {fs : List (Nat × AV)} {q : List (Str × V)} (r : FRs S K ρ H fs q) {f : Nat} {v : AV} (hk : ∀ p ∈ fs, p.1 ∈ S.flds) (hf : f ∈ S.flds) (e : getF f fs = some v) : ∃ u, q.lookup (S.nm f) = some u ∧ VR S K ρ H v u := by
  induction r with
  | nil => cases e
  | @cons k x u xs vs a b ih =>
    unfold getF at e
    cases z : Nat.beq k f with
    | true =>
      rw [z] at e
      obtain rfl := Nat.eq_of_beq_eq_true z
      cases e
      exact ⟨u, by simp [List.lookup_cons], a⟩
    | false =>
      rw [z] at e
      obtain ⟨u', h1, h2⟩ := ih (fun p hp => hk p (List.mem_cons_of_mem _ hp)) e
      refine ⟨u', ?_, h2⟩
      have ne : (S.nm f == S.nm k) = false := beq_eq_false_iff_ne.mpr fun y => by
        have := so.inj f hf k (hk (k, x) List.mem_cons_self) y
        subst this
        have z9 : Nat.beq f f = true := Nat.beq_refl f
        rw [z9] at z
        cases z
      rw [List.lookup_cons, ne]
      exact h1
theorem FRs.put (so : Sok S) {fs : List (Nat × AV)} {q : List (Str × V)} (r : FRs S K ρ H fs q) {f : Nat} {v : AV} {u : V} (hk : ∀ p ∈ fs, p.1 ∈ S.flds) (hf : f ∈ S.flds) (rv : VR S K ρ H v u) : FRs S K ρ H (Mm.putF f v fs) (L2.putF (S.nm f) u q) := by
  induction r with
  | nil => exact .cons rv .nil
  | @cons k x w xs vs a b ih =>
    unfold Mm.putF L2.putF
    cases z : Nat.beq k f with
    | true =>
      obtain rfl := Nat.eq_of_beq_eq_true z
      have e9 : (if S.nm k = S.nm k then (S.nm k, u) :: vs else (S.nm k, w) :: L2.putF (S.nm k) u vs) = (S.nm k, u) :: vs := if_pos rfl
      rw [e9]
      exact .cons rv b
    | false =>
      have ne : ¬ S.nm k = S.nm f := fun y => by
        have := so.inj k (hk (k, x) List.mem_cons_self) f hf y
        subst this
        have z9 : Nat.beq k k = true := Nat.beq_refl k
        rw [z9] at z
        cases z
      rw [if_neg ne]
      exact .cons a (ih fun p hp => hk p (List.mem_cons_of_mem _ hp))
theorem FRs.length {fs : List (Nat × AV)} {q : List (Str × V)} (r : FRs S K ρ H fs q) : fs.length = q.length := by
  induction r with
  | nil => rfl
  | cons _ _ ih => simp [ih]
theorem FRs.no (so : Sok S) {fs : List (Nat × AV)} {q : List (Str × V)} (r : FRs S K ρ H fs q) {m : Nat} (hk : ∀ p ∈ fs, p.1 ∈ S.flds) (hm : m ∈ S.mets) : q.lookup (S.nm m) = none := by
  induction r with
  | nil => rfl
  | @cons k x u xs vs a b ih =>
    have ne : (S.nm m == S.nm k) = false := beq_eq_false_iff_ne.mpr fun y => so.dis k (hk (k, x) List.mem_cons_self) m hm y.symm
    rw [List.lookup_cons, ne]
    exact ih fun p hp => hk p (List.mem_cons_of_mem _ hp)
theorem putF_keys {fs : List (Nat × AV)} {f : Nat} {v : AV} {P : Nat → Prop} (hk : ∀ p ∈ fs, P p.1) (hf : P f) : ∀ p ∈ Mm.putF f v fs, P p.1 := by
  induction fs with
  | nil =>
    intro p hp
    rw [List.mem_singleton.mp hp]
    exact hf
  | cons q r ih =>
    obtain ⟨k, x⟩ := q
    intro p hp
    unfold Mm.putF at hp
    split at hp
    · rcases List.mem_cons.mp hp with rfl | hp
      · exact hk (k, x) List.mem_cons_self
      · exact hk p (List.mem_cons_of_mem _ hp)
    · rcases List.mem_cons.mp hp with rfl | hp
      · exact hk _ List.mem_cons_self
      · exact ih (fun q hq => hk q (List.mem_cons_of_mem _ hq)) p hp
theorem noX_fld (o : AV) (f : Nat) (h : AH) : NoX (fldA o f h) := by
  unfold fldA
  repeat' split
  all_goals first | trivial | exact noX_vO _ _
theorem FRs.get2 (so : Sok S) {fs : List (Nat × AV)} {q : List (Str × V)} (r : FRs S X.K ρ H fs q) {f : Nat} {v : AV} (hk : ∀ p ∈ fs, p.1 ∈ S.flds) (hf : f ∈ S.flds) (e : getF f fs = some v) : ∃ u, q.lookup (S.nm f) = some u ∧ VR S X.K ρ H v u := FRs.get so r hk hf e
theorem fld_of {Q : VK} (so : Sok S) {f : Nat} (hf : f ∈ S.flds) (r : HR S X.K ρ h H) {va : AV} {x : V} {e : AX → List Addr → Hp → Prop} (rx : VR S X.K ρ H va x) (q : Ans S X.K ρ H (fldA va f h) (kAv S X.K Q) e) :
    (∃ a C dx fs v, x = .ref a ∧ H a = some (.ins C dx fs) ∧ Cls X.K C ∧ NoAttr X.K C (S.nm f) ∧ fs.lookup (S.nm f) = some v ∧ Q v H) ∨ rXget X.K (S.nm f) x H Q := by
  unfold fldA at q
  split at q
  case h_2 => exact q.elim
  case h_1 i =>
  obtain ⟨p, rfl, ep⟩ := rx.ref_inv
  split at q
  case h_1 c fs e1 =>
    obtain ⟨v, e, q⟩ := vO_of r q
    obtain ⟨⟨cf, hk⟩, dx, qs, hp, fr⟩ := r.ins ep e1
    obtain ⟨u, h1, h2⟩ := fr.get so hk hf e
    exact .inl ⟨p, _, dx, qs, u, rfl, hp, cf.cls, cf.no f hf, h1, q u h2⟩
  case h_2 x2 j e1 =>
    split at q
    case h_2 => exact q.elim
    case h_1 fs e2 =>
    obtain ⟨v, e, q⟩ := vO_of r q
    obtain ⟨xf, t, dd, hp, hs, hd⟩ := r.at_ i p _ ep e1
    rcases hd with ⟨z, _⟩ | ⟨i2, dd, z, rfl, ed⟩
    · cases z
    · cases z
      obtain ⟨hk, qs, hq, fr⟩ := r.at_ _ dd _ ed e2
      obtain ⟨u, h1, h2⟩ := fr.get so hk hf e
      exact .inr ⟨p, _, _, dd, qs, u, rfl, ⟨t, xf.xl, hp, hs⟩, xf.no f hf, hq, h1, q u h2⟩
  case h_3 => exact q.elim
theorem pe_fld2 {n : Str} {te : TE} (he : PE X a te) (hb : attributeBase a n X.env (eval a X.env) = eval a X.env) :
    PE X (.Attribute a n pos) (fun σ H Q => te σ H fun x H1 => (∃ p C dx fs v, x = .ref p ∧ H1 p = some (.ins C dx fs) ∧ Cls X.K C ∧ NoAttr X.K C n ∧ fs.lookup n = some v ∧ Q v H1) ∨ rXget X.K n x H1 Q) := by
  refine ⟨fun pins s σ H Q I h => attr_of hb (thn (he.run pins s σ H _ I h) fun u s1 ⟨x, H1, I1, rx, q⟩ => ?_)⟩
  rcases q with ⟨p, C, dx, fs, v, rfl, ea, c, no, l, q⟩ | q
  · obtain rfl : u = Value.ref p := rx
    exact getattr_ok I1 ea c no l fun u' s2 I2 ru => ⟨v, H1, I2, ru, q⟩
  · exact get_x I1 rx q
theorem ce_fld {f : Nat} {n : Str} (so : Sok S) (hf : f ∈ S.flds) (hn : S.nm f = n) (ha : CE S X d W a A) (hb : attributeBase a n X.env (eval a X.env) = eval a X.env) : CE S X d W (.Attribute a n pos) (.fld A f) :=
  (pe_fld2 ha hb).imp fun σ H Q ⟨ρ, h, l, r, lr, q⟩ => by
    unfold ev at q
    refine tE_of r lr q fun v h1 ρ1 H1 u r1 e1 hu q1 => ?_
    subst hn
    exact fld_of so hf r1 hu q1
end
end Ms

set_option Elab.async false
set_option linter.all false
set_option maxRecDepth 100000
/-! Calls. -/
namespace Ms
open PySem PySem.Spec L2 Mm
open PyProof.Rows hiding St
/-- what a def promises: what the machine says of it -/
def spR (S : Sg) (K : PySem.W.Frag) (d : Nat) (f : Nat) : Sp := fun vs H Q E => ∃ ρ h as, HR S K ρ h H ∧ VRs S K ρ H as vs ∧ Ans S K ρ H (run S.T d f as h) (kAv S K Q) (fun x ρ' H' => ∀ c dd, XR S K ρ' H' x c dd → E c dd H')
/-- a def that is called -/
structure FnF (S : Sg) (X : Cx) (d : Nat) (f : Nat) : Prop where
  ex : ∃ fd ps, FnOk X.prog X.w X.K X.mg X.base (L2.CX X.prog X.w) (2 * d + 1) (S.fadr f) fd ps (spR S X.K d f) ∧ PySem.W.keepIn X.K (.ref (S.fadr f)) = true ∧ Binds X.K fd ps []
section
variable {S : Sg} {X : Cx} {d : Nat} {W : WX} {a b c : Expr} {A B C : E} {es : List Expr} {Es : E} {pos p apos : Pos} {ρ : List Addr} {h : AH} {H : Hp} {l : Lo} {σ : St} {K : PySem.W.Frag}
theorem two (d : Nat) : 2 * d + 1 ≤ 2 * d + 2 := Nat.le_succ _
theorem arr_nil (xs : List AV) : arr [] xs = some xs := rfl
/-- the arguments, then the call -/
theorem args_of {Q : VK} {f : Nat} (r : HR S X.K ρ h H) (lr : LR S X.K ρ H l σ) (q : Ans S X.K ρ H (ev S.T (run S.T d) (.call f Es []) l h) (kAv S X.K Q) (eW S X.K W σ)) : tEvs S X.K d W Es σ H fun vs H1 => spR S X.K d f vs H1 Q (WE W σ) := by
  unfold ev at q
  exact tA_of r lr q fun w h2 ρ2 H2 u2 r2 e2 hu2 q2 => ⟨ρ2, h2, w, r2, hu2, q2⟩
theorem ce_call {f : Nat} {n : Str} (xk : Xk S d W X) (F : FnF S X d f) (hg : Gl X n) (hm : X.mg n = some (.ref (S.fadr f))) (hdb : (n == ("__debug__" : Str)) = false) (ha : CA S X d W (a :: es) Es)
    (he : starEach (a :: es) X.env = (false, eval a X.env) :: starEach es X.env) (hpl : (backTo pos (starEach es X.env)).any (·.1) = false) : CE S X d W (.Call (.Name n p) (a :: es) [] pos) (.call f Es []) := by
  obtain ⟨fd, ps, ok, kp, bd⟩ := F.ex
  exact (pe_callS ok (xk.room.mono (two d)) hg hm kp bd (fun σ => passAt xk.takes σ) ha hdb he hpl).imp fun σ H Q ⟨ρ, h, l, r, lr, q⟩ => args_of r lr q
theorem ce_call0 {f : Nat} {n : Str} (xk : Xk S d W X) (F : FnF S X d f) (hg : Gl X n) (hm : X.mg n = some (.ref (S.fadr f))) (hdb : (n == ("__debug__" : Str)) = false) : CE S X d W (.Call (.Name n p) [] [] pos) (.call f .nil []) := by
  obtain ⟨fd, ps, ok, kp, bd⟩ := F.ex
  refine ⟨fun pins s σ H Q I q => wpAny_Call_Name_kw (ld_glob I hg hm ?_ hdb)⟩
  obtain ⟨ρ, h, l, r, lr, q⟩ := q
  refine PySem.W.callWith_K0 I.kIn kp (run_fnS (E := WE W) (us := []) ok (xk.room.mono (two d)) bd (passAt xk.takes σ) I .nil ?_)
  refine ⟨ρ, h, [], r, .nil, ?_⟩
  unfold ev evs at q
  exact q

/-- a class's own method -/
structure MtF (S : Sg) (X : Cx) (d : Nat) (m : Nat) : Prop where
  ok : ∀ c f, lookM S.T c m = some f → CF S X.K c → FnF S X d f ∧ Meth X.K (S.cadr c) (S.nm m) (S.fadr f)
theorem clsOf_some {v : AV} {c : Nat} (e : clsOf h v = some c) : ∃ i fs, v = .ref i ∧ h[i]? = some (.ins c fs) := by
  unfold clsOf at e
  split at e
  case h_2 => cases e
  case h_1 i =>
  split at e
  case h_2 => cases e
  case h_1 c' fs z =>
  cases e
  exact ⟨i, fs, rfl, z⟩
/-- the receiver, then what is called with it -/
theorem recv_of {Q : VK} {R : V → Hp → Prop} {m : Nat} {pm : List (Sum Nat AV)} (so : Sok S) (mf : MtF S X d m) (hm : m ∈ S.mets) (r : HR S X.K ρ h H) (lr : LR S X.K ρ H l σ)
    (q : Ans S X.K ρ H (ev S.T (run S.T d) (.mth A m Es pm) l h) (kAv S X.K Q) (eW S X.K W σ))
    (g : ∀ (i : Nat) (p : Addr) c f ρ1 h1 H1 dx fs, HR S X.K ρ1 h1 H1 → LR S X.K ρ1 H1 l σ → ρ1[i]? = some p → H1 p = some (.ins (S.cadr c) dx fs) → Cls X.K (S.cadr c) → fs.lookup (S.nm m) = none → FnF S X d f → Meth X.K (S.cadr c) (S.nm m) (S.fadr f) →
      Ans S X.K ρ1 H1 ((evs S.T (run S.T d) Es l h1).bind fun xs h => (match arr pm xs with
        | some ys => run S.T d f (.ref i :: ys) h
        | none => .bad)) (kAv S X.K Q) (eW S X.K W σ) → R (.ref p) H1) : tEv S X.K d W A σ H R := by
  unfold ev at q
  refine tE_of r lr q fun v h1 ρ1 H1 u r1 e1 hu q1 => ?_
  split at q1
  case h_2 => exact q1.elim
  case h_1 c e2 =>
  split at q1
  case h_2 => exact q1.elim
  case h_1 f e3 =>
  obtain ⟨i, fs, rfl, e4⟩ := clsOf_some e2
  obtain ⟨p, rfl, ep⟩ := hu.ref_inv
  obtain ⟨⟨cf, hk⟩, dx, qs, hp, fr⟩ := r1.ins ep e4
  obtain ⟨F, M⟩ := mf.ok c f e3 cf
  exact g i p c f ρ1 h1 H1 dx qs r1 (lr.mono r e1) ep hp cf.cls (fr.no so hk hm) F M q1
theorem ce_mth {m : Nat} {n : Str} (so : Sok S) (xk : Xk S d W X) (mf : MtF S X d m) (hm : m ∈ S.mets) (hn : S.nm m = n) (ho : CE S X d W a A) (ha : CA S X d W (b :: es) Es) {pl : Sem Bool}
    (he : starEach (b :: es) X.env = (false, eval b X.env) :: starEach es X.env) (hpl : (backTo pos (starEach es X.env)).any (·.1) = false)
    (ht : eval (.Call (.Attribute a n apos) (b :: es) [] pos) X.env = (do
      let ov ← eval a X.env
      standAt apos.atName
      let (f, first) ← holding [ov] (getMethod ov n pl)
      callWith pos f first (backTo pos (starEach (b :: es) X.env)) (backToKw pos (keywordEach [] X.env)))) :
    CE S X d W (.Call (.Attribute a n apos) (b :: es) [] pos) (.mth A m Es []) := by
  subst hn
  refine ⟨fun pins s σ H Q I q => PySem.W.methodCall_KW (pl := pl) ?_ ht⟩
  obtain ⟨ρ, h, l, r, lr, q⟩ := q
  have q' := recv_of (R := fun x H1 => ∃ p C dx fs f, x = .ref p ∧ H1 p = some (.ins C dx fs) ∧ Cls X.K C ∧ fs.lookup (S.nm m) = none ∧ Meth X.K C (S.nm m) (S.fadr f) ∧ FnF S X d f ∧ tEvs S X.K d W Es σ H1 fun vs H2 => spR S X.K d f (.ref p :: vs) H2 Q (WE W σ)) so mf hm r lr q
    fun i p c f ρ1 h1 H1 dx fs r1 lr1 ep hp cl no F M q1 => ⟨p, _, dx, fs, f, rfl, hp, cl, no, M, F, tA_of r1 lr1 q1 fun w h2 ρ2 H2 u2 r2 e2 hu2 q2 => ⟨ρ2, h2, .ref i :: w, r2, .cons (.ref (e2.get ep)) hu2, q2⟩⟩
  refine thn (ho.run pins s σ H _ I q') fun u s1 ⟨x, H1, I1, rx, p, C, dx, fs, f, ex, hp, cl, no, M, F, q1⟩ => ?_
  subst ex
  obtain rfl : u = Value.ref p := rx
  refine getmeth_ok I1 hp cl M no ?_
  obtain ⟨fd, ps, ok, kp, bd⟩ := F.ex
  refine PySem.W.callWith_K (first := [.ref p]) (h₀ := X.base) I.ok.mod.kin M.kp (thn (ha.run pos pins s1 σ H1 _ I1 q1) fun us s2 ⟨vs, H2, I2, r2, q2⟩ => ⟨I2.kIn, ?_⟩) he hpl
  exact run_fnS (E := WE W) (us := .ref p :: us) (vs := .ref p :: vs) ok (xk.room.mono (two d)) bd (passAt xk.takes σ) I2 (.cons rfl r2) q2
theorem ce_mth0 {m : Nat} {n : Str} (so : Sok S) (xk : Xk S d W X) (mf : MtF S X d m) (hm : m ∈ S.mets) (hn : S.nm m = n) (ho : CE S X d W a A) {pl : Sem Bool}
    (ht : eval (.Call (.Attribute a n apos) [] [] pos) X.env = (do
      let ov ← eval a X.env
      standAt apos.atName
      let (f, first) ← holding [ov] (getMethod ov n pl)
      callWith pos f first (backTo pos (starEach [] X.env)) (backToKw pos (keywordEach [] X.env)))) :
    CE S X d W (.Call (.Attribute a n apos) [] [] pos) (.mth A m .nil []) := by
  subst hn
  refine ⟨fun pins s σ H Q I q => PySem.W.methodCall_KW (pl := pl) ?_ ht⟩
  obtain ⟨ρ, h, l, r, lr, q⟩ := q
  have q' := recv_of (R := fun x H1 => ∃ p C dx fs f, x = .ref p ∧ H1 p = some (.ins C dx fs) ∧ Cls X.K C ∧ fs.lookup (S.nm m) = none ∧ Meth X.K C (S.nm m) (S.fadr f) ∧ FnF S X d f ∧ spR S X.K d f [.ref p] H1 Q (WE W σ)) so mf hm r lr q
    fun i p c f ρ1 h1 H1 dx fs r1 lr1 ep hp cl no F M q1 => ⟨p, _, dx, fs, f, rfl, hp, cl, no, M, F, ρ1, h1, [.ref i], r1, .cons (.ref ep) .nil, by unfold evs at q1; exact q1⟩
  refine thn (ho.run pins s σ H _ I q') fun u s1 ⟨x, H1, I1, rx, p, C, dx, fs, f, ex, hp, cl, no, M, F, q1⟩ => ?_
  subst ex
  obtain rfl : u = Value.ref p := rx
  refine getmeth_ok I1 hp cl M no ?_
  obtain ⟨fd, ps, ok, kp, bd⟩ := F.ex
  exact PySem.W.callWith_K0 (first := [.ref p]) I1.kIn M.kp (run_fnS (E := WE W) (us := [.ref p]) (vs := [.ref p]) ok (xk.room.mono (two d)) bd (passAt xk.takes σ) I1 (.cons rfl .nil) q1)

/-! ### new instances -/
structure CkF (S : Sg) (X : Cx) (d : Nat) (c f : Nat) : Prop where
  init : ∃ cl, S.T.cls[c]? = some cl ∧ cl.init = some f
  cf : CF S X.K c
  fn : FnF S X d f
  mkr : Mk X.K (S.cadr c) (S.fadr f)
theorem run_mk {pins : List (Addr × Obj)} {s : Shared} {Q : VK} {us : List Value} {vs : List V} {c f : Nat} (ck : CkF S X d c f) (xk : Xk S d W X) (I : Inv X pins σ H s) (r : Vals vs us)
    (g : ∀ x dx, H x = none → H dx = none → dx ≠ x → spR S X.K d f (.ref x :: vs) (upd (upd H dx (.own x)) x (.ins (S.cadr c) dx [])) (fun v H2 => v = .non ∧ Q (.ref x) H2) (WE W σ)) :
    wpAny (model X.prog X.w) X.A (call (.ref (S.cadr c)) us) (EP X pins σ Q) X.xe s := by
  obtain ⟨fd, ps, ok, kp, bd⟩ := ck.fn.ex
  have g' := g (s.heap.objs.size + 1) s.heap.objs.size (I.hok.fresh (Nat.le_succ _)) (I.hok.fresh (Nat.le_refl _)) (Nat.ne_of_lt (Nat.lt_succ_self _))
  have J := Inv.made (C := S.cadr c) I
  have r2 : Vals (V.ref (s.heap.objs.size + 1) :: vs) (Value.ref (s.heap.objs.size + 1) :: us) := .cons rfl r
  have len : ((Value.ref (s.heap.objs.size + 1) :: us) ++ []).length = ps.length := by
    rw [List.append_nil, ← r2.length]
    exact ok.len _ _ _ _ g'
  have bb := bd _ (Value.ref (s.heap.objs.size + 1) :: us) J.kIn len
  rw [List.append_nil] at bb
  refine wpAny_call (make_map (f := S.fadr f) I.kIn ck.mkr.makes ck.mkr.init (beq_iff_eq.mp ck.mkr.fn) (codeAny_mono (ok.run _ X.stack _ _ ⟨Value.ref (s.heap.objs.size + 1) :: us, []⟩ _ _ _ _ (xk.room.make (S.cadr c) us [])
    (J.env0.make (S.cadr c) us []) bb r2 g') fun t s' z => ?_))
  cases t with
  | error e => exact passAt xk.takes σ _ _ _ e s' J z
  | ok fl =>
    cases fl with
    | next => exact z.elim
    | brk => exact z.elim
    | cont => exact z.elim
    | ret u =>
      obtain ⟨v, H', I3, rv, ev, q3⟩ := J.after z
      subst ev
      exact ⟨rv, V.ref (s.heap.objs.size + 1), H', I3, rfl, q3⟩
theorem mk_of' {Q : VK} {c f : Nat} {as : List AV} {vs : List V} (ck : CkF S X d c f) (r : HR S X.K ρ h H) (va : VRs S X.K ρ H as vs)
    (q : Ans S X.K ρ H (match S.T.cls[c]?, arr [] as with
      | some ⟨some f, _, _, _, _⟩, some ys => (run S.T d f (.ref h.length :: ys) (h ++ [.ins c []])).bind fun v h2 => (match v with
        | .non => .ok (.ref h.length) h2
        | _ => .bad)
      | _, _ => .bad) (kAv S X.K Q) (eW S X.K W σ)) :
    ∀ x dx, H x = none → H dx = none → dx ≠ x → spR S X.K d f (.ref x :: vs) (upd (upd H dx (.own x)) x (.ins (S.cadr c) dx [])) (fun v H2 => v = .non ∧ Q (.ref x) H2) (WE W σ) := by
  intro x dx nx ndx ne
  obtain ⟨⟨i, ms, ex, tl, sp⟩, e1, e2⟩ := ck.init
  cases e2
  rw [e1, arr_nil] at q
  obtain ⟨r1, x1⟩ := r.side (u := .own x) ndx
  have nx1 : upd H dx (.own x) x = none := by rw [upd_ne ne.symm]; exact nx
  obtain ⟨r2, x2⟩ := r1.push (o := .ins c []) (u := .ins (S.cadr c) dx []) nx1 ⟨⟨ck.cf, fun _ z => absurd z (by simp)⟩, dx, [], upd_same, .nil⟩
  refine ⟨_, _, .ref h.length :: as, r2, .cons (.ref ?_) ((va.mono r x1).mono r1 x2), (q.bind.ext (x1.trans x2)).imp (fun v h' ρ' H' r' x' z u hu => ?_) fun _ _ _ z => z⟩
  · rw [← r.len]; simp
  · split at z
    case h_2 => exact z.elim
    case h_1 =>
    refine ⟨hu.non_inv, z.now r' _ (.ref (x'.get ?_))⟩
    rw [← r.len]
    simp
theorem ce_new {c f : Nat} {n : Str} (xk : Xk S d W X) (ck : CkF S X d c f) (hg : Gl X n) (hm : X.mg n = some (.ref (S.cadr c))) (hdb : (n == ("__debug__" : Str)) = false) (ha : CA S X d W (a :: es) Es)
    (he : starEach (a :: es) X.env = (false, eval a X.env) :: starEach es X.env) (hpl : (backTo pos (starEach es X.env)).any (·.1) = false) : CE S X d W (.Call (.Name n p) (a :: es) [] pos) (.new c Es []) := by
  refine ⟨fun pins s σ H Q I q => wpAny_Call_Name_kw (ld_glob I hg hm ?_ hdb)⟩
  obtain ⟨ρ, h, l, r, lr, q⟩ := q
  unfold ev at q
  have q' : tEvs S X.K d W Es σ H fun vs H1 => ∀ x dx, H1 x = none → H1 dx = none → dx ≠ x → spR S X.K d f (.ref x :: vs) (upd (upd H1 dx (.own x)) x (.ins (S.cadr c) dx [])) (fun v H2 => v = .non ∧ Q (.ref x) H2) (WE W σ) :=
    tA_of r lr q fun w h2 ρ2 H2 u2 r2 e2 hu2 q2 => mk_of' ck r2 hu2 q2
  refine PySem.W.callWith_K (h₀ := X.base) I.ok.mod.kin ck.mkr.kp (thn (ha.run pos pins s σ H _ I q') fun us s1 ⟨vs, H1, I1, r1, q1⟩ => ⟨I1.kIn, ?_⟩) he hpl
  exact run_mk ck xk I1 r1 q1
theorem ce_new0 {c f : Nat} {n : Str} (xk : Xk S d W X) (ck : CkF S X d c f) (hg : Gl X n) (hm : X.mg n = some (.ref (S.cadr c))) (hdb : (n == ("__debug__" : Str)) = false) : CE S X d W (.Call (.Name n p) [] [] pos) (.new c .nil []) := by
  refine ⟨fun pins s σ H Q I q => wpAny_Call_Name_kw (ld_glob I hg hm ?_ hdb)⟩
  obtain ⟨ρ, h, l, r, lr, q⟩ := q
  unfold ev evs at q
  exact PySem.W.callWith_K0 I.kIn ck.mkr.kp (run_mk (us := []) (vs := []) ck xk I .nil (mk_of' (as := []) ck r .nil q))
end
end Ms

set_option Elab.async false
set_option linter.all false
set_option maxRecDepth 100000
/-! Methods of built-in types. -/
namespace Ms
open PySem PySem.Spec L2 Mm
open PyProof.Rows hiding St
section
variable {S : Sg} {X : Cx} {d : Nat} {W : WX} {a b c : Expr} {A B C : E} {es : List Expr} {Es : E} {pos p apos : Pos} {ρ : List Addr} {h : AH} {H : Hp} {l : Lo} {σ : St} {K : PySem.W.Frag}
/-! ### texts -/
theorem subAt_one (l : Tx) (c i : Nat) : Builtin.Str.subAt (toStr l) (toStr [c]) i = decide (l[i]? = some c) := by
  unfold Builtin.Str.subAt
  have e1 : (toStr l).cps.extract i (i + (toStr [c]).length) = ((l.drop i).take 1).toArray := by
    apply Array.ext'
    rw [Array.toList_extract]
    simp [toStr, Str.length]
  have e2 : (toStr [c]).cps = [c].toArray := rfl
  rw [e1, e2]
  cases z : l[i]? with
  | none =>
    have hi : l.length ≤ i := List.getElem?_eq_none_iff.mp z
    rw [List.drop_eq_nil_of_le hi]
    simp
  | some x =>
    obtain ⟨hi, e⟩ := List.getElem?_eq_some_iff.mp z
    rw [List.drop_eq_getElem_cons hi, e]
    by_cases y : x = c
    · subst y; simp
    · simp [y]
theorem occ_done (s sub : Str) (hi i : Nat) : ∀ (L : List Nat) (st : Nat), (forIn L ((#[i] : Array Nat), st) (StrLaws.occBody s sub hi 1)).run.fst = #[i]
  | [], s0 => rfl
  | a :: L, s0 => by
    rw [List.forIn_cons]
    have e : StrLaws.occBody s sub hi 1 a (#[i], s0) = pure (ForInStep.yield (#[i], s0)) := by
      unfold StrLaws.occBody
      rw [if_neg (fun z => absurd z.1.1.1 (by simp))]
    rw [e]
    exact occ_done s sub hi i L s0
theorem occ_one (l : Tx) (c : Nat) : ∀ (n i free : Nat), free ≤ i → i + n = l.length + 1 → (forIn (List.range' i n) ((#[] : Array Nat), free) (StrLaws.occBody (toStr l) (toStr [c]) l.length 1)).run.fst.toList = (findC c i (l.drop i)).toList
  | 0, i, free, _, e => by
    rw [List.drop_eq_nil_of_le (by omega)]
    rfl
  | n + 1, i, free, hf, e => by
    rw [List.range'_succ, List.forIn_cons]
    have len1 : (toStr [c]).length = 1 := rfl
    by_cases z : l[i]? = some c
    · obtain ⟨hi, ez⟩ := List.getElem?_eq_some_iff.mp z
      have eb : StrLaws.occBody (toStr l) (toStr [c]) l.length 1 i (#[], free) = pure (ForInStep.yield (#[i], i + 1)) := by
        unfold StrLaws.occBody
        rw [if_pos ⟨⟨⟨by simp, hf⟩, by rw [len1]; exact hi⟩, by rw [subAt_one]; exact decide_eq_true z⟩, len1]
        rfl
      rw [eb, List.drop_eq_getElem_cons hi, ez]
      have q := occ_done (toStr l) (toStr [c]) l.length i (List.range' (i + 1) n) (i + 1)
      unfold findC
      rw [if_pos (Nat.beq_refl c)]
      show (forIn (List.range' (i + 1) n) ((#[i] : Array Nat), i + 1) (StrLaws.occBody (toStr l) (toStr [c]) l.length 1)).run.fst.toList = _
      rw [q]
      rfl
    · have eb : StrLaws.occBody (toStr l) (toStr [c]) l.length 1 i (#[], free) = pure (ForInStep.yield (#[], free)) := by
        unfold StrLaws.occBody
        rw [if_neg (fun y => z (of_decide_eq_true (by rw [← subAt_one]; exact y.2)))]
      rw [eb]
      show (forIn (List.range' (i + 1) n) ((#[] : Array Nat), free) (StrLaws.occBody (toStr l) (toStr [c]) l.length 1)).run.fst.toList = _
      rw [occ_one l c n (i + 1) free (by omega) (by omega)]
      by_cases hi : i < l.length
      · rw [List.drop_eq_getElem_cons hi]
        have ne : Nat.beq l[i] c = false := by
          cases y : Nat.beq l[i] c with
          | false => rfl
          | true => exact absurd (by rw [List.getElem?_eq_getElem hi, Nat.eq_of_beq_eq_true y]) z
        show _ = (if Nat.beq l[i] c = true then some i else findC c (i + 1) (l.drop (i + 1))).toList
        rw [ne]
        rfl
      · rw [List.drop_eq_nil_of_le (by omega), List.drop_eq_nil_of_le (by omega)]
        rfl
theorem occ_find (l : Tx) (c i : Nat) : Builtin.Str.occurrences (toStr l) (toStr [c]) i l.length 1 = (findC c i (l.drop i)).toList := by
  rw [StrLaws.occ_eq]
  by_cases hi : i ≤ l.length + 1
  · exact occ_one l c (l.length + 1 - i) i i (Nat.le_refl _) (by omega)
  · rw [show l.length + 1 - i = 0 by omega, List.drop_eq_nil_of_le (by omega)]
    rfl
theorem find_ok (s : Tx) (c : Nat) : Txt.find (toStr s) (toStr [c]) = posI (findC c 0 s) := by
  unfold Txt.find
  rw [toStr_length, occ_find, List.drop_zero]
  cases findC c 0 s <;> rfl
theorem find3_ok (s : Tx) (c : Nat) {i : Int} (hi : 0 ≤ i) : Txt.find3 (toStr s) (toStr [c]) i = posI (findC c i.toNat (s.drop i.toNat)) := by
  unfold Txt.find3 PySem.fromIndex
  rw [if_neg (by omega), toStr_length, Int.max_eq_right hi, occ_find]
  cases findC c i.toNat (s.drop i.toNat) <;> rfl
theorem preT_iff : ∀ {t s : Tx}, preT t s = true ↔ s.take t.length = t
  | [], s => by simp [preT]
  | a :: r, [] => by simp [preT]
  | a :: r, b :: q => by
    simp only [preT, Bool.and_eq_true, List.length_cons, List.take_succ_cons, List.cons.injEq, preT_iff (t := r) (s := q)]
    rw [Nat.beq_eq]
    exact ⟨fun z => ⟨z.1.symm, z.2⟩, fun z => ⟨z.1.symm, z.2⟩⟩
theorem starts_ok (s t : Tx) : Txt.startswith (toStr s) (toStr t) = preT t s := by
  unfold Txt.startswith Builtin.Str.subAt
  have e1 : (toStr s).cps.extract 0 (0 + (toStr t).length) = (s.take t.length).toArray := by
    apply Array.ext'
    rw [Array.toList_extract]
    simp [toStr, Str.length]
  rw [e1, toStr_length, toStr_length]
  have e2 : (toStr t).cps = t.toArray := rfl
  rw [e2]
  cases z : preT t s with
  | true =>
    have y := preT_iff.mp z
    have len : t.length ≤ s.length := by
      have q := congrArg List.length y
      rw [List.length_take] at q
      omega
    rw [y]
    simp [len]
  | false =>
    have ne : ¬ s.take t.length = t := fun y => by rw [preT_iff.mpr y] at z; cases z
    have : ((s.take t.length).toArray == t.toArray) = false := by
      apply beq_eq_false_iff_ne.mpr
      intro y
      exact ne (by simpa using congrArg Array.toList y)
    rw [this]
    simp
theorem spl_eq (c : Nat) : ∀ (acc l : Tx), TL.spl [c] 0 acc l = splT c acc.reverse l
  | acc, [] => by
    rw [TL.spl_nil]
    simp [splT]
  | acc, x :: r => by
    unfold splT
    by_cases z : x = c
    · subst z
      rw [TL.spl_hit (by simp [TL.pre]), Nat.beq_refl, if_pos rfl]
      show acc :: TL.spl [x] 0 [] r = _
      rw [spl_eq x [] r]
      simp
    · have z2 : Nat.beq x c = false := by
        cases y : Nat.beq x c with
        | false => rfl
        | true => exact absurd (Nat.eq_of_beq_eq_true y) z
      rw [TL.spl_miss (by simp [TL.pre, z]), z2, spl_eq c (acc ++ [x]) r]
      simp
theorem split_ok (s : Tx) (c : Nat) (hc : c < 256) : Txt.split (toStr s) (toStr [c]) = (splT c [] s).map toStr := by
  have e := TL.split_spl (toStr s) (toStr [c]) (by simp [TL.tl, toStr]) (TL.kind_ok (by simp [toStr, hc]))
  apply TL.map_tl_inj
  rw [e]
  show TL.spl [c] 0 [] s = _
  rw [spl_eq]
  simp only [List.reverse_nil, List.map_map]
  have : (TL.tl ∘ toStr) = id := by
    funext x
    rfl
  rw [this, List.map_id]
theorem joinL_eq (s : Tx) : ∀ xs : List Tx, TL.joinL s xs = joinT s xs
  | [] => rfl
  | [x] => by simp [TL.joinL, joinT]
  | x :: y :: r => by
    rw [TL.joinL, joinT, joinL_eq s (y :: r)]
    all_goals first | simp | skip
theorem join_ok (s : Tx) (xs : List Tx) : Txt.join (toStr s) (xs.map toStr) = toStr (joinT s xs) := by
  apply TL.ext_tl
  rw [TL.join_eq, TL.tl_join, List.map_map]
  have : (TL.tl ∘ toStr) = id := by
    funext x
    rfl
  rw [this, List.map_id, joinL_eq]
  rfl
end
end Ms

set_option Elab.async false
set_option linter.all false
set_option maxRecDepth 100000
/-! Methods of built-in types, called. -/
namespace Ms
open PySem PySem.Spec L2 Mm
open PyProof.Rows hiding St
def bmName : Bm → Str
  | .append => "append"
  | .pop => "pop"
  | .get => "get"
  | .setdefault => "setdefault"
  | .split => "split"
  | .join => "join"
  | .startswith => "startswith"
  | .find => "find"
  | .index => "index"
  | .count => "count"
  | .insert => "insert"
  | .clear => "clear"
  | .replace => "replace"
  | .keys => "keys"
section
variable {S : Sg} {X : Cx} {d : Nat} {W : WX} {a b c : Expr} {A B C : E} {es : List Expr} {Es : E} {pos p apos : Pos} {ρ : List Addr} {h : AH} {H : Hp} {l : Lo} {σ : St} {K : PySem.W.Frag}
def rBm (S : Sg) (K : PySem.W.Frag) (m : Bm) (k : Nat) : V → List V → Hp → VK → Prop := fun x xs H Q => ∃ ρ h a as, HR S K ρ h H ∧ VR S K ρ H a x ∧ VRs S K ρ H as xs ∧ kd S.T.wds h a = some k ∧ Ans S K ρ H (bmA S.T.wds m a as h) (kAv S K Q) eN
structure BmC (S : Sg) (X : Cx) (m : Bm) (k : Nat) (T : String) : Prop where
  pa : PlainAttrs T
  ex : ∃ id, Slot T (bmName m) id ∧ typeOf (.builtin id) = pure (.type "method_descriptor") ∧ MtR X id (rBm S X.K m k)
def kT : Nat → String
  | 0 => "str"
  | 1 => "list"
  | _ => "dict"
/-- the type of a value by its kind -/
theorem kd_type (hw : WdOk S X.K X.w) {pins : List (Addr × Obj)} {s : Shared} {va : AV} {x : V} {v : Value} {k : Nat} (I : Inv X pins σ H s) (r : HR S X.K ρ h H) (rx : VR S X.K ρ H va x) (rv : RelV x v) (e : kd S.T.wds h va = some k) :
    s.TypeIs v (kT k) ∧ ∀ a, v = .ref a → ∃ ob, s.heap.get? a = some ob ∧ ob.dict = none := by
  cases rx with
  | str z =>
    cases e
    exact tyV_is I rv rfl
  | wd i =>
    unfold kd at e
    dsimp only at e
    split at e
    case h_2 => cases e
    case h_1 kvs e2 =>
    cases e
    obtain ⟨⟨es, n, kd⟩, _⟩ := hw i kvs e2
    cases (show v = Value.ref _ from rv)
    refine ⟨L2.kd_type kd I, fun a e => ?_⟩
    cases e
    exact ⟨_, I.kIn _ _ kd.at_, rfl⟩
  | @ref i q ep =>
    unfold kd at e
    dsimp only at e
    split at e
    case h_1 xs e1 =>
      cases e
      obtain ⟨vs, hp, _⟩ := r.lst ep e1
      exact tyV_is I rv (T := "list") (.inl ⟨rfl, vs, SqL.of hp⟩)
    case h_2 lk xs e1 =>
      cases e
      obtain ⟨qs, hp, _⟩ := r.dic ep e1
      cases (show v = Value.ref q from rv)
      obtain ⟨h1, h2, _⟩ := isD_at I (.inl ⟨qs, hp⟩)
      exact ⟨h1, h2⟩
    case h_3 => cases e
  | non => cases e
  | bl => cases e
  | int => cases e
  | tup => cases e
theorem noX_bm (W : List (List (Tx × AV))) (m : Bm) (o : AV) (as : List AV) (h : AH) : NoX (bmA W m o as h) := by
  unfold bmA strM wdM lstM dicM
  repeat' split
  all_goals first | trivial | exact noX_newL
theorem bm_args {Q : VK} {m : Bm} (r : HR S X.K ρ h H) (lr : LR S X.K ρ H l σ) (q : Ans S X.K ρ H (ev S.T (run S.T d) (.bm A m Es) l h) (kAv S X.K Q) (eW S X.K W σ)) :
    tEv S X.K d W A σ H fun x H1 => ∃ ρ1 h1 va k, HR S X.K ρ1 h1 H1 ∧ VR S X.K ρ1 H1 va x ∧ kd S.T.wds h1 va = some k ∧ supB m k = true ∧ tEvs S X.K d W Es σ H1 fun vs H2 => rBm S X.K m k x vs H2 Q := by
  unfold ev at q
  refine tE_of r lr q fun v h1 ρ1 H1 u r1 e1 hu q1 => ?_
  split at q1
  case h_1 => exact q1.elim
  case h_2 k e2 =>
  split at q1
  case h_1 => exact q1.elim
  case h_2 es2 =>
  refine ⟨ρ1, h1, v, k, r1, hu, e2, es2, tA_of r1 (lr.mono r e1) q1 fun w h2 ρ2 H2 u2 r2 e3 hu2 q2 => ?_⟩
  split at q2
  case h_1 => exact q2.elim
  case h_2 k2 e4 =>
  split at q2
  case h_2 => exact q2.elim
  case h_1 e5 =>
  obtain rfl := Nat.eq_of_beq_eq_true e5
  exact ⟨ρ2, h2, v, w, r2, hu.mono r1 e3, hu2, e4, q2.noX (noX_bm _ _ _ _ _)⟩
theorem ce_bm {m : Bm} (hw : WdOk S X.K X.w) (bc : ∀ k, supB m k = true → BmC S X m k (kT k)) (ho : CE S X d W a A) (ha : CA S X d W (b :: es) Es)
    (hbase : attributeBase a (bmName m) X.env (eval a X.env) = eval a X.env)
    (hfew : ((backTo pos (starEach (b :: es) X.env)).all (fun x => !x.1) && (backToKw pos (keywordEach [] X.env)).all (fun x => x.1.isSome)
      && decide ((b :: es).length + ([] : List Keyword).length + (if ([] : List Keyword).isEmpty then 0 else 1) < 30)) = true)
    (hline : (apos.endLine == pos.line) = true) (he : starEach (b :: es) X.env = (false, eval b X.env) :: starEach es X.env) (hpl : (backTo pos (starEach es X.env)).any (·.1) = false) :
    CE S X d W (.Call (.Attribute a (bmName m) apos) (b :: es) [] pos) (.bm A m Es) := by
  refine ⟨fun pins s σ H Q I q => ?_⟩
  obtain ⟨ρ, h, l, r, lr, q⟩ := q
  refine wpAny_Call_method_late hbase hfew hline rfl (thn (ho.run pins s σ H _ I (bm_args r lr q)) fun v s1 ⟨x, H1, I1, rv, ρ1, h1, va, k, r1, rx, e1, hk, q1⟩ => ?_)
  obtain ⟨pa, id, slot, hty, mt⟩ := bc k hk
  obtain ⟨t1, t2⟩ := kd_type hw I1 r1 rx rv e1
  refine ⟨kT k, id, pa, slot, hty, t1, t2, ?_⟩
  have hA := ha.run pos pins s1 σ H1 _ I1 q1
  rw [he] at hA ⊢
  refine Calls.callWith_builtin (by show (false || (backTo pos (starEach es X.env)).any (·.1)) = false; rw [hpl]; rfl) (Calls.evalArgs_plain ?_)
  exact thn hA fun us s2 ⟨vs, H2, I2, r2, q2⟩ => mt pins s2 σ H2 x vs v us Q I2 rv r2 q2
theorem ce_bm0 {m : Bm} (hw : WdOk S X.K X.w) (bc : ∀ k, supB m k = true → BmC S X m k (kT k)) (ho : CE S X d W a A)
    (hbase : attributeBase a (bmName m) X.env (eval a X.env) = eval a X.env) (hline : (apos.endLine == pos.line) = true) : CE S X d W (.Call (.Attribute a (bmName m) apos) [] [] pos) (.bm A m .nil) := by
  refine ⟨fun pins s σ H Q I q => ?_⟩
  obtain ⟨ρ, h, l, r, lr, q⟩ := q
  refine wpAny_Call_method0_late hbase hline (thn (ho.run pins s σ H _ I (bm_args r lr q)) fun v s1 ⟨x, H1, I1, rv, ρ1, h1, va, k, r1, rx, e1, hk, q1⟩ => ?_)
  obtain ⟨pa, id, slot, hty, mt⟩ := bc k hk
  obtain ⟨t1, t2⟩ := kd_type hw I1 r1 rx rv e1
  refine ⟨kT k, id, pa, slot, hty, t1, t2, Calls.callWith_builtin rfl (PySem.evalArgs_none ?_)⟩
  obtain ⟨ρ2, h2, l2, r2, _, q2⟩ := q1
  unfold evs at q2
  exact mt pins s1 σ H1 x [] v [] Q I1 rv .nil (q2.now r2 _ .nil)

theorem VRs.one {x : AV} {vs : List V} (r : VRs S K ρ H [x] vs) : ∃ v, vs = [v] ∧ VR S K ρ H x v := by
  cases r with
  | cons a b => cases b; exact ⟨_, rfl, a⟩
theorem VRs.two {x y : AV} {vs : List V} (r : VRs S K ρ H [x, y] vs) : ∃ v u, vs = [v, u] ∧ VR S K ρ H x v ∧ VR S K ρ H y u := by
  cases r with
  | cons a b => cases b with
    | cons c e => cases e; exact ⟨_, _, rfl, a, c⟩
theorem VRs.zero {vs : List V} (r : VRs S K ρ H [] vs) : vs = [] := by cases r; rfl
theorem kd0 {W : List (List (Tx × AV))} {v : AV} (e : kd W h v = some 0) : ∃ s, v = .str s := by
  unfold kd at e
  split at e
  case h_1 s => exact ⟨s, rfl⟩
  case h_2 => split at e <;> cases e
  case h_3 => split at e <;> cases e
  case h_4 => cases e
theorem kd1 {W : List (List (Tx × AV))} {v : AV} (e : kd W h v = some 1) : ∃ i xs, v = .ref i ∧ h[i]? = some (.lst xs) := by
  unfold kd at e
  split at e
  case h_1 s => cases e
  case h_2 => split at e <;> cases e
  case h_3 i =>
    split at e
    case h_1 xs z => exact ⟨i, xs, rfl, z⟩
    case h_2 => cases e
    case h_3 => cases e
  case h_4 => cases e
theorem kd2 {W : List (List (Tx × AV))} {v : AV} (e : kd W h v = some 2) : ∃ i lk kvs, v = .ref i ∧ h[i]? = some (.dic lk kvs) := by
  unfold kd at e
  split at e
  case h_1 s => cases e
  case h_2 => split at e <;> cases e
  case h_3 i =>
    split at e
    case h_1 => cases e
    case h_2 lk kvs z => exact ⟨i, lk, kvs, rfl, z⟩
    case h_3 => cases e
  case h_4 => cases e
theorem kd3 {W : List (List (Tx × AV))} {v : AV} (e : kd W h v = some 3) : ∃ i kvs, v = .wd i ∧ W[i]? = some kvs := by
  unfold kd at e
  split at e
  case h_1 s => cases e
  case h_2 i =>
    split at e
    case h_1 kvs z => exact ⟨i, kvs, rfl, z⟩
    case h_2 => cases e
  case h_3 => split at e <;> cases e
  case h_4 => cases e
/-- a new list of texts -/
theorem strs_rel {ss : List Tx} {xs : List AV} (e : strsA xs = some ss) : xs = ss.map .str := by
  induction xs generalizing ss with
  | nil => cases e; rfl
  | cons x xs ih =>
    cases x with
    | str s =>
      unfold strsA at e
      split at e
      case h_1 q z => cases e; rw [List.map_cons, ← ih z]
      case h_2 => cases e
    | _ => cases e
theorem VRs.strs (ss : List Tx) : VRs S K ρ H (ss.map .str) ((ss.map toStr).map V.str) := by
  induction ss with
  | nil => exact .nil
  | cons s ss ih => exact .cons (.str s) ih
theorem VRs.strs_inv {ss : List Tx} {vs : List V} (r : VRs S K ρ H (ss.map .str) vs) : vs = (ss.map toStr).map V.str := by
  induction ss generalizing vs with
  | nil => cases r; rfl
  | cons s ss ih =>
    cases r with
    | cons a b =>
      rw [a.str_inv, ih b]
      rfl
theorem items_of {v : AV} {x : V} {xs : List AV} (r : HR S K ρ h H) (rx : VR S K ρ H v x) (e : itemsA h v = some xs) : ∃ p vs, x = .ref p ∧ (SqL K H p vs ∨ SqT K H p vs) ∧ VRs S K ρ H xs vs := by
  unfold itemsA at e
  split at e
  case h_1 ys =>
    cases e
    obtain ⟨p, vs, rfl, sp, vx⟩ := rx.tup_inv
    exact ⟨p, vs, rfl, .inr sp, vx⟩
  case h_2 i =>
    obtain ⟨p, rfl, ep⟩ := rx.ref_inv
    split at e
    case h_1 ys z =>
      cases e
      obtain ⟨vs, hp, vx⟩ := r.lst ep z
      exact ⟨p, vs, rfl, .inl (SqL.of hp), vx⟩
    case h_2 ys z =>
      cases e
      obtain ⟨vs, hp, vx⟩ := r.flst ep z
      exact ⟨p, vs, rfl, .inl hp, vx⟩
    case h_3 => cases e
  case h_3 => cases e
/-! each method -/
theorem mt_split' : MtR X "str.split" (rBm S X.K .split 0) := by
  intro pins s σ H x xs v us Q I rx rxs q
  obtain ⟨ρ, h, va, as, r, vx, vas, e, q⟩ := q
  obtain ⟨z, rfl⟩ := kd0 e
  obtain rfl := vx.str_inv
  replace q : Ans S X.K ρ H (strM .split z as h) (kAv S X.K Q) eN := q
  unfold strM at q
  dsimp only at q
  split at q
  case h_2 => exact q.elim
  case h_1 c =>
  obtain ⟨u, rfl, hu⟩ := vas.one
  obtain rfl := hu.str_inv
  split at q
  case h_2 => exact q.elim
  case h_1 z1 =>
  rw [Bool.and_eq_true] at z1
  refine mt_split pins s σ H _ _ v us Q I rx rxs ⟨_, _, rfl, rfl, rfl, by rw [toStr_length]; exact Nat.le_of_ble_eq_true z1.2, ?_⟩
  rw [split_ok _ _ (Nat.le_of_ble_eq_true z1.1)]
  exact (newL_of r q (VRs.strs _)).2
theorem sumLen_eq (ss : List Tx) : ((ss.map toStr).map (fun y : Str => y.length)).sum = sumLen ss := by
  induction ss with
  | nil => rfl
  | cons s ss ih =>
    rw [List.map_cons, List.map_cons, List.sum_cons, ih, toStr_length]
    rfl
theorem mt_join' : MtR X "str.join" (rBm S X.K .join 0) := by
  intro pins s σ H x xs v us Q I rx rxs q
  obtain ⟨ρ, h, va, as, r, vx, vas, e, q⟩ := q
  obtain ⟨z, rfl⟩ := kd0 e
  obtain rfl := vx.str_inv
  replace q : Ans S X.K ρ H (strM .join z as h) (kAv S X.K Q) eN := q
  unfold strM at q
  dsimp only at q
  split at q
  case h_2 => exact q.elim
  case h_1 a1 =>
  obtain ⟨u, rfl, hu⟩ := vas.one
  split at q
  case h_2 => exact q.elim
  case h_1 ys e1 =>
  split at q
  case h_2 => exact q.elim
  case h_1 ss e2 =>
  split at q
  case h_2 => exact q.elim
  case h_1 e3 =>
  obtain ⟨p, vs, rfl, sp, vy⟩ := items_of r hu e1
  have e4 := strs_rel e2
  subst e4
  obtain rfl := vy.strs_inv
  refine mt_join pins s σ H _ _ v us Q I rx rxs ⟨_, p, _, rfl, rfl, sp, ?_, ?_⟩
  · rw [sumLen_eq, List.length_map, toStr_length]
    exact Nat.le_of_ble_eq_true e3
  · rw [join_ok]
    exact q.now r _ (.str _)
theorem mt_starts' : MtR X "str.startswith" (rBm S X.K .startswith 0) := by
  intro pins s σ H x xs v us Q I rx rxs q
  obtain ⟨ρ, h, va, as, r, vx, vas, e, q⟩ := q
  obtain ⟨z, rfl⟩ := kd0 e
  obtain rfl := vx.str_inv
  replace q : Ans S X.K ρ H (strM .startswith z as h) (kAv S X.K Q) eN := q
  unfold strM at q
  dsimp only at q
  split at q
  case h_2 => exact q.elim
  case h_1 t =>
  obtain ⟨u, rfl, hu⟩ := vas.one
  obtain rfl := hu.str_inv
  refine mt_startswith pins s σ H _ _ v us Q I rx rxs ⟨_, _, rfl, rfl, ?_⟩
  rw [starts_ok]
  exact q.now r _ (.bl _)
theorem mt_find' : MtR X "str.find" (rBm S X.K .find 0) := by
  intro pins s σ H x xs v us Q I rx rxs q
  obtain ⟨ρ, h, va, as, r, vx, vas, e, q⟩ := q
  obtain ⟨z, rfl⟩ := kd0 e
  obtain rfl := vx.str_inv
  replace q : Ans S X.K ρ H (strM .find z as h) (kAv S X.K Q) eN := q
  unfold strM at q
  dsimp only at q
  split at q
  case h_3 => exact q.elim
  case h_1 c =>
    obtain ⟨u, rfl, hu⟩ := vas.one
    obtain rfl := hu.str_inv
    refine mt_find pins s σ H _ _ v us Q I rx rxs ⟨_, _, rfl, rfl, ?_⟩
    rw [find_ok]
    exact q.now r _ (.int _)
  case h_2 c i =>
    obtain ⟨u, u', rfl, hu, hu'⟩ := vas.two
    obtain rfl := hu.str_inv
    obtain rfl := hu'.int_inv
    split at q
    case h_2 => exact q.elim
    case h_1 z1 =>
    refine mt_find3 pins s σ H _ _ v us Q I rx rxs ⟨_, _, i, rfl, rfl, ?_⟩
    rw [find3_ok _ _ (of_decide_eq_true z1)]
    exact q.now r _ (.int _)
/-- a list that is written -/
theorem lst_put {Q : VK} {i : Nat} {p : Addr} {xs : List AV} {ys : List V} {v : AV} {u : V} {e : AX → List Addr → Hp → Prop} (r : HR S K ρ h H) (ep : ρ[i]? = some p) (vy : VRs S K ρ H xs ys) (vv : VR S K ρ H v u)
    (q : Ans S K ρ H (.ok v (h.set i (.lst xs))) (kAv S K Q) e) : Q u (upd H p (.lst ys)) := by
  obtain ⟨r1, x1⟩ := r.write (u := .lst ys) (o := .lst xs) ep fun x1 => ⟨ys, upd_same, vy.mono r x1⟩
  exact q _ _ r1 x1 _ (vv.mono r x1)
theorem mt_append' : MtR X "list.append" (rBm S X.K .append 1) := by
  intro pins s σ H x xs v us Q I rx rxs q
  obtain ⟨ρ, h, va, as, r, vx, vas, e, q⟩ := q
  obtain ⟨i, ys, rfl, ei⟩ := kd1 e
  obtain ⟨p, rfl, ep⟩ := vx.ref_inv
  obtain ⟨vs, hp, vy⟩ := r.lst ep ei
  replace q : Ans S X.K ρ H (bmA S.T.wds .append (.ref i) as h) (kAv S X.K Q) eN := q
  unfold bmA at q
  dsimp only at q
  rw [ei] at q
  unfold lstM at q
  dsimp only at q
  split at q
  case h_2 => exact q.elim
  case h_1 v1 =>
  obtain ⟨u, rfl, hu⟩ := vas.one
  split at q
  case h_2 => exact q.elim
  case h_1 z1 =>
  refine mt_append pins s σ H _ _ v us Q I rx rxs ⟨p, vs, u, rfl, rfl, hp, by rw [← vy.length]; exact Nat.le_of_ble_eq_true z1, ?_⟩
  exact lst_put r ep (vy.append (.cons hu .nil)) .non q
theorem VRs.last {xs : List AV} {vs : List V} {v : AV} (r : VRs S K ρ H xs vs) (e : xs.getLast? = some v) : ∃ u, vs[vs.length - 1]? = some u ∧ VR S K ρ H v u ∧ VRs S K ρ H xs.dropLast vs.dropLast := by
  rw [List.getLast?_eq_getElem?] at e
  obtain ⟨u, h1, h2⟩ := r.get e
  rw [r.length] at h1
  refine ⟨u, h1, h2, ?_⟩
  rw [List.dropLast_eq_take, List.dropLast_eq_take, r.length]
  exact r.take _
theorem mt_pop' : MtR X "list.pop" (rBm S X.K .pop 1) := by
  intro pins s σ H x xs v us Q I rx rxs q
  obtain ⟨ρ, h, va, as, r, vx, vas, e, q⟩ := q
  obtain ⟨i, ys, rfl, ei⟩ := kd1 e
  obtain ⟨p, rfl, ep⟩ := vx.ref_inv
  obtain ⟨vs, hp, vy⟩ := r.lst ep ei
  replace q : Ans S X.K ρ H (bmA S.T.wds .pop (.ref i) as h) (kAv S X.K Q) eN := q
  unfold bmA at q
  dsimp only at q
  rw [ei] at q
  unfold lstM at q
  dsimp only at q
  split at q
  case h_2 => exact q.elim
  case h_1 =>
  obtain rfl := vas.zero
  split at q
  case h_2 => exact q.elim
  case h_1 v1 z1 =>
  obtain ⟨u, h1, h2, h3⟩ := vy.last z1
  refine mt_pop pins s σ H _ _ v us Q I rx rxs ⟨p, vs, u, rfl, rfl, hp, h1, ?_⟩
  exact lst_put r ep h3 h2 q
theorem mt_clear' : MtR X "list.clear" (rBm S X.K .clear 1) := by
  intro pins s σ H x xs v us Q I rx rxs q
  obtain ⟨ρ, h, va, as, r, vx, vas, e, q⟩ := q
  obtain ⟨i, ys, rfl, ei⟩ := kd1 e
  obtain ⟨p, rfl, ep⟩ := vx.ref_inv
  obtain ⟨vs, hp, vy⟩ := r.lst ep ei
  replace q : Ans S X.K ρ H (bmA S.T.wds .clear (.ref i) as h) (kAv S X.K Q) eN := q
  unfold bmA at q
  dsimp only at q
  rw [ei] at q
  unfold lstM at q
  dsimp only at q
  split at q
  case h_2 => exact q.elim
  case h_1 =>
  obtain rfl := vas.zero
  refine mt_clear pins s σ H _ _ v us Q I rx rxs ⟨p, vs, rfl, rfl, hp, ?_⟩
  exact lst_put r ep .nil .non q
/-- a dict that is written -/
theorem dic_put {Q : VK} {i : Nat} {p : Addr} {xs : List (AK × AV)} {ys : List (Key × V)} {v : AV} {u : V} {e : AX → List Addr → Hp → Prop} (r : HR S K ρ h H) (ep : ρ[i]? = some p) (vy : KVR S K ρ H xs ys) (vv : VR S K ρ H v u)
    (q : Ans S K ρ H (.ok v (h.set i (.dic false xs))) (kAv S K Q) e) : Q u (upd H p (.dK ys)) := by
  obtain ⟨r1, x1⟩ := r.write (u := .dK ys) (o := .dic false xs) ep fun x1 => ⟨ys, upd_same, vy.mono r x1⟩
  exact q _ _ r1 x1 _ (vv.mono r x1)
theorem KVR.length {xs : List (AK × AV)} {ys : List (Key × V)} (r : KVR S K ρ H xs ys) : xs.length = ys.length := by
  induction r with
  | nil => rfl
  | cons _ _ ih => simp [ih]
theorem getD_rel {xs : List (AK × AV)} {ys : List (Key × V)} {dv : AV} {du : V} (r : KVR S K ρ H xs ys) (k : AK) (rd : VR S K ρ H dv du) : VR S K ρ H ((getK k xs).getD dv) ((valV ys (kR k)).getD du) := by
  rcases getK_ok r k with ⟨v, x, h1, h2, h3⟩ | ⟨h1, h2⟩ <;> rw [h1, h2]
  · exact h3
  · exact rd
theorem mt_get' (hr : Room d X.A) : MtR X "dict.get" (rBm S X.K .get 2) := by
  intro pins s σ H x xs v us Q I rx rxs q
  obtain ⟨ρ, h, va, as, r, vx, vas, e, q⟩ := q
  obtain ⟨i, lk, kvs, rfl, ei⟩ := kd2 e
  obtain ⟨p, rfl, ep⟩ := vx.ref_inv
  obtain ⟨qs, hp, kv, _⟩ := r.dic ep ei
  cases (show v = Value.ref p from rx)
  replace q : Ans S X.K ρ H (bmA S.T.wds .get (.ref i) as h) (kAv S X.K Q) eN := q
  unfold bmA at q
  dsimp only at q
  rw [ei] at q
  unfold dicM at q
  dsimp only at q
  split at q
  case h_3 => exact q.elim
  case h_1 k1 d1 =>
    obtain ⟨u, u', rfl, hu, hu'⟩ := vas.two
    obtain ⟨w1, w2, rfl, hw1, hw2⟩ := vals2 rxs
    split at q
    case h_2 => exact q.elim
    case h_1 j ej =>
    obtain rfl := keyOf_ok hu ej
    exact d_get2 (hu1 hr) I (DGet.rd hp) hw1 hw2 fun w' s' I' rw' => ⟨_, H, I', rw', q.now r _ (getD_rel kv j hu')⟩
  case h_2 k1 =>
    obtain ⟨u, rfl, hu⟩ := vas.one
    obtain ⟨w1, rfl, hw1⟩ := vals1 rxs
    split at q
    case h_2 => exact q.elim
    case h_1 j ej =>
    obtain rfl := keyOf_ok hu ej
    exact d_get1 (hu1 hr) I (DGet.rd hp) hw1 fun w' s' I' rw' => ⟨_, H, I', rw', q.now r _ (getD_rel kv j .non)⟩
theorem mt_getw (hw : WdOk S X.K X.w) : MtR X "dict.get" (rBm S X.K .get 3) := by
  intro pins s σ H x xs v us Q I rx rxs q
  obtain ⟨ρ, h, va, as, r, vx, vas, e, q⟩ := q
  obtain ⟨i, kvs, rfl, ei⟩ := kd3 e
  obtain rfl := vx.wd_inv
  cases (show v = Value.ref _ from rx)
  obtain ⟨⟨es, n, kd⟩, f⟩ := hw i kvs ei
  replace q : Ans S X.K ρ H (wdM S.T.wds .get i as h) (kAv S X.K Q) eN := q
  unfold wdM at q
  dsimp only at q
  split at q
  case h_2 => exact q.elim
  case h_1 z d1 =>
  obtain ⟨u, u', rfl, hu, hu'⟩ := vas.two
  obtain ⟨w1, w2, rfl, hw1, hw2⟩ := vals2 rxs
  obtain rfl := hu.str_inv
  obtain ⟨t, rfl⟩ := (show ∃ t, w1 = Value.str (toStr z) t from hw1)
  have hm := PySem.W.mapOf_K (prog := X.prog) (w := X.w) I.kIn kd.at_ kd.lit
  refine call_meetsIn PySem.F.slot_dict_get hm.typeIs PySem.F.entry_dict_get (PySem.F.args_dict_get_3 _ _ _) (meets_dict_get_default (strKind X.prog X.w) _ (strKind_is X.prog X.w (toStr z) t) kd.low w2) ⟨_, hm, ?_⟩
  have f := f z
  unfold wdGet at q
  rw [ei] at q
  dsimp only at q
  cases y : kvs.find? (fun q => eqX q.1 z) with
  | none =>
    rw [y] at f q
    rw [PySem.W.find_K kd.at_ f]
    exact ⟨u', H, I.tok _, hw2, q.now r _ hu'⟩
  | some qq =>
    rw [y] at f q
    obtain ⟨vv, u0, f1, f2, f3⟩ := f
    rw [PySem.W.find_K kd.at_ f1]
    exact ⟨vv, H, I.tok _, f2, q.now r _ (f3 ρ H)⟩
end
end Ms

set_option Elab.async false
set_option linter.all false
set_option maxRecDepth 100000
/-! Built-in functions. -/
namespace Ms
open PySem PySem.Spec L2 Mm
open PyProof.Rows hiding St
section
variable {S : Sg} {X : Cx} {d : Nat} {W : WX} {a b c : Expr} {A B C : E} {es : List Expr} {Es : E} {pos p apos : Pos} {ρ : List Addr} {h : AH} {H : Hp} {l : Lo} {σ : St} {K : PySem.W.Frag}
def rBlt (S : Sg) (K : PySem.W.Frag) (b : Bi) : List V → Hp → VK → Prop := fun xs H Q => ∃ ρ h as, HR S K ρ h H ∧ VRs S K ρ H as xs ∧ Ans S K ρ H (bltA b as h) (kAv S K Q) eN
theorem noX_blt (b : Bi) (as : List AV) (h : AH) : NoX (bltA b as h) := by
  unfold bltA
  cases b <;> dsimp only
  all_goals (repeat' split)
  all_goals first | trivial | exact noX_newL
theorem blt_args {Q : VK} {b : Bi} (so : Sok S) (r : HR S X.K ρ h H) (lr : LR S X.K ρ H l σ) (q : Ans S X.K ρ H (ev S.T (run S.T d) (.blt b Es) l h) (kAv S X.K Q) (eW S X.K W σ)) :
    tCB (rBlt S X.K b) (tEvs S X.K d W Es) σ H Q := by
  unfold ev at q
  refine tA_of r lr q fun w h2 ρ2 H2 u2 r2 e3 hu2 q2 => ⟨ρ2, h2, w, r2, hu2, ?_⟩
  have q3 : Ans S X.K ρ2 H2 (bltA b w h2) (kAv S X.K Q) (eW S X.K W σ) := by
    split at q2
    · split at q2
      · rw [so.noLen] at q2
        exact q2.elim
      · exact q2
    · exact q2
  exact q3.noX (noX_blt _ _ _)
theorem ce_bltB {b : Bi} {n : Str} {id : String} (so : Sok S) (hc : CallR X (.builtin id) (rBlt S X.K b)) (hg : Gl X n) (hm : X.mg n = none) (hv : bootBuiltins n = some (.builtin id)) (hn : n ≠ "__name__") (hdb : (n == ("__debug__" : Str)) = false) (ha : CA S X d W (a :: es) Es)
    (he : starEach (a :: es) X.env = (false, eval a X.env) :: starEach es X.env) (hpl : (backTo pos (starEach es X.env)).any (·.1) = false) : CE S X d W (.Call (.Name n p) (a :: es) [] pos) (.blt b Es) :=
  (pe_callB hc hg hm hv ha hn hdb he hpl).imp fun σ H Q ⟨ρ, h, l, r, lr, q⟩ => blt_args so r lr q
theorem ce_bltT {b : Bi} {n : Str} {T : String} (so : Sok S) (hc : CallR X (.type T) (rBlt S X.K b)) (hg : Gl X n) (hm : X.mg n = none) (hv : bootBuiltins n = some (.type T)) (hn : n ≠ "__name__") (hdb : (n == ("__debug__" : Str)) = false) (ha : CA S X d W (a :: es) Es)
    (he : starEach (a :: es) X.env = (false, eval a X.env) :: starEach es X.env) (hpl : (backTo pos (starEach es X.env)).any (·.1) = false) : CE S X d W (.Call (.Name n p) (a :: es) [] pos) (.blt b Es) :=
  (pe_callTy hc hg hm hv ha hn hdb he hpl).imp fun σ H Q ⟨ρ, h, l, r, lr, q⟩ => blt_args so r lr q
/-! each -/
theorem list_of {v : AV} {x : V} {xs : List AV} (r : HR S K ρ h H) (rx : VR S K ρ H v x) (e : listA h v = some xs) : ∃ p vs, x = .ref p ∧ SqL K H p vs ∧ VRs S K ρ H xs vs := by
  unfold listA at e
  split at e
  case h_2 => cases e
  case h_1 i =>
  obtain ⟨p, rfl, ep⟩ := rx.ref_inv
  split at e
  case h_1 ys z =>
    cases e
    obtain ⟨vs, hp, vx⟩ := r.lst ep z
    exact ⟨p, vs, rfl, SqL.of hp, vx⟩
  case h_2 ys z =>
    cases e
    obtain ⟨vs, hp, vx⟩ := r.flst ep z
    exact ⟨p, vs, rfl, hp, vx⟩
  case h_3 => cases e
theorem call_len' : CallR X (.builtin "len") (rBlt S X.K .len) := by
  intro pins s σ H xs us Q I rxs q
  obtain ⟨ρ, h, as, r, vas, q⟩ := q
  unfold bltA at q
  dsimp only at q
  split at q
  case h_2 => exact q.elim
  case h_1 a1 =>
  obtain ⟨u, rfl, hu⟩ := vas.one
  split at q
  case h_2 => exact q.elim
  case h_1 n e =>
  have q' := q.now r _ (.int _)
  unfold lenA at e
  split at e
  case h_1 s1 =>
    split at e
    case h_2 => cases e
    case h_1 z =>
    cases e
    obtain rfl := hu.str_inv
    exact call_len pins s σ H _ us Q I rxs ⟨_, _, rfl, ⟨by rw [toStr_length]; exact okL_ok z, (toStr_length _).symm⟩, q'⟩
  case h_2 ys =>
    cases e
    obtain ⟨p, vs, rfl, sp, vx⟩ := hu.tup_inv
    exact call_len pins s σ H _ us Q I rxs ⟨_, _, rfl, .inr ⟨vs, sp, vx.length⟩, q'⟩
  case h_3 i =>
    obtain ⟨p, rfl, ep⟩ := hu.ref_inv
    split at e
    case h_1 ys z =>
      cases e
      obtain ⟨vs, hp, vx⟩ := r.lst ep z
      exact call_len pins s σ H _ us Q I rxs ⟨_, _, rfl, .inl ⟨vs, SqL.of hp, vx.length⟩, q'⟩
    case h_2 ys z =>
      cases e
      obtain ⟨vs, hp, vx⟩ := r.flst ep z
      exact call_len pins s σ H _ us Q I rxs ⟨_, _, rfl, .inl ⟨vs, hp, vx.length⟩, q'⟩
    case h_3 lk kvs z =>
      cases e
      obtain ⟨qs, hp, kv, _⟩ := r.dic ep z
      obtain ⟨w, rfl, hw⟩ := vals1 rxs
      cases (show w = Value.ref p from hw)
      refine d_len I hp fun t s' I' => ⟨.int _, H, I', ⟨t, rfl⟩, ?_⟩
      rw [← kv.length]
      exact q'
    case h_4 => cases e
  case h_4 => cases e
theorem call_min' (hc : X.calm = true) : CallR X (.builtin "min") (rBlt S X.K .min2) := by
  intro pins s σ H xs us Q I rxs q
  obtain ⟨ρ, h, as, r, vas, q⟩ := q
  unfold bltA at q
  dsimp only at q
  split at q
  case h_2 => exact q.elim
  case h_1 i j =>
  obtain ⟨u, u', rfl, hu, hu'⟩ := vas.two
  obtain rfl := hu.int_inv
  obtain rfl := hu'.int_inv
  exact call_min2 hc pins s σ H _ us Q I rxs ⟨i, j, rfl, q.now r _ (.int _)⟩
theorem call_max' (hc : X.calm = true) : CallR X (.builtin "max") (rBlt S X.K .max2) := by
  intro pins s σ H xs us Q I rxs q
  obtain ⟨ρ, h, as, r, vas, q⟩ := q
  unfold bltA at q
  dsimp only at q
  split at q
  case h_2 => exact q.elim
  case h_1 i j =>
  obtain ⟨u, u', rfl, hu, hu'⟩ := vas.two
  obtain rfl := hu.int_inv
  obtain rfl := hu'.int_inv
  exact call_max2 hc pins s σ H _ us Q I rxs ⟨i, j, rfl, q.now r _ (.int _)⟩
theorem bls_rel {bs : List Bool} {xs : List AV} (e : blsA xs = some bs) : xs = bs.map .bl := by
  induction xs generalizing bs with
  | nil => cases e; rfl
  | cons x xs ih =>
    cases x with
    | bl s =>
      unfold blsA at e
      split at e
      case h_1 q z => cases e; rw [List.map_cons, ← ih z]
      case h_2 => cases e
    | _ => cases e
theorem VRs.bls_inv {bs : List Bool} {vs : List V} (r : VRs S K ρ H (bs.map .bl) vs) : vs = bs.map V.bl := by
  induction bs generalizing vs with
  | nil => cases r; rfl
  | cons s ss ih =>
    cases r with
    | cons a b => rw [a.bl_inv, ih b]; rfl
theorem ints_rel {is : List Int} {xs : List AV} (e : intsA xs = some is) : xs = is.map .int := by
  induction xs generalizing is with
  | nil => cases e; rfl
  | cons x xs ih =>
    cases x with
    | int s =>
      unfold intsA at e
      split at e
      case h_1 q z => cases e; rw [List.map_cons, ← ih z]
      case h_2 => cases e
    | _ => cases e
theorem VRs.ints_inv {is : List Int} {vs : List V} (r : VRs S K ρ H (is.map .int) vs) : vs = is.map V.int := by
  induction is generalizing vs with
  | nil => cases r; rfl
  | cons s ss ih =>
    cases r with
    | cons a b => rw [a.int_inv, ih b]; rfl
theorem VRs.ints (is : List Int) : VRs S K ρ H (is.map .int) (is.map V.int) := by
  induction is with
  | nil => exact .nil
  | cons s ss ih => exact .cons (.int s) ih
theorem call_all' (hc : X.calm = true) : CallR X (.builtin "all") (rBlt S X.K .all) := by
  intro pins s σ H xs us Q I rxs q
  obtain ⟨ρ, h, as, r, vas, q⟩ := q
  unfold bltA at q
  dsimp only at q
  split at q
  case h_2 => exact q.elim
  case h_1 a1 =>
  obtain ⟨u, rfl, hu⟩ := vas.one
  split at q
  case h_2 => exact q.elim
  case h_1 ys e1 =>
  split at q
  case h_2 => exact q.elim
  case h_1 bs e2 =>
  obtain ⟨p, vs, rfl, hp, vx⟩ := list_of r hu e1
  have e3 := bls_rel e2
  subst e3
  obtain rfl := vx.bls_inv
  exact cr_all hc pins s σ H _ us Q I rxs ⟨p, bs, rfl, hp, q.now r _ (.bl _)⟩
theorem call_any' (hc : X.calm = true) : CallR X (.builtin "any") (rBlt S X.K .any) := by
  intro pins s σ H xs us Q I rxs q
  obtain ⟨ρ, h, as, r, vas, q⟩ := q
  unfold bltA at q
  dsimp only at q
  split at q
  case h_2 => exact q.elim
  case h_1 a1 =>
  obtain ⟨u, rfl, hu⟩ := vas.one
  split at q
  case h_2 => exact q.elim
  case h_1 ys e1 =>
  split at q
  case h_2 => exact q.elim
  case h_1 bs e2 =>
  obtain ⟨p, vs, rfl, hp, vx⟩ := list_of r hu e1
  have e3 := bls_rel e2
  subst e3
  obtain rfl := vx.bls_inv
  exact cr_any hc pins s σ H _ us Q I rxs ⟨p, bs, rfl, hp, q.now r _ (.bl _)⟩
theorem call_tuple' : CallR X (.type "tuple") (rBlt S X.K .tuple) := by
  intro pins s σ H xs us Q I rxs q
  obtain ⟨ρ, h, as, r, vas, q⟩ := q
  unfold bltA at q
  dsimp only at q
  split at q
  case h_2 => exact q.elim
  case h_1 a1 =>
  obtain ⟨u, rfl, hu⟩ := vas.one
  split at q
  case h_2 => exact q.elim
  case h_1 ys e1 =>
  split at q
  case h_2 => exact q.elim
  case h_1 e2 =>
  have e1' := e1
  unfold itemsA at e1
  split at e1
  case h_1 zs =>
    cases e1
    obtain ⟨p, vs, rfl, sp, vx⟩ := hu.tup_inv
    exact call_tuple_of pins s σ H _ us Q I rxs ⟨p, vs, rfl, .inr ⟨sp, q.now r _ hu⟩⟩
  case h_2 i =>
    obtain ⟨p, vs, rfl, hp, vx⟩ := list_of (v := .ref i) r hu (by unfold listA; exact e1)
    exact call_tuple_of pins s σ H _ us Q I rxs ⟨p, vs, rfl, .inl ⟨hp, tup_of r vx q⟩⟩
  case h_3 => cases e1
theorem KVR.keys {xs : List (AK × AV)} {ys : List (Key × V)} (r : KVR S K ρ H xs ys) : VRs S K ρ H (xs.map fun q => avK q.1) (ys.map fun kv => kV kv.1) := by
  induction r with
  | nil => exact .nil
  | cons a _ ih => exact .cons (avK_ok _) ih
theorem call_list' (hc : X.calm = true) : CallR X (.type "list") (rBlt S X.K .list) := by
  intro pins s σ H xs us Q I rxs q
  obtain ⟨ρ, h, as, r, vas, q⟩ := q
  unfold bltA at q
  dsimp only at q
  split at q
  case h_2 => exact q.elim
  case h_1 a1 =>
  obtain ⟨u, rfl, hu⟩ := vas.one
  split at q
  case h_1 ys e1 =>
    obtain ⟨p, vs, rfl, hp, vx⟩ := items_of r hu e1
    exact call_list_of pins s σ H _ us Q I rxs ⟨p, vs, rfl, hp, (newL_of r q vx).2⟩
  case h_2 e1 =>
    split at q
    case h_2 => exact q.elim
    case h_1 ys e2 =>
    unfold keysA at e2
    split at e2
    case h_2 => cases e2
    case h_1 i =>
    obtain ⟨p, rfl, ep⟩ := hu.ref_inv
    split at e2
    case h_2 => cases e2
    case h_1 lk kvs z =>
    cases e2
    obtain ⟨qs, hp, kv, _⟩ := r.dic ep z
    exact call_listD hc pins s σ H _ us Q I rxs ⟨p, qs, rfl, hp, (newL_of r q kv.keys).2⟩
/-- a new dict -/
theorem newD_of {kvs : List (AK × AV)} {qs : List (Key × V)} {Q : VK} {e : AX → List Addr → Hp → Prop} (r : HR S K ρ h H) (kv : KVR S K ρ H kvs qs) (q : Ans S K ρ H (newO (.dic false kvs) h) (kAv S K Q) e) : ∀ p, H p = none → Q (.ref p) (upd H p (.dK qs)) := fun p np => by
  have hp : p ∉ ρ := r.free np
  have ex : Ext ρ H (ρ ++ [p]) (upd H p (.dK qs)) := by
    refine ⟨⟨_, rfl⟩, fun b o hb _ => ?_, fun b hb hn => ?_⟩
    · rw [upd_ne (ne_of_none hb np)]; exact hb
    · rcases List.mem_append.mp hb with m | m
      · exact absurd m hn
      · rw [List.mem_singleton.mp m]; exact np
  obtain ⟨r1, e2⟩ := r.push (o := .dic false kvs) (u := .dK qs) np ⟨qs, upd_same, kv.mono r ex⟩
  refine q _ _ r1 e2 _ (.ref ?_)
  rw [← r.len]
  simp
theorem call_dict' : CallR X (.type "dict") (rBlt S X.K .dict) := by
  intro pins s σ H xs us Q I rxs q
  obtain ⟨ρ, h, as, r, vas, q⟩ := q
  unfold bltA at q
  dsimp only at q
  split at q
  case h_2 => exact q.elim
  case h_1 i =>
  obtain ⟨u, rfl, hu⟩ := vas.one
  obtain ⟨p, rfl, ep⟩ := hu.ref_inv
  split at q
  case h_2 => exact q.elim
  case h_1 lk kvs z =>
  obtain ⟨qs, hp, kv, _⟩ := r.dic ep z
  exact call_dictD pins s σ H _ us Q I rxs ⟨p, qs, rfl, hp, newD_of r kv q⟩
end
end Ms

set_option Elab.async false
set_option linter.all false
set_option maxRecDepth 100000
/-! Statements. -/
namespace Ms
open PySem PySem.Spec L2 Mm
open PyProof.Rows hiding St
/-- what is wanted behind a statement, by the machine's answer -/
def AnsS (S : Sg) (K : PySem.W.Frag) (ρ : List Addr) (H : Hp) (W : WX) (D : Ends) (f : Fl) : Prop := match f with
  | .nx l h' => ∀ ρ' H' σ', HR S K ρ' h' H' → Ext ρ H ρ' H' → LR S K ρ' H' l σ' → D.nx σ' H'
  | .rt v h' => ∀ ρ' H', HR S K ρ' h' H' → Ext ρ H ρ' H' → ∀ u, VR S K ρ' H' v u → D.rt u H'
  | .bk l h' => ∀ ρ' H' σ', HR S K ρ' h' H' → Ext ρ H ρ' H' → LR S K ρ' H' l σ' → D.bk σ' H'
  | .ct l h' => ∀ ρ' H' σ', HR S K ρ' h' H' → Ext ρ H ρ' H' → LR S K ρ' H' l σ' → D.ct σ' H'
  | .ex x l h' => ∀ ρ' H' σ', HR S K ρ' h' H' → Ext ρ H ρ' H' → LR S K ρ' H' l σ' → ∀ c d, XR S K ρ' H' x c d → W c d σ' H'
  | .bad => False
def tSt (S : Sg) (K : PySem.W.Frag) (d : Nat) (W : WX) (c : Option AX) (m : Mm.S) : TS := fun D σ H => ∃ ρ h l, HR S K ρ h H ∧ LR S K ρ H l σ ∧ AnsS S K ρ H W D (Mm.st S.T (run S.T d) m c l h)
section
variable {S : Sg} {X : Cx} {d : Nat} {W : WX} {a b c : Expr} {A B C : E} {es : List Expr} {Es : E} {pos p apos : Pos} {ρ ρ1 : List Addr} {h h1 : AH} {H H1 : Hp} {l : Lo} {σ : St} {K : PySem.W.Frag} {D : Ends} {cx : Option AX}
abbrev CS (S : Sg) (X : Cx) (d : Nat) (W : WX) (c : Option AX) (e : Stmt) (m : Mm.S) : Prop := PS X e (tSt S X.K d W c m)
abbrev CSs (S : Sg) (X : Cx) (d : Nat) (W : WX) (c : Option AX) (e : List Stmt) (m : Mm.S) : Prop := PSs X e (tSt S X.K d W c m)
theorem AnsS.ext {f : Fl} (x : Ext ρ H ρ1 H1) (a : AnsS S K ρ H W D f) : AnsS S K ρ1 H1 W D f := by
  cases f with
  | nx l h' => exact fun ρ' H' σ' r e => a ρ' H' σ' r (x.trans e)
  | rt v h' => exact fun ρ' H' r e => a ρ' H' r (x.trans e)
  | bk l h' => exact fun ρ' H' σ' r e => a ρ' H' σ' r (x.trans e)
  | ct l h' => exact fun ρ' H' σ' r e => a ρ' H' σ' r (x.trans e)
  | ex y l h' => exact fun ρ' H' σ' r e => a ρ' H' σ' r (x.trans e)
  | bad => exact a
theorem AnsS.now {l : Lo} {h : AH} (r : HR S K ρ h H) (lr : LR S K ρ H l σ) (a : AnsS S K ρ H W D (.nx l h)) : D.nx σ H := a ρ H σ r (Ext.refl _ _) lr
/-- an expression ahead of what a statement does with it -/
theorem onR_of {e : E} {Q : VK} {f : AV → AH → Fl} (r : HR S X.K ρ h H) (lr : LR S X.K ρ H l σ) (q : AnsS S X.K ρ H W D (onR (ev S.T (run S.T d) e l h) l f))
    (g : ∀ v h1 ρ1 H1 u, HR S X.K ρ1 h1 H1 → Ext ρ H ρ1 H1 → VR S X.K ρ1 H1 v u → AnsS S X.K ρ1 H1 W D (f v h1) → Q u H1) : tEv S X.K d W e σ H Q := by
  refine ⟨ρ, h, l, r, lr, ?_⟩
  cases e1 : ev S.T (run S.T d) e l h with
  | bad => rw [e1] at q; exact q
  | ex x h1 =>
    rw [e1] at q
    exact fun ρ' H' r' x' => q ρ' H' σ r' x' (lr.mono r x')
  | ok v h1 =>
    rw [e1] at q
    exact fun ρ' H' r' x' u hu => g v h1 ρ' H' u r' x' hu (AnsS.ext x' q)
theorem onRs_of {e : E} {Q : List V → Hp → Prop} {f : List AV → AH → Fl} (r : HR S X.K ρ h H) (lr : LR S X.K ρ H l σ) (q : AnsS S X.K ρ H W D (onR (evs S.T (run S.T d) e l h) l f))
    (g : ∀ v h1 ρ1 H1 u, HR S X.K ρ1 h1 H1 → Ext ρ H ρ1 H1 → VRs S X.K ρ1 H1 v u → AnsS S X.K ρ1 H1 W D (f v h1) → Q u H1) : tEvs S X.K d W e σ H Q := by
  refine ⟨ρ, h, l, r, lr, ?_⟩
  cases e1 : evs S.T (run S.T d) e l h with
  | bad => rw [e1] at q; exact q
  | ex x h1 =>
    rw [e1] at q
    exact fun ρ' H' r' x' => q ρ' H' σ r' x' (lr.mono r x')
  | ok v h1 =>
    rw [e1] at q
    exact fun ρ' H' r' x' u hu => g v h1 ρ' H' u r' x' hu (AnsS.ext x' q)
/-- a test ahead -/
theorem onT_of {e : E} {Q : Bool → Hp → Prop} {f : AV → AH → Fl} (r : HR S X.K ρ h H) (lr : LR S X.K ρ H l σ) (q : AnsS S X.K ρ H W D (onR (ev S.T (run S.T d) e l h) l f))
    (n : ∀ v h1, truth h1 v = none → f v h1 = .bad)
    (g : ∀ v h1 ρ1 H1 b, HR S X.K ρ1 h1 H1 → Ext ρ H ρ1 H1 → truth h1 v = some b → AnsS S X.K ρ1 H1 W D (f v h1) → Q b H1) : tTr S X.K d W e σ H Q := by
  refine ⟨ρ, h, l, r, lr, ?_⟩
  cases e1 : ev S.T (run S.T d) e l h with
  | bad => rw [e1] at q; exact q
  | ex x h1 =>
    rw [e1] at q
    exact fun ρ' H' r' x' => q ρ' H' σ r' x' (lr.mono r x')
  | ok v h1 =>
    rw [e1] at q
    have q' : AnsS S X.K ρ H W D (f v h1) := q
    show Ans S X.K ρ H (Rs.ofO (truth h1 v) h1) _ _
    cases e2 : truth h1 v with
    | none => rw [n v h1 e2] at q'; exact q'.elim
    | some b => exact fun ρ' H' r' x' => g v h1 ρ' H' b r' x' e2 (AnsS.ext x' q')

/-! ### small ones -/
theorem css_nil : CSs S X d W cx [] .nil := pss_nil.imp fun D σ H ⟨ρ, h, l, r, lr, q⟩ => by
  unfold Mm.st at q
  exact q.now r lr
theorem cs_pass : CS S X d W cx (.Pass pos) .pas := ps_pass.imp fun D σ H ⟨ρ, h, l, r, lr, q⟩ => by
  unfold Mm.st at q
  exact q.now r lr
theorem cs_break : CS S X d W cx (.Break pos) .brk := ps_break.imp fun D σ H ⟨ρ, h, l, r, lr, q⟩ => by
  unfold Mm.st at q
  exact q ρ H σ r (Ext.refl _ _) lr
theorem cs_continue : CS S X d W cx (.Continue pos) .cnt := ps_continue.imp fun D σ H ⟨ρ, h, l, r, lr, q⟩ => by
  unfold Mm.st at q
  exact q ρ H σ r (Ext.refl _ _) lr
theorem cs_doc {x : Str} {j : Nat} {p2 : Pos} : CS S X d W cx (.Expr (.Constant (.str x) j p) p2) .pas := ps_doc.imp fun D σ H ⟨ρ, h, l, r, lr, q⟩ => by
  unfold Mm.st at q
  exact q.now r lr
theorem css_cons {s : Stmt} {ss : List Stmt} {m n : Mm.S} (hs : CS S X d W cx s m) (hr : CSs S X d W cx ss n) : CSs S X d W cx (s :: ss) (.seq m n) := by
  refine (pss_cons hs hr).imp fun D σ H ⟨ρ, h, l, r, lr, q⟩ => ?_
  refine ⟨ρ, h, l, r, lr, ?_⟩
  unfold Mm.st at q
  cases e : Mm.st S.T (run S.T d) m cx l h with
  | nx l1 h1 =>
    rw [e] at q
    exact fun ρ' H' σ' r' x' lr' => ⟨ρ', h1, l1, r', lr', AnsS.ext x' q⟩
  | rt v h' => rw [e] at q; exact q
  | bk l h' => rw [e] at q; exact q
  | ct l h' => rw [e] at q; exact q
  | ex y l h' => rw [e] at q; exact q
  | bad => rw [e] at q; exact q
theorem cs_expr (ha : CE S X d W a A) (hs : swapsWith a none pos.line X.env = pure false) : CS S X d W cx (.Expr a pos) (.ex A) := (ps_expr ha hs).imp fun D σ H ⟨ρ, h, l, r, lr, q⟩ => by
  unfold Mm.st at q
  exact onR_of r lr q fun v h1 ρ1 H1 u r1 e1 hu q1 => q1.now r1 (lr.mono r e1)
theorem cs_ret (ha : CE S X d W a A) : CS S X d W cx (.Return (some a) pos) (.ret A) := (ps_ret ha).imp fun D σ H ⟨ρ, h, l, r, lr, q⟩ => by
  unfold Mm.st at q
  exact onR_of r lr q fun v h1 ρ1 H1 u r1 e1 hu q1 => q1 ρ1 H1 r1 (Ext.refl _ _) u hu
theorem cs_retN : CS S X d W cx (.Return none pos) (.ret (.cst .non)) := ps_retN.imp fun D σ H ⟨ρ, h, l, r, lr, q⟩ => by
  unfold Mm.st at q
  unfold ev at q
  exact q ρ H r (Ext.refl _ _) _ .non
theorem cs_ite {t e : List Stmt} {m n : Mm.S} (hc : CT S X d W c C) (ht : CSs S X d W cx t m) (he : CSs S X d W cx e n) : CS S X d W cx (.If c t e pos) (.ite C m n) := (ps_if hc ht he).imp fun D σ H ⟨ρ, h, l, r, lr, q⟩ => by
  unfold Mm.st at q
  refine onT_of r lr q (fun v h1 e => by rw [e]) fun v h1 ρ1 H1 b r1 e1 eb q1 => ?_
  rw [eb] at q1
  cases b with
  | true => exact iteT ⟨ρ1, h1, l, r1, lr.mono r e1, q1⟩
  | false => exact iteF ⟨ρ1, h1, l, r1, lr.mono r e1, q1⟩

/-! ### targets -/
/-- a target -/
def tgT (S : Sg) (K : PySem.W.Frag) (t : T) : TG := fun x σ H Q => ∃ ρ h l v l2, HR S K ρ h H ∧ LR S K ρ H l σ ∧ VR S K ρ H v x ∧ setT t v l h = some l2 ∧ ∀ σ2, LR S K ρ H l2 σ2 → wipe σ2 (slots t) = wipe σ (slots t) → Q σ2 H
def tgTs (S : Sg) (K : PySem.W.Frag) (t : T) : TGs := fun x σ H Q => ∃ ρ h l v l2, HR S K ρ h H ∧ LR S K ρ H l σ ∧ VRs S K ρ H v x ∧ setT.setTs t v l h = some l2 ∧ ∀ σ2, LR S K ρ H l2 σ2 → wipe σ2 (slots t) = wipe σ (slots t) → Q σ2 H
abbrev CG (S : Sg) (X : Cx) (e : Expr) (t : T) : Prop := PG X e (tgT S X.K t)
abbrev CGs (S : Sg) (X : Cx) (e : List Expr) (t : T) : Prop := PGs X e (tgTs S X.K t)
theorem _root_.L2.PG.imp {X : Cx} {e : Expr} {t t' : TG} (p : PG X e t) (h : ∀ v σ H Q, t' v σ H Q → t v σ H Q) : PG X e t' := ⟨fun pins s σ H v u Q I r q => p.run pins s σ H v u Q I r (h _ _ _ _ q)⟩
theorem _root_.L2.PGs.imp {X : Cx} {e : List Expr} {t t' : TGs} (p : PGs X e t) (h : ∀ v σ H Q, t' v σ H Q → t v σ H Q) : PGs X e t' := ⟨fun pins s σ H v u Q I r q => p.run pins s σ H v u Q I r (h _ _ _ _ q)⟩
theorem wipe_get (vs : List Nat) (σ : St) (i : Nat) : (wipe σ vs)[i]? = if i ∈ vs then (if i < σ.length then some none else none) else σ[i]? := by
  induction vs with
  | nil => simp [wipe]
  | cons v vs ih =>
    unfold wipe
    rw [List.getElem?_set, wipe_length]
    by_cases e : v = i
    · subst e
      simp
    · rw [if_neg e, ih]
      have z : i ≠ v := fun q => e q.symm
      simp [z]
theorem wipe_app (σ : St) (a b : List Nat) : wipe σ (a ++ b) = wipe (wipe σ b) a := by
  induction a with
  | nil => rfl
  | cons v vs ih =>
    show (wipe σ (vs ++ b)).set v none = (wipe (wipe σ b) vs).set v none
    rw [ih]
theorem wipe_comm (σ : St) (a b : List Nat) : wipe (wipe σ b) a = wipe (wipe σ a) b := by
  apply List.ext_getElem?
  intro i
  simp only [wipe_get, wipe_length]
  by_cases h1 : i ∈ a <;> by_cases h2 : i ∈ b <;> simp [h1, h2]
theorem wipe_set {σ : St} {i : Nat} {vs : List Nat} {o : Option V} (m : i ∈ vs) : wipe (σ.set i o) vs = wipe σ vs := by
  apply List.ext_getElem?
  intro j
  simp only [wipe_get, List.length_set, List.getElem?_set]
  split
  · rfl
  · rename_i hn
    rw [if_neg (show ¬ i = j from fun z => hn (by rw [← z]; exact m))]
theorem cg_name {i : Nat} {x : Str} (hN : X.N.Nodup) (hi : X.N[i]? = some x) (hx : Loc X.env.scope x) (hf : X.fn x = true ∨ X.env.scope.names.lookup x = some .local) : CG S X (.Name x pos) (.nm i) :=
  (pg_name hN hi hx hf).imp fun v σ H Q ⟨ρ, h, l, w, l2, r, lr, vr, e, q⟩ => by
    unfold setT at e
    cases e
    exact q _ (lr.set vr i) (wipe_set (by simp [slots]))
theorem cgs_nil : CGs S X [] .nil := pgs_nil.imp fun v σ H Q ⟨ρ, h, l, w, l2, r, lr, vr, e, q⟩ => by
  cases vr with
  | nil =>
    unfold setT.setTs at e
    cases e
    exact ⟨rfl, q _ lr rfl⟩
  | cons _ _ =>
    unfold setT.setTs at e
    cases e
theorem cgs_cons {t : Expr} {ts : List Expr} {m n : T} (h1 : CG S X t m) (h2 : CGs S X ts n) (hs : (assignEach (t :: ts) X.env).map (·.2) = assign t X.env :: (assignEach ts X.env).map (·.2)) : CGs S X (t :: ts) (.cons m n) :=
  (pgs_cons h1 h2 hs).imp fun v σ H Q ⟨ρ, h, l, w, l2, r, lr, vr, e, q⟩ => by
    cases vr with
    | nil =>
      unfold setT.setTs at e
      cases e
    | cons a b =>
      unfold setT.setTs at e
      split at e
      case h_2 => cases e
      case h_1 l3 e1 =>
      refine ⟨_, _, rfl, ρ, h, l, _, l3, r, lr, a, e1, fun σ2 lr2 w2 => ⟨ρ, h, l3, _, l2, r, lr2, b, e, fun σ3 lr3 w3 => q σ3 lr3 ?_⟩⟩
      show wipe σ3 (slots m ++ slots n) = wipe σ (slots m ++ slots n)
      rw [wipe_app, w3, wipe_app, wipe_comm, w2, wipe_comm]
def tlen : T → Nat
  | .cons _ b => tlen b + 1
  | _ => 0
theorem setTs_len : ∀ {t : T} {xs : List AV} {l : Lo} {h : AH} {l2 : Lo}, setT.setTs t xs l h = some l2 → xs.length = tlen t
  | .nil, [], _, _, _, _ => rfl
  | .nil, _ :: _, _, _, _, e => by unfold setT.setTs at e; cases e
  | .cons a b, [], _, _, _, e => by unfold setT.setTs at e; cases e
  | .cons a b, x :: xs, l, h, l2, e => by
    unfold setT.setTs at e
    split at e
    case h_2 => cases e
    case h_1 l3 _ =>
    show xs.length + 1 = tlen b + 1
    rw [setTs_len e]
  | .nm _, _, _, _, _, e => by unfold setT.setTs at e; cases e
  | .tp _, _, _, _, _, e => by unfold setT.setTs at e; cases e
theorem cg_tup {ts : List Expr} {t : T} {k : Nat} (hc : X.calm = true) (hs : CGs S X ts t) (hn : (assignEach ts X.env).length = tlen t) (hst : (assignEach ts X.env).findIdx? (·.1) = none) : CG S X (.Tuple ts k pos) (.tp t) :=
  (pg_tup hc hs hn hst).imp fun v σ H Q ⟨ρ, h, l, w, l2, r, lr, vr, e, q⟩ => by
    unfold setT at e
    split at e
    case h_2 => cases e
    case h_1 xs =>
    obtain ⟨p, vs, rfl, sp, vx⟩ := vr.tup_inv
    exact ⟨p, vs, rfl, sp, by rw [← vx.length]; exact setTs_len e, ρ, h, l, xs, l2, r, lr, vx, e, q⟩

/-! ### assignments -/
theorem cs_asg {t : Expr} {m : T} (ha : CE S X d W a A) (ht : CG S X t m) (hs : swapsWithSole [t] a pos.line X.env = pure false) (hw : swappedStores [t] a X.env = pure none) (h1 : (assignEach [t] X.env).map (·.2) = [assign t X.env]) : CS S X d W cx (.Assign [t] a pos) (.asg m A) :=
  (ps_asg ha ht hs hw h1).imp fun D σ H ⟨ρ, h, l, r, lr, q⟩ => by
    unfold Mm.st at q
    refine onR_of r lr q fun v h1 ρ1 H1 u r1 e1 hu q1 => ?_
    split at q1
    case h_2 => exact q1.elim
    case h_1 l2 e2 => exact ⟨ρ1, h1, l, v, l2, r1, lr.mono r e1, hu, e2, fun σ2 lr2 _ => q1.now r1 lr2⟩
theorem cs_set {i : Nat} {x : Str} {p' : Pos} (hN : X.N.Nodup) (hi : X.N[i]? = some x) (hx : Loc X.env.scope x) (ha : CE S X d W a A) (hs : swapsWith a (some (.Name x p')) pos.line X.env = pure false) (hf : X.fn x = true ∨ X.env.scope.names.lookup x = some .local) :
    CS S X d W cx (.Assign [.Name x p'] a pos) (.asg (.nm i) A) :=
  (ps_set hN hi hx ha hs hf).imp fun D σ H ⟨ρ, h, l, r, lr, q⟩ => by
    unfold Mm.st at q
    refine onR_of r lr q fun v h1 ρ1 H1 u r1 e1 hu q1 => ?_
    unfold setT at q1
    exact q1 ρ1 H1 _ r1 (Ext.refl _ _) ((lr.mono r e1).set hu i)

/-! ### while -/
theorem cs_while {body : List Stmt} {m : Mm.S} (hp : PassesOwn (model X.prog X.w) X.A X.env X.xe) (hc : CT S X d W c C) (hb : CSs S X d W cx body m) : CS S X d W cx (.While c body [] pos) (.whl C m) :=
  (ps_while hp hc hb).imp fun D σ H ⟨ρ, h, l, r, lr, q⟩ => by
    unfold Mm.st at q
    refine ⟨fun n σ' H' => ∃ ρ' h' l', HR S X.K ρ' h' H' ∧ LR S X.K ρ' H' l' σ' ∧ AnsS S X.K ρ' H' W D (loopW (fun l h => (ev S.T (run S.T d) C l h).bind fun x h => Rs.ofO (truth h x) h) (fun l h => Mm.st S.T (run S.T d) m cx l h) n l' h'), ⟨_, ρ, h, l, r, lr, q⟩, ?_⟩
    rintro n σ' H' ⟨ρ', h', l', r', lr', q'⟩
    cases n with
    | zero => exact q'.elim
    | succ n =>
    unfold loopW at q'
    refine ⟨ρ', h', l', r', lr', ?_⟩
    cases e1 : ev S.T (run S.T d) C l' h' with
    | bad => rw [e1] at q'; exact q'
    | ex x h1 =>
      rw [e1] at q'
      exact fun ρ2 H2 r2 x2 => q' ρ2 H2 σ' r2 x2 (lr'.mono r' x2)
    | ok v h1 =>
      rw [e1] at q'
      replace q' : AnsS S X.K ρ' H' W D (match Rs.ofO (truth h1 v) h1 with
        | .ok true h => (match Mm.st S.T (run S.T d) m cx l' h with
          | .nx l h => loopW (fun l h => (ev S.T (run S.T d) C l h).bind fun x h => Rs.ofO (truth h x) h) (fun l h => Mm.st S.T (run S.T d) m cx l h) n l h
          | .ct l h => loopW (fun l h => (ev S.T (run S.T d) C l h).bind fun x h => Rs.ofO (truth h x) h) (fun l h => Mm.st S.T (run S.T d) m cx l h) n l h
          | .bk l h => .nx l h
          | r => r)
        | .ok false h => .nx l' h
        | .ex x h => .ex x l' h
        | .bad => .bad) := q'
      show Ans S X.K ρ' H' (Rs.ofO (truth h1 v) h1) _ _
      cases e2 : truth h1 v with
      | none => rw [e2] at q'; exact q'
      | some b =>
        rw [e2] at q'
        intro ρ2 H2 r2 x2
        cases b with
        | false => exact iteF (q' ρ2 H2 σ' r2 x2 (lr'.mono r' x2))
        | true =>
        refine iteT ⟨fun σ3 H3 => ∃ ρ3 h3 l3, HR S X.K ρ3 h3 H3 ∧ LR S X.K ρ3 H3 l3 σ3 ∧ AnsS S X.K ρ3 H3 W D (loopW (fun l h => (ev S.T (run S.T d) C l h).bind fun x h => Rs.ofO (truth h x) h) (fun l h => Mm.st S.T (run S.T d) m cx l h) n l3 h3), fun σ3 H3 q3 => ⟨n, Nat.lt_succ_self _, q3⟩, ρ2, h1, l', r2, lr'.mono r' x2, ?_⟩
        replace q' : AnsS S X.K ρ' H' W D (match Mm.st S.T (run S.T d) m cx l' h1 with
          | .nx l h => loopW (fun l h => (ev S.T (run S.T d) C l h).bind fun x h => Rs.ofO (truth h x) h) (fun l h => Mm.st S.T (run S.T d) m cx l h) n l h
          | .ct l h => loopW (fun l h => (ev S.T (run S.T d) C l h).bind fun x h => Rs.ofO (truth h x) h) (fun l h => Mm.st S.T (run S.T d) m cx l h) n l h
          | .bk l h => .nx l h
          | r => r) := q'
        replace q' := q'.ext x2
        cases e3 : Mm.st S.T (run S.T d) m cx l' h1 with
        | nx l3 h3 => rw [e3] at q'; exact fun ρ3 H3 σ3 r3 x3 lr3 => ⟨ρ3, h3, l3, r3, lr3, AnsS.ext x3 q'⟩
        | ct l3 h3 => rw [e3] at q'; exact fun ρ3 H3 σ3 r3 x3 lr3 => ⟨ρ3, h3, l3, r3, lr3, AnsS.ext x3 q'⟩
        | bk l3 h3 => rw [e3] at q'; exact q'
        | rt v h3 => rw [e3] at q'; exact q'
        | ex y l h3 => rw [e3] at q'; exact q'
        | bad => rw [e3] at q'; exact q'
end
end Ms

set_option Elab.async false
set_option linter.all false
set_option maxRecDepth 100000
/-! What is walked; for; comprehensions. -/
namespace Ms
open PySem PySem.Spec L2 Mm
open PyProof.Rows hiding St
/-- a walk of the text's, and the machine's -/
structure SrcR (S : Sg) (K : PySem.W.Frag) (ρ1 : List Addr) (H1 : Hp) (q : Src) (J : It) : Prop where
  stop : ∀ i ρ h H, HR S K ρ h H → Ext ρ1 H1 ρ H → itemA q i h = some none → J.stop i H
  go : ∀ i ρ h H v, HR S K ρ h H → Ext ρ1 H1 ρ H → itemA q i h = some (some v) → J.go i H ∧ ∀ x H', J.yld i H x H' → HR S K ρ h H' ∧ Ext ρ H ρ H' ∧ VR S K ρ H' v x
def tI (S : Sg) (K : PySem.W.Frag) (d : Nat) (W : WX) (k : Ik) (as : E) : TI := fun σ H R => ∃ ρ h l, HR S K ρ h H ∧ LR S K ρ H l σ ∧
  Ans S K ρ H (evs S.T (run S.T d) as l h) (fun xs h1 ρ1 H1 => ∃ q, srcA k xs h1 = some q ∧ ∀ J, SrcR S K ρ1 H1 q J → R J H1) (eW S K W σ)
abbrev CI (S : Sg) (X : Cx) (d : Nat) (W : WX) (tg iter : Expr) (k : Ik) (as : E) : Prop := PI X tg iter (tI S X.K d W k as)
theorem _root_.L2.PI.imp {X : Cx} {tg iter : Expr} {t t' : TI} (p : PI X tg iter t) (h : ∀ σ H R, t' σ H R → t σ H R) : PI X tg iter t' := ⟨fun pins s σ H R I q => p.run pins s σ H R I (h _ _ _ q)⟩
section
variable {S : Sg} {X : Cx} {d : Nat} {W : WX} {a b c tg : Expr} {A B C : E} {es : List Expr} {Es : E} {pos p apos : Pos} {ρ ρ1 : List Addr} {h h1 : AH} {H H1 : Hp} {l : Lo} {σ : St} {K : PySem.W.Frag} {D : Ends} {cx : Option AX}
/-! each walk -/
theorem src_tup {xs : List AV} {vs : List V} {t : Addr} (r : HR S K ρ1 h1 H1) (sp : SqT K H1 t vs) (vx : VRs S K ρ1 H1 xs vs) : SrcR S K ρ1 H1 (.fix xs) (Itt K t) where
  stop i ρ h H r2 x e := by
    unfold itemA at e
    have e' : xs[i]? = none := Option.some.inj e
    refine ⟨vs, SqT.mono (fun _ m => r.notup m) x.keep sp, ?_⟩
    rw [← vx.length]
    exact List.getElem?_eq_none_iff.mp e'
  go i ρ h H v r2 x e := by
    unfold itemA at e
    obtain ⟨u, h1, h2⟩ := vx.get (Option.some.inj e)
    have sp2 := SqT.mono (ρ := ρ1) (fun _ m => r.notup m) x.keep sp
    refine ⟨⟨vs, u, sp2, h1⟩, fun y H' z => ?_⟩
    obtain ⟨rfl, z⟩ := z
    replace z := z vs sp2
    rw [h1] at z
    cases z
    exact ⟨r2, Ext.refl _ _, h2.mono r x⟩
theorem src_str {s : Tx} : SrcR S K ρ1 H1 (.fix (s.map fun c => .str [c])) (Its (toStr s)) where
  stop i ρ h H r2 x e := by
    unfold itemA at e
    have e' : (s.map fun c => AV.str [c])[i]? = none := Option.some.inj e
    have z := List.getElem?_eq_none_iff.mp e'
    rw [List.length_map] at z
    exact z
  go i ρ h H v r2 x e := by
    unfold itemA at e
    have e' := Option.some.inj e
    rw [List.getElem?_map] at e'
    cases e2 : s[i]? with
    | none => rw [e2] at e'; cases e'
    | some c =>
      rw [e2] at e'
      cases e'
      refine ⟨(List.getElem?_eq_some_iff.mp e2).1, fun y H' z => ?_⟩
      obtain ⟨rfl, c', z1, rfl⟩ := z
      have z2 : s[i]? = some c' := by rw [← z1]; simp [toStr]
      rw [e2] at z2
      cases z2
      exact ⟨r2, Ext.refl _ _, .str [c]⟩
theorem rngL_get : ∀ (n : Nat) (lo : Int) (i : Nat), (rngL n lo)[i]? = if i < n then some (.int (lo + i)) else none
  | 0, _, _ => by simp [rngL]
  | n + 1, lo, 0 => by simp [rngL]
  | n + 1, lo, i + 1 => by
    show (rngL n (lo + 1))[i]? = _
    rw [rngL_get n (lo + 1) i]
    have e : lo + 1 + (i : Int) = lo + ((i + 1 : Nat) : Int) := by omega
    rw [e]
    by_cases z : i < n
    · rw [if_pos z, if_pos (Nat.succ_lt_succ z)]
    · rw [if_neg z, if_neg (fun q => z (Nat.lt_of_succ_lt_succ q))]
theorem src_rng {lo : Int} {n : Nat} : SrcR S K ρ1 H1 (.fix (rngL n lo)) (Itr lo n) where
  stop i ρ h H r2 x e := by
    unfold itemA at e
    have e' : (rngL n lo)[i]? = none := Option.some.inj e
    rw [rngL_get] at e'
    show n ≤ i
    by_cases z : i < n
    · rw [if_pos z] at e'; cases e'
    · omega
  go i ρ h H v r2 x e := by
    unfold itemA at e
    have e' := Option.some.inj e
    rw [rngL_get] at e'
    by_cases z : i < n
    · rw [if_pos z] at e'
      cases e'
      refine ⟨z, fun y H' w => ?_⟩
      obtain ⟨rfl, rfl⟩ := w
      exact ⟨r2, Ext.refl _ _, .int _⟩
    · rw [if_neg z] at e'; cases e'
theorem src_lst {i0 : Nat} {t : Addr} (r : HR S K ρ1 h1 H1) (ep : ρ1[i0]? = some t) : SrcR S K ρ1 H1 (.lst i0) (Itl K t) where
  stop i ρ h H r2 x e := by
    have ep2 := x.get ep
    unfold itemA at e
    dsimp only at e
    split at e
    case h_1 xs z =>
      obtain ⟨vs, hp, vx⟩ := r2.lst ep2 z
      exact ⟨vs, SqL.of hp, by rw [← vx.length]; exact List.getElem?_eq_none_iff.mp (Option.some.inj e)⟩
    case h_2 xs z =>
      obtain ⟨vs, hp, vx⟩ := r2.flst ep2 z
      exact ⟨vs, hp, by rw [← vx.length]; exact List.getElem?_eq_none_iff.mp (Option.some.inj e)⟩
    case h_3 => cases e
  go i ρ h H v r2 x e := by
    have ep2 := x.get ep
    unfold itemA at e
    dsimp only at e
    split at e
    case h_1 xs z =>
      obtain ⟨vs, hp, vx⟩ := r2.lst ep2 z
      obtain ⟨u, h1, h2⟩ := vx.get (Option.some.inj e)
      refine ⟨⟨vs, u, SqL.of hp, h1⟩, fun y H' w => ?_⟩
      obtain ⟨rfl, w⟩ := w
      replace w := w vs (SqL.of hp)
      rw [h1] at w
      cases w
      exact ⟨r2, Ext.refl _ _, h2⟩
    case h_2 xs z =>
      obtain ⟨vs, hp, vx⟩ := r2.flst ep2 z
      obtain ⟨u, h1, h2⟩ := vx.get (Option.some.inj e)
      refine ⟨⟨vs, u, hp, h1⟩, fun y H' w => ?_⟩
      obtain ⟨rfl, w⟩ := w
      replace w := w vs hp
      rw [h1] at w
      cases w
      exact ⟨r2, Ext.refl _ _, h2⟩
    case h_3 => cases e
/-- a value that is a list, a tuple, a text -/
def iAny (K : PySem.W.Frag) (te : TE) : TI := fun σ H R => te σ H fun x H1 => (∃ a, x = .ref a ∧ (∃ xs, SqL K H1 a xs) ∧ R (Itl K a) H1) ∨ (∃ a, x = .ref a ∧ (∃ xs, SqT K H1 a xs) ∧ R (Itt K a) H1) ∨ ∃ y, x = .str y ∧ R (Its y) H1
theorem new_one {pins : List (Addr × Obj)} {s : Shared} {o : Obj} (I : Inv X pins σ H s) : Inv X pins σ H { s with heap := s.heap.push o } ∧ ∀ b ∈ [s.heap.objs.size], FpOk X pins H b :=
  ⟨I.kept (t' := s.toks) fun _ _ e => Heap.get?_push_of_some _ e, fun b hb => by
    rw [List.mem_singleton.mp hb]
    exact I.fpOk (Nat.le_refl _) (I.hok.fresh (Nat.le_refl _))⟩
theorem pi_any {e : Expr} {te : TE} (he : PE X e te) : PI X tg e (iAny X.K te) := ⟨fun pins s σ H R I w => thn (he.run pins s σ H _ I w) fun v s1 ⟨x, H1, I1, rx, q⟩ => by
  rcases q with ⟨t, rfl, ⟨xs, hq⟩, q⟩ | ⟨t, rfl, ⟨xs, hq⟩, q⟩ | ⟨y, rfl, q⟩
  · obtain rfl : v = Value.ref t := rx
    obtain ⟨its, _, il, _⟩ := I1.list hq
    exact wpAny_pyIter_list il.isList ⟨_, _, _, _, H1, rfl, (new_one I1).1, turn_list t _, ⟨_, Heap.get?_push_size _ rfl, rfl, rfl⟩, (new_one (o := ⟨.type "list_iterator", none, .fields #[], #[]⟩) I1).2, q⟩
  · obtain rfl : v = Value.ref t := rx
    obtain ⟨its, _, il, _⟩ := I1.tuple hq
    exact wpAny_pyIter_tuple (show s1.heap.IsTuple t its.toArray from il) ⟨_, _, _, _, H1, rfl, (new_one I1).1, turn_tuple t _, ⟨_, Heap.get?_push_size _ rfl, rfl, rfl⟩, (new_one (o := ⟨.type "list_iterator", none, .fields #[], #[]⟩) I1).2, q⟩
  · obtain ⟨k, rfl⟩ : ∃ k, v = Value.str y k := rx
    by_cases hz : y.cps.all (· < 128) = true
    · exact wpAny_pyIter_ascii hz (pi_one (tk := s1.toks) I1 _ (turn_str _ y k "str_ascii_iterator" (.inl rfl)) ⟨_, Heap.get?_push_size _ rfl, rfl, rfl⟩ q)
    · exact wpAny_pyIter_wide (Bool.eq_false_iff.mpr hz) (pi_one (tk := s1.toks) I1 _ (turn_str _ y k "str_iterator" (.inr rfl)) ⟨_, Heap.get?_push_size _ rfl, rfl, rfl⟩ q)⟩

/-! each way of walking -/
theorem evs1 {G : Ca} {A : E} {l : Lo} {h : AH} : evs S.T G (.cons A .nil) l h = (ev S.T G A l h).bind fun x h => .ok [x] h := by
  show (ev S.T G A l h).bind (fun x h => (evs S.T G .nil l h).bind fun xs h => .ok (x :: xs) h) = _
  rfl
theorem ci_val (ha : CE S X d W a A) : CI S X d W tg a .val (.cons A .nil) := (pi_any ha).imp fun σ H R ⟨ρ, h, l, r, lr, q⟩ => by
  rw [evs1] at q
  refine tE_of r lr q fun v h1 ρ1 H1 u r1 e1 hu q1 => ?_
  obtain ⟨s, e2, q2⟩ := q1.now r1
  replace e2 : srcVal [v] h1 = some s := e2
  unfold srcVal at e2
  dsimp only at e2
  split at e2
  case h_1 xs =>
    cases e2
    obtain ⟨p, vs, rfl, sp, vx⟩ := hu.tup_inv
    exact .inr (.inl ⟨p, rfl, ⟨vs, sp⟩, q2 _ (src_tup r1 sp vx)⟩)
  case h_2 s =>
    cases e2
    obtain rfl := hu.str_inv
    exact .inr (.inr ⟨_, rfl, q2 _ src_str⟩)
  case h_3 i =>
    obtain ⟨p, rfl, ep⟩ := hu.ref_inv
    split at e2
    case h_1 xs z =>
      cases e2
      obtain ⟨vs, hp, vx⟩ := r1.lst ep z
      exact .inl ⟨p, rfl, ⟨vs, SqL.of hp⟩, q2 _ (src_lst r1 ep)⟩
    case h_2 xs z =>
      cases e2
      obtain ⟨vs, hp, vx⟩ := r1.flst ep z
      exact .inl ⟨p, rfl, ⟨vs, hp⟩, q2 _ (src_lst r1 ep)⟩
    case h_3 => cases e2
  case h_4 => cases e2
theorem lock_val {xs : List AV} {h : AH} {q : Src} (e : srcA .val xs h = some q) (h2 : AH) : lockA q h2 = some (none, h2) := by
  replace e : srcVal xs h = some q := e
  unfold srcVal at e
  repeat' split at e
  all_goals first | (cases e; rfl) | cases e
theorem lock_rng {xs : List AV} {h : AH} {q : Src} (e : srcA .rng xs h = some q) (h2 : AH) : lockA q h2 = some (none, h2) := by
  replace e : srcRng xs = some q := e
  unfold srcRng at e
  repeat' split at e
  all_goals first | (cases e; rfl) | cases e
theorem ci_rng1 (hg : Gl X "range") (hm : X.mg "range" = none) (ha : CE S X d W a A) (hs : starEach [a] X.env = [(false, eval a X.env)]) : CI S X d W tg (.Call (.Name "range" p) [a] [] pos) .rng (.cons A .nil) :=
  (pi_range1 hg hm (ca_cons ha ca_nil hs) hs).imp fun σ H R ⟨ρ, h, l, r, lr, q⟩ => by
  refine ⟨ρ, h, l, r, lr, ?_⟩
  rw [evs1] at q ⊢
  cases e0 : ev S.T (run S.T d) A l h with
  | bad => rw [e0] at q; exact q
  | ex x h1 => rw [e0] at q; exact q
  | ok v h1 =>
  rw [e0] at q
  intro ρ2 H2 r2 x2 u hu
  obtain ⟨s, e2, q2⟩ := q ρ2 H2 r2 x2
  obtain ⟨w, rfl, hw⟩ := hu.one
  replace e2 : srcRng [v] = some s := e2
  unfold srcRng at e2
  split at e2
  case h_2 => rename_i e; cases e
  case h_3 => cases e2
  case h_1 j e =>
  cases e
  obtain rfl := hw.int_inv
  split at e2
  case h_2 => cases e2
  case h_1 z =>
  cases e2
  simp only [Bool.and_eq_true, decide_eq_true_eq] at z
  exact ⟨j, rfl, by omega, by omega, q2 _ src_rng⟩
theorem evs2 {G : Ca} {A B : E} {l : Lo} {h : AH} : evs S.T G (.cons A (.cons B .nil)) l h = (ev S.T G A l h).bind fun x h => (ev S.T G B l h).bind fun y h => .ok [x, y] h := by
  rw [evs]
  congr 1
  funext x h
  rw [evs1]
  cases ev S.T G B l h <;> rfl
theorem ci_rng2 (hg : Gl X "range") (hm : X.mg "range" = none) (ha : CE S X d W a A) (hb : CE S X d W b B) (hs : starEach [a, b] X.env = [(false, eval a X.env), (false, eval b X.env)]) (hs2 : starEach [b] X.env = [(false, eval b X.env)]) :
    CI S X d W tg (.Call (.Name "range" p) [a, b] [] pos) .rng (.cons A (.cons B .nil)) :=
  (pi_range2 hg hm (ca_cons ha (ca_cons hb ca_nil hs2) (by rw [hs, hs2])) hs hs2).imp fun σ H R ⟨ρ, h, l, r, lr, q⟩ => by
  refine ⟨ρ, h, l, r, lr, ?_⟩
  rw [evs2] at q ⊢
  cases e0 : ev S.T (run S.T d) A l h with
  | bad => rw [e0] at q; exact q
  | ex x h1 => rw [e0] at q; exact q
  | ok v h1 =>
  rw [e0] at q
  replace q : Ans S X.K ρ H ((ev S.T (run S.T d) B l h1).bind fun y h => .ok [v, y] h) (fun xs h1 ρ1 H1 => ∃ q, srcA .rng xs h1 = some q ∧ ∀ J, SrcR S X.K ρ1 H1 q J → R J H1) (eW S X.K W σ) := q
  show Ans S X.K ρ H ((ev S.T (run S.T d) B l h1).bind fun y h => .ok [v, y] h) _ _
  cases e1 : ev S.T (run S.T d) B l h1 with
  | bad => rw [e1] at q; exact q
  | ex x h1 => rw [e1] at q; exact q
  | ok v2 h2 =>
  rw [e1] at q
  intro ρ2 H2 r2 x2 u hu
  obtain ⟨s, e2, q2⟩ := q ρ2 H2 r2 x2
  obtain ⟨w, w2, rfl, hw, hw2⟩ := hu.two
  replace e2 : srcRng [v, v2] = some s := e2
  unfold srcRng at e2
  split at e2
  case h_1 => rename_i e; cases e
  case h_3 => cases e2
  case h_2 i j e =>
  cases e
  obtain rfl := hw.int_inv
  obtain rfl := hw2.int_inv
  split at e2
  case h_2 => cases e2
  case h_1 z =>
  cases e2
  simp only [Bool.and_eq_true, decide_eq_true_eq] at z
  exact ⟨i, j, rfl, by omega, q2 _ src_rng⟩
/-! ### for -/
theorem cs_for {body : List Stmt} {m : Mm.S} {k : Ik} {t : T} (hk : ∀ xs h q, srcA k xs h = some q → ∀ h, lockA q h = some (none, h)) (hp : PassesOwn (model X.prog X.w) X.A X.env X.xe) (hc : X.calm = true) (hi : CI S X d W tg a k Es) (hg : CG S X tg t) (hb : CSs S X d W cx body m)
    (hs : ∀ x, foldedSetIterable a X.env x = pure x) : CS S X d W cx (.For tg a body [] pos) (.for_ t k Es m) :=
  (ps_for hp hc hi hg hb hs).imp fun D σ H ⟨ρ, h, l, r, lr, q⟩ => by
    unfold Mm.st at q
    refine ⟨ρ, h, l, r, lr, ?_⟩
    cases e1 : evs S.T (run S.T d) Es l h with
    | bad => rw [e1] at q; exact q
    | ex x h1 =>
      rw [e1] at q
      exact fun ρ' H' r' x' => q ρ' H' σ r' x' (lr.mono r x')
    | ok xs h1 =>
      rw [e1] at q
      intro ρ1 H1 r1 x1
      replace q : AnsS S X.K ρ H W D (match srcA k xs h1 with
        | none => .bad
        | some q => (match lockA q h1 with
          | none => .bad
          | some (o, h) => (match loopF q (fun v l h => match setT t v l h with
              | some l => Mm.st S.T (run S.T d) m cx l h
              | none => .bad) WF 0 l h, o with
            | .nx l h, o => .nx l (unlockA o h)
            | .rt v h, o => .rt v (unlockA o h)
            | r, none => r
            | _, some _ => .bad))) := q
      cases e2 : srcA k xs h1 with
      | none => rw [e2] at q; exact q.elim
      | some s =>
        rw [e2] at q
        dsimp only at q
        rw [hk _ _ _ e2] at q
        dsimp only at q
        generalize hstep : (fun v l h => match setT t v l h with
              | some l => Mm.st S.T (run S.T d) m cx l h
              | none => .bad) = step at q
        have q' : AnsS S X.K ρ H W D (loopF s step WF 0 l h1) := by
          cases e3 : loopF s step WF 0 l h1 <;> rw [e3] at q <;> exact q
        refine ⟨s, rfl, fun J sr => ⟨fun i n σ' H' => ∃ ρ' h' l', HR S X.K ρ' h' H' ∧ LR S X.K ρ' H' l' σ' ∧ Ext ρ1 H1 ρ' H' ∧ AnsS S X.K ρ' H' W D (loopF s step n i l' h'), ⟨_, ρ1, h1, l, r1, lr.mono r x1, Ext.refl _ _, q'.ext x1⟩, ?_⟩⟩
        rintro i n σ' H' ⟨ρ', h', l', r', lr', x', qq⟩
        cases n with
        | zero => exact qq.elim
        | succ n =>
        unfold loopF at qq
        split at qq
        case h_1 => exact qq.elim
        case h_2 e4 => exact .inl ⟨sr.stop i ρ' h' H' r' x' e4, qq.now r' lr'⟩
        case h_3 v e4 =>
          obtain ⟨g1, g2⟩ := sr.go i ρ' h' H' v r' x' e4
          refine .inr ⟨g1, fun σ3 H3 => ∃ ρ3 h3 l3, HR S X.K ρ3 h3 H3 ∧ LR S X.K ρ3 H3 l3 σ3 ∧ Ext ρ1 H1 ρ3 H3 ∧ AnsS S X.K ρ3 H3 W D (loopF s step n (i + 1) l3 h3), fun σ3 H3 q3 => ⟨n, Nat.lt_succ_self _, q3⟩, fun y H2 hy => ?_⟩
          obtain ⟨r2, x2, vy⟩ := g2 y H2 hy
          have e0 : step v l' h' = (match setT t v l' h' with
            | some l => Mm.st S.T (run S.T d) m cx l h'
            | none => .bad) := by rw [← hstep]
          rw [e0] at qq
          cases e5 : setT t v l' h' with
          | none => rw [e5] at qq; exact qq.elim
          | some l2 =>
          rw [e5] at qq
          refine ⟨ρ', h', l', v, l2, r2, lr'.mono r' x2, vy, e5, fun σ2 lr2 _ => ⟨ρ', h', l2, r2, lr2, ?_⟩⟩
          replace qq : AnsS S X.K ρ' H2 W D (match Mm.st S.T (run S.T d) m cx l2 h' with
            | .nx l h => loopF s step n (i + 1) l h
            | .ct l h => loopF s step n (i + 1) l h
            | .bk l h => .nx l h
            | r => r) := AnsS.ext x2 qq
          have x3 : Ext ρ1 H1 ρ' H2 := x'.trans x2
          cases e6 : Mm.st S.T (run S.T d) m cx l2 h' with
          | nx l3 h3 => rw [e6] at qq; exact fun ρ3 H3 σ3 r3 x4 lr3 => ⟨ρ3, h3, l3, r3, lr3, x3.trans x4, AnsS.ext x4 qq⟩
          | ct l3 h3 => rw [e6] at qq; exact fun ρ3 H3 σ3 r3 x4 lr3 => ⟨ρ3, h3, l3, r3, lr3, x3.trans x4, AnsS.ext x4 qq⟩
          | bk l3 h3 => rw [e6] at qq; exact qq
          | rt v h3 => rw [e6] at qq; exact qq
          | ex y l h3 => rw [e6] at qq; exact qq
          | bad => rw [e6] at qq; exact qq
end
end Ms

set_option Elab.async false
set_option linter.all false
set_option maxRecDepth 100000
/-! List comprehensions. -/
namespace Ms
open PySem PySem.Spec L2 Mm
open PyProof.Rows hiding St
section
variable {S : Sg} {K : PySem.W.Frag} {ρ ρ' ρ1 : List Addr} {H H' H1 : Hp} {h h' : AH}
mutual
theorem VR.mono2 (kp : ∀ p vs, SqT K H p vs → SqT K H' p vs) (g : ∀ (i : Nat) (a : Addr), ρ[i]? = some a → ρ'[i]? = some a) : ∀ {x : AV} {v : V}, VR S K ρ H x v → VR S K ρ' H' x v
  | _, _, .non => .non
  | _, _, .bl b => .bl b
  | _, _, .int i => .int i
  | _, _, .str s => .str s
  | _, _, .tup a b => .tup (kp _ _ a) (VRs.mono2 kp g b)
  | _, _, .ref e => .ref (g _ _ e)
  | _, _, .wd i => .wd i
theorem VRs.mono2 (kp : ∀ p vs, SqT K H p vs → SqT K H' p vs) (g : ∀ (i : Nat) (a : Addr), ρ[i]? = some a → ρ'[i]? = some a) : ∀ {x : List AV} {v : List V}, VRs S K ρ H x v → VRs S K ρ' H' x v
  | _, _, .nil => .nil
  | _, _, .cons a b => .cons (VR.mono2 kp g a) (VRs.mono2 kp g b)
end
theorem KVR.mono2 (kp : ∀ p vs, SqT K H p vs → SqT K H' p vs) (g : ∀ (i : Nat) (a : Addr), ρ[i]? = some a → ρ'[i]? = some a) {x : List (AK × AV)} {v : List (Key × V)} (a : KVR S K ρ H x v) : KVR S K ρ' H' x v := by
  induction a with
  | nil => exact .nil
  | cons a _ ih => exact .cons (a.mono2 kp g) ih
theorem FRs.mono2 (kp : ∀ p vs, SqT K H p vs → SqT K H' p vs) (g : ∀ (i : Nat) (a : Addr), ρ[i]? = some a → ρ'[i]? = some a) {x : List (Nat × AV)} {v : List (Str × V)} (a : FRs S K ρ H x v) : FRs S K ρ' H' x v := by
  induction a with
  | nil => exact .nil
  | cons a _ ih => exact .cons (a.mono2 kp g) ih
theorem LR.mono2 (kp : ∀ p vs, SqT K H p vs → SqT K H' p vs) (g : ∀ (i : Nat) (a : Addr), ρ[i]? = some a → ρ'[i]? = some a) {l : Lo} {σ : St} (a : LR S K ρ H l σ) : LR S K ρ' H' l σ := by
  induction a with
  | nil => exact .nil
  | no _ ih => exact .no ih
  | yes a _ ih => exact .yes (a.mono2 kp g) ih
theorem OR.mono2 (kp : ∀ p vs, SqT K H p vs → SqT K H' p vs) (g : ∀ (i : Nat) (a : Addr), ρ[i]? = some a → ρ'[i]? = some a) {o : AO} {a : Addr} (x : OR S K ρ H o a) (same : ∀ u, H a = some u → H' a = some u) : OR S K ρ' H' o a := by
  cases o with
  | lst xs => obtain ⟨vs, z, q⟩ := x; exact ⟨vs, same _ z, q.mono2 kp g⟩
  | flst xs =>
    obtain ⟨n, ⟨u, z⟩, vs, q, p⟩ := x
    have z' := same u z
    refine ⟨fun ts t => n ts ?_, ⟨u, z'⟩, vs, ?_, p.mono2 kp g⟩
    · rcases t with t | ⟨o, t⟩ <;> rw [z'] at t <;> cases t
      · exact .inl z
      · exact .inr ⟨_, z⟩
    · rcases q with (q | ⟨o, q⟩) | q
      · exact .inl (.inl (same _ q))
      · exact .inl (.inr ⟨o, same _ q⟩)
      · exact .inr q
  | dic lk kvs => cases lk with
    | false => obtain ⟨q, z, p⟩ := x; exact ⟨q, same _ z, p.mono2 kp g⟩
    | true => obtain ⟨o, q, z, p⟩ := x; exact ⟨o, q, same _ z, p.mono2 kp g⟩
  | ins c fs => obtain ⟨cf, dx, q, z, p⟩ := x; exact ⟨cf, dx, q, same _ z, p.mono2 kp g⟩
  | clo _ _ => exact False.elim x
  | exc _ _ =>
    obtain ⟨xf, t, d, z, s, p⟩ := x
    refine ⟨xf, t, d, same _ z, kp _ _ s, ?_⟩
    rcases p with p | ⟨i, dd, z1, p, q⟩
    · exact .inl p
    · exact .inr ⟨i, dd, z1, p, g _ _ q⟩
  | xdo _ => obtain ⟨k, q, z, p⟩ := x; exact ⟨k, q, same _ z, p.mono2 kp g⟩
/-- what is not ours and no tuple, written -/
theorem sq_other {D : Addr} {u u' : HO} (e : H D = some u) (n : NoTup H D) : ∀ p vs, SqT K H p vs → SqT K (upd H D u') p vs := fun p vs x => by
  rcases x with x | x
  · have np : p ≠ D := fun z => n vs (by rw [← z]; exact x)
    rcases x with x | ⟨o, x⟩
    · exact .inl (.inl (by rw [upd_ne np]; exact x))
    · exact .inl (.inr ⟨o, by rw [upd_ne np]; exact x⟩)
  · exact .inr x
theorem HR.other (r : HR S K ρ h H) {D : Addr} {u u' : HO} (e : H D = some u) (n : NoTup H D) (m : D ∉ ρ) : HR S K ρ h (upd H D u') :=
  ⟨r.len, r.nd, fun i a o h1 h2 => (r.at_ i a o h1 h2).mono2 (sq_other e n) (fun _ _ z => z) fun u hu => by
    rw [upd_ne (show a ≠ D from fun z => m (by rw [← z]; exact List.mem_of_getElem? h1))]; exact hu⟩
/-- what is not ours becomes so -/
theorem HR.adopt (r : HR S K ρ h H) {D : Addr} {o : AO} (m : D ∉ ρ) (x : OR S K (ρ ++ [D]) H o D) : HR S K (ρ ++ [D]) (h ++ [o]) H := by
  have g : ∀ (i : Nat) (a : Addr), ρ[i]? = some a → (ρ ++ [D])[i]? = some a := fun i a e => by
    rw [List.getElem?_append_left (List.getElem?_eq_some_iff.mp e).1]; exact e
  refine ⟨by simp [r.len], ?_, fun i a o' h1 h2 => ?_⟩
  · rw [List.nodup_append]
    refine ⟨r.nd, by simp, fun a ha b hb => ?_⟩
    rw [List.mem_singleton.mp hb]
    intro z
    exact m (by rw [← z]; exact ha)
  · by_cases hi : i < ρ.length
    · rw [List.getElem?_append_left hi] at h1
      rw [List.getElem?_append_left (by rw [← r.len]; exact hi)] at h2
      exact (r.at_ i a o' h1 h2).mono2 (fun _ _ z => z) g fun _ z => z
    · have hl : ρ.length = i := by
        have z := (List.getElem?_eq_some_iff.mp h1).1
        simp at z
        omega
      subst hl
      rw [List.getElem?_append_right (Nat.le_refl _)] at h1
      rw [List.getElem?_append_right (by rw [r.len]; exact Nat.le_refl _)] at h2
      simp at h1
      simp [r.len] at h2
      subst h1 h2
      exact x
theorem notup_lst {D : Addr} {vs : List V} (e : H D = some (.lst vs)) : NoTup H D := notup_of e (fun _ z => nomatch z) fun _ _ z => nomatch z
/-- a new list that stood aside: it is ours now -/
theorem newL_adopt {Q : VK} {e : AX → List Addr → Hp → Prop} {acc : List AV} {vs : List V} {D : Addr} (r : HR S K ρ h H) (x : Ext ρ1 H1 ρ H) (n : H1 D = none) (m : D ∉ ρ) (hD : H D = some (.lst vs)) (v : VRs S K ρ H acc vs)
    (a : Ans S K ρ1 H1 (newL acc h) (kAv S K Q) e) : Q (.ref D) H := by
  unfold newL at a
  split at a
  case h_2 => exact a.elim
  case h_1 =>
  have g : ∀ (i : Nat) (a : Addr), ρ[i]? = some a → (ρ ++ [D])[i]? = some a := fun i a e => by
    rw [List.getElem?_append_left (List.getElem?_eq_some_iff.mp e).1]; exact e
  refine a (ρ ++ [D]) H (r.adopt m ⟨vs, hD, v.mono2 (fun _ _ z => z) g⟩) ⟨?_, x.keep, fun b hb hn => ?_⟩ _ (.ref ?_)
  · obtain ⟨q, rfl⟩ := x.pre
    exact ⟨q ++ [D], by simp⟩
  · rcases List.mem_append.mp hb with z | z
    · exact x.new b z hn
    · rw [List.mem_singleton.mp z]; exact n
  · rw [← r.len]; simp
theorem wipe_idem (σ : St) (vs : List Nat) : wipe (wipe σ vs) vs = wipe σ vs := by
  apply List.ext_getElem?
  intro i
  simp only [wipe_get, wipe_length]
  by_cases h1 : i ∈ vs <;> simp [h1]
theorem LR.wipe {l : Lo} {σ : St} (a : LR S K ρ H l σ) : ∀ vs, LR S K ρ H (wipeA l vs) (L2.wipe σ vs)
  | [] => a
  | v :: vs => (LR.wipe a vs).unset v
end
/-- no exception goes out of a block -/
def W0 : WX := fun _ _ _ _ => False
section
variable {S : Sg} {X : Cx} {d : Nat} {W : WX} {a b c tg : Expr} {A B C : E} {es : List Expr} {Es : E} {pos p apos : Pos} {ρ ρ1 : List Addr} {h h1 : AH} {H H1 : Hp} {l : Lo} {σ : St} {K : PySem.W.Frag} {D : Ends} {cx : Option AX}
theorem Ans.of_noEx {α β : Type} {r : Rs α} {f : α → AH → Rs β} {k : β → AH → List Addr → Hp → Prop} {e e' : AX → List Addr → Hp → Prop} (a : Ans S K ρ H ((noEx r).bind f) k e) : Ans S K ρ H r (fun v h1 ρ1 H1 => Ans S K ρ1 H1 (f v h1) k e) e' := by
  cases r with
  | ok v h' => exact fun ρ' H' r' x' => Ans.ext x' a
  | ex v h' => exact a.elim
  | bad => exact a
/-- the reading of a clause's tests: none, or one -/
def tIf0 (S : Sg) (K : PySem.W.Frag) (d : Nat) (C : E) : TT := fun σ H Q => ∃ ρ h l, HR S K ρ h H ∧ LR S K ρ H l σ ∧
  Ans S K ρ H ((ev S.T (run S.T d) C l h).bind fun x h => Rs.ofO (truth h x) h) (fun b _ _ H' => Q b H') eN
theorem pts_no : PTs X [] (tIf0 S X.K d (.cst (.bl true))) := ⟨fun pins s σ H Q I ⟨ρ, h, l, r, lr, q⟩ => pts_nil.run pins s σ H Q I (by unfold ev at q; exact q.now r)⟩
theorem pts_yes (hc : CT S X d W0 c C) : PTs X [c] (tIf0 S X.K d C) := ⟨fun pins s σ H Q I ⟨ρ, h, l, r, lr, q⟩ => (pts_one hc).run pins s σ H Q I ⟨ρ, h, l, r, lr, q.imp (fun _ _ _ _ _ _ z => z) fun _ _ _ z => z.elim⟩⟩
def stepC (S : Sg) (d : Nat) (t : T) (C A : E) (l : Lo) : AV → AH → List AV → Rs (List AV) := fun v h acc => match setT t v (wipeA l (slots t)) h with
  | none => .bad
  | some l2 => (noEx (ev S.T (run S.T d) C l2 h)).bind fun x h => (match truth h x with
    | some true => (noEx (ev S.T (run S.T d) A l2 h)).bind fun y h => addA acc y h
    | some false => .ok acc h
    | none => .bad)
/-- what a loop of a comprehension leaves -/
def AnsC (S : Sg) (K : PySem.W.Frag) (ρ : List Addr) (H : Hp) (Q : VK) (r : Rs (List AV)) : Prop := match r with
  | .ok acc h => Ans S K ρ H (newL acc h) (kAv S K Q) eN
  | _ => False
theorem lc_of {k : Ik} {t : T} {Q : VK} (hk : ∀ xs h q, srcA k xs h = some q → ∀ h, lockA q h = some (none, h)) (r : HR S X.K ρ h H) (lr : LR S X.K ρ H l σ)
    (q : Ans S X.K ρ H (ev S.T (run S.T d) (.lc t k Es C A) l h) (kAv S X.K Q) (eW S X.K W σ)) : tLc (tI S X.K d W k Es) (tgT S X.K t) (tIf0 S X.K d C) (tEv S X.K d W0 A) (slots t) σ H Q := by
  rw [ev] at q
  refine ⟨ρ, h, l, r, lr, ?_⟩
  cases e1 : evs S.T (run S.T d) Es l h with
  | bad => rw [e1] at q; exact q
  | ex x h1 => rw [e1] at q; exact q
  | ok xs h1 =>
  rw [e1] at q
  intro ρ1 H1 r1 x1
  replace q : Ans S X.K ρ H ((comp k xs h1 (stepC S d t C A l) []).bind fun acc h => newL acc h) (kAv S X.K Q) (eW S X.K W σ) := q
  unfold comp at q
  cases e2 : srcA k xs h1 with
  | none => rw [e2] at q; exact q.elim
  | some s =>
  rw [e2] at q
  dsimp only at q
  rw [hk _ _ _ e2] at q
  dsimp only at q
  generalize hstep : stepC S d t C A l = step at q
  have q' : AnsC S X.K ρ1 H1 Q (loopC s step WF 0 h1 []) := by
    cases e3 : loopC s step WF 0 h1 [] with
    | bad => rw [e3] at q; exact q
    | ex _ _ => rw [e3] at q; exact q
    | ok acc h2 =>
      rw [e3] at q
      replace q : Ans S X.K ρ H (newL acc h2) (kAv S X.K Q) (eW S X.K W σ) := q
      exact (q.ext x1).noX noX_newL
  refine ⟨s, rfl, fun J sr => ?_⟩
  intro D nD
  refine ⟨fun i n H' => ∃ ρ' h' acc vs, HR S X.K ρ' h' H' ∧ Ext ρ1 H1 ρ' H' ∧ H' D = some (.lst vs) ∧ D ∉ ρ' ∧ VRs S X.K ρ' H' acc vs ∧ LR S X.K ρ' H' (wipeA l (slots t)) (wipe σ (slots t)) ∧ AnsC S X.K ρ1 H1 Q (loopC s step n i h' acc), ⟨WF, ρ1, h1, [], [], ?_⟩, ?_⟩
  · obtain ⟨ra, xa⟩ := r1.side (u := .lst []) nD
    exact ⟨ra, xa, upd_same, r1.free nD, .nil, ((lr.mono r x1).mono r1 xa).wipe _, q'⟩
  · rintro i n H' ⟨ρ', h', acc, vs, r', x', hD, nm, va, lr', qq⟩
    cases n with
    | zero => exact qq.elim
    | succ n =>
    unfold loopC at qq
    split at qq
    case h_1 => exact qq.elim
    case h_2 e4 => exact .inl ⟨sr.stop i ρ' h' H' r' x' e4, newL_adopt r' x' nD nm hD va qq⟩
    case h_3 v e4 =>
    obtain ⟨g1, g2⟩ := sr.go i ρ' h' H' v r' x' e4
    refine .inr ⟨g1, fun H3 => ∃ ρ3 h3 acc3 vs3, HR S X.K ρ3 h3 H3 ∧ Ext ρ1 H1 ρ3 H3 ∧ H3 D = some (.lst vs3) ∧ D ∉ ρ3 ∧ VRs S X.K ρ3 H3 acc3 vs3 ∧ LR S X.K ρ3 H3 (wipeA l (slots t)) (wipe σ (slots t)) ∧ AnsC S X.K ρ1 H1 Q (loopC s step n (i + 1) h3 acc3), fun H3 q3 => ⟨n, Nat.lt_succ_self _, q3⟩, fun y H2 hy => ?_⟩
    obtain ⟨r2, x2, vy⟩ := g2 y H2 hy
    have e0 : step v h' acc = stepC S d t C A l v h' acc := by rw [hstep]
    rw [e0] at qq
    unfold stepC at qq
    cases e5 : setT t v (wipeA l (slots t)) h' with
    | none => rw [e5] at qq; exact qq.elim
    | some l2 =>
    rw [e5] at qq
    have lr2 := lr'.mono r' x2
    refine ⟨ρ', h', _, v, l2, r2, lr2, vy, e5, fun σ2 lr3 w2 => ⟨by rw [w2, wipe_idem], ρ', h', l2, r2, lr3, ?_⟩⟩
    have hD2 := x2.keep D _ hD nm
    dsimp only at qq
    cases e6 : ev S.T (run S.T d) C l2 h' with
    | bad => rw [e6] at qq; exact qq
    | ex x h3 => rw [e6] at qq; exact (show False from qq).elim
    | ok x h3 =>
    rw [e6] at qq
    replace qq : AnsC S X.K ρ1 H1 Q (match (match truth h3 x with
      | some true => (noEx (ev S.T (run S.T d) A l2 h3)).bind fun y h => addA acc y h
      | some false => .ok acc h3
      | none => .bad) with
        | .ok acc2 h2 => loopC s step n (i + 1) h2 acc2
        | .ex _ _ => .bad
        | .bad => .bad) := qq
    show Ans S X.K ρ' H2 (Rs.ofO (truth h3 x) h3) _ _
    cases e7 : truth h3 x with
    | none => rw [e7] at qq; exact qq
    | some b =>
    rw [e7] at qq
    intro ρ3 H3 r3 x3
    have hD3 := x3.keep D _ hD2 nm
    have nm3 : D ∉ ρ3 := fun z => by
      have w := x3.new D z nm
      rw [hD2] at w
      cases w
    have xx : Ext ρ' H' ρ3 H3 := x2.trans x3
    cases b with
    | false => exact iteF ⟨ρ3, h3, acc, vs, r3, x'.trans xx, hD3, nm3, va.mono r' xx, lr'.mono r' xx, qq⟩
    | true =>
    refine iteT ⟨ρ3, h3, l2, r3, lr3.mono r2 x3, ?_⟩
    dsimp only at qq
    cases e8 : ev S.T (run S.T d) A l2 h3 with
    | bad => rw [e8] at qq; exact qq
    | ex x h3 => rw [e8] at qq; exact (show False from qq).elim
    | ok y2 h4 =>
    rw [e8] at qq
    replace qq : AnsC S X.K ρ1 H1 Q (match addA acc y2 h4 with
        | .ok acc2 h2 => loopC s step n (i + 1) h2 acc2
        | .ex _ _ => .bad
        | .bad => .bad) := qq
    intro ρ4 H4 r4 x4 u hu
    unfold addA at qq
    cases e9 : Nat.blt acc.length SZ with
    | false => rw [e9] at qq; exact qq.elim
    | true =>
    rw [e9] at qq
    have hD4 := x4.keep D _ hD3 nm3
    have nm4 : D ∉ ρ4 := fun z => by
      have w := x4.new D z nm3
      rw [hD3] at w
      cases w
    have xy : Ext ρ' H' ρ4 H4 := xx.trans x4
    have nt := notup_lst hD4
    have x14 := x'.trans xy
    refine ⟨vs, hD4, ?_, ρ4, h4, acc ++ [y2], vs ++ [u], r4.other hD4 nt nm4, ⟨x14.pre, fun b o hb hn => ?_, x14.new⟩, upd_same, nm4, ?_, ?_, qq⟩
    · rw [← va.length]
      have z : acc.length < SZ := Nat.blt_eq.mp e9
      exact z
    · rw [upd_ne (ne_of_none hb nD)]
      exact x14.keep b o hb hn
    · exact ((va.mono r' xy).append (.cons hu .nil)).mono2 (sq_other hD4 nt) fun _ _ z => z
    · exact (lr'.mono r' xy).mono2 (sq_other hD4 nt) fun _ _ z => z
/-- a block's own context, whatever its start -/
abbrev Blk (X : Cx) (scope : Scope) (P : Cx → Prop) : Prop := ∀ (s : Shared) (H : Hp) (C : Addr) (cl : List (Str × Addr)) (fp : List Addr), P (X.blk s H scope (compEnvC scope cl C X.env) fp)
theorem ce_lc {k : Ik} {t : T} {ifs : List Expr} {scope : Scope} {own : List (Str × Nat)} (hk : ∀ xs h q, srcA k xs h = some q → ∀ h, lockA q h = some (none, h)) (xk : Xk S d W X) (hi : CI S X d W tg b k Es) (ok : BlkOk X.N X.env.scope scope own) (hv : own.map (·.2) = slots t)
    (hg : Blk X scope fun Y => CG S Y tg t) (ht : Blk X scope fun Y => PTs Y ifs (tIf0 S X.K d C)) (he : Blk X scope fun Y => CE S Y d W0 a A) (hs : ∀ x, foldedSetIterable b X.env x = pure x) : CE S X d W (.ListComp a [⟨tg, b, ifs, 0⟩] scope pos) (.lc t k Es C A) := by
  have z := pe_lc (pos := pos) (g := tgT S X.K t) (te := tEv S X.K d W0 A) xk.calm xk.nd hi ok hg ht he hs
  rw [hv] at z
  exact z.imp fun σ H Q ⟨ρ, h, l, r, lr, q⟩ => lc_of hk r lr q
theorem cs_setLc {k : Ik} {t : T} {ifs : List Expr} {scope : Scope} {own : List (Str × Nat)} {i : Nat} {y : Str} {py spos : Pos} (hk : ∀ xs h q, srcA k xs h = some q → ∀ h, lockA q h = some (none, h)) (xk : Xk S d W X) (hy : X.N[i]? = some y) (hyl : X.env.scope.names.lookup y = some .local)
    (hsw : swapsWith (.ListComp a [⟨tg, b, ifs, 0⟩] scope pos) (some (.Name y py)) spos.line X.env = pure true) (hi : CI S X d W tg b k Es) (ok : BlkOk X.N X.env.scope scope own) (hv : own.map (·.2) = slots t)
    (hg : Blk X scope fun Y => CG S Y tg t) (ht : Blk X scope fun Y => PTs Y ifs (tIf0 S X.K d C)) (he : Blk X scope fun Y => CE S Y d W0 a A) (hs : ∀ x, foldedSetIterable b X.env x = pure x) : CS S X d W cx (.Assign [.Name y py] (.ListComp a [⟨tg, b, ifs, 0⟩] scope pos) spos) (.asg (.nm i) (.lc t k Es C A)) := by
  have z := ps_setLc (spos := spos) (g := tgT S X.K t) (te := tEv S X.K d W0 A) xk.calm xk.nd hy hyl hsw hi ok hg ht he hs
  rw [hv] at z
  refine z.imp fun D σ H ⟨ρ, h, l, r, lr, q⟩ => ?_
  unfold Mm.st at q
  have w : Ans S X.K ρ H (ev S.T (run S.T d) (.lc t k Es C A) l h) (kAv S X.K fun x H1 => gName i x σ H1 D.nx) (eW S X.K W σ) := by
    cases e1 : ev S.T (run S.T d) (.lc t k Es C A) l h with
    | bad => rw [e1] at q; exact q
    | ex x h1 =>
      rw [e1] at q
      exact fun ρ' H' r' x' => q ρ' H' σ r' x' (lr.mono r x')
    | ok v h1 =>
      rw [e1] at q
      intro ρ' H' r' x' u hu
      replace q : AnsS S X.K ρ H W D (match setT (.nm i) v l h1 with
        | some l => .nx l h1
        | none => .bad) := q
      unfold setT at q
      exact q ρ' H' _ r' x' ((lr.mono r x').set hu i)
  exact lc_of hk r lr w
end
end Ms

set_option Elab.async false
set_option linter.all false
set_option maxRecDepth 100000
/-! More statements: attributes, items, += and so on, a, *b = .. -/
namespace Ms
open PySem PySem.Spec L2 Mm
open PyProof.Rows hiding St
section
variable {S : Sg} {X : Cx} {d : Nat} {W : WX} {a b c tg : Expr} {A B C : E} {es : List Expr} {Es : E} {pos p apos : Pos} {ρ ρ1 : List Addr} {h h1 : AH} {H H1 : Hp} {l : Lo} {σ : St} {K : PySem.W.Frag} {D : Ends} {cx : Option AX}
/-! ### attributes -/
theorem setFA_of {x : AV} {f : Nat} {v : AV} {u w : V} (so : Sok S) (hf : f ∈ S.flds) (r : HR S K ρ h H) (lr : LR S K ρ H l σ) (vx : VR S K ρ H x u) (vv : VR S K ρ H v w) (q : AnsS S K ρ H W D (onR (setFA x f v h) l fun _ h => .nx l h)) :
    ∃ a C dx fs, u = .ref a ∧ H a = some (.ins C dx fs) ∧ Cls K C ∧ NoAttr K C (S.nm f) ∧ fs.length < 1000 ∧ D.nx σ (upd H a (.ins C dx (L2.putF (S.nm f) w fs))) := by
  unfold setFA at q
  split at q
  case h_2 => exact q.elim
  case h_1 i =>
  obtain ⟨p, rfl, ep⟩ := vx.ref_inv
  split at q
  case h_2 => exact q.elim
  case h_1 c fs z =>
  split at q
  case h_2 => exact q.elim
  case h_1 e =>
  obtain ⟨⟨cf, hk⟩, dx, qs, hp, fr⟩ := r.ins ep z
  have e' : fs.length < 900 := Nat.blt_eq.mp e
  refine ⟨p, _, dx, qs, rfl, hp, cf.cls, cf.no f hf, by rw [← fr.length]; omega, ?_⟩
  have hk2 : ∀ q ∈ Mm.putF f v fs, q.1 ∈ S.flds := putF_keys hk hf
  obtain ⟨r2, x2⟩ := r.write (o := .ins c (Mm.putF f v fs)) (u := .ins (S.cadr c) dx (L2.putF (S.nm f) w qs)) ep fun x2 => ⟨⟨cf, hk2⟩, dx, _, upd_same, (fr.put so hk hf vv).mono r x2⟩
  exact q _ _ σ r2 x2 (lr.mono r x2)
theorem cs_setF {f : Nat} {n : Str} {p' : Pos} (so : Sok S) (hf : f ∈ S.flds) (hn : S.nm f = n) (ho : CE S X d W a A) (hv : CE S X d W b B) (hs : swapsWith b (some (.Attribute a n p')) pos.line X.env = pure false) : CS S X d W cx (.Assign [.Attribute a n p'] b pos) (.setF A f B) :=
  (ps_fld ho hv hs).imp fun D σ H ⟨ρ, h, l, r, lr, q⟩ => by
    subst hn
    unfold Mm.st at q
    refine onR_of r lr q fun v h1 ρ1 H1 u r1 e1 hu q1 => ?_
    refine onR_of r1 (lr.mono r e1) q1 fun x h2 ρ2 H2 w r2 e2 hx q2 => ?_
    exact setFA_of so hf r2 ((lr.mono r e1).mono r1 e2) hx (hu.mono r1 e2) q2
def rIp (S : Sg) (K : PySem.W.Frag) (o : Bop) : TIp := fun x y H Q => ∃ ρ h a b, HR S K ρ h H ∧ VR S K ρ H a x ∧ VR S K ρ H b y ∧ Ans S K ρ H (ipA o a b h) (kAv S K Q) eN
theorem noX_ip (o : Bop) (x y : AV) (h : AH) : NoX (ipA o x y h) := by
  unfold ipA
  repeat' split
  all_goals trivial
theorem in_op (o : Bop) : InOp X (bopOf o) (rIp S X.K o) := by
  intro pins s σ H x y v u Q I rx ry q
  obtain ⟨ρ, h, a, b, r, va, vb, q⟩ := q
  unfold ipA at q
  split at q
  case h_1 i j =>
    obtain rfl := va.int_inv
    obtain rfl := vb.int_inv
    exact in_add pins s σ H _ _ v u Q I rx ry ⟨i, j, rfl, rfl, q.now r _ (.int _)⟩
  case h_2 i j =>
    obtain rfl := va.int_inv
    obtain rfl := vb.int_inv
    exact in_sub pins s σ H _ _ v u Q I rx ry ⟨i, j, rfl, rfl, q.now r _ (.int _)⟩
  case h_3 => exact q.elim
/-- the value of an operation ahead of what a statement does with it -/
theorem onO_of {f : AV → AH → Fl} {o : Bop} {v1 v2 : AV} {u1 u2 : V} {Q : VK} (r : HR S K ρ h H) (a1 : VR S K ρ H v1 u1) (a2 : VR S K ρ H v2 u2) (q : AnsS S K ρ H W D (onR (ipA o v1 v2 h) l f))
    (g : ∀ v h1 ρ1 H1 u, HR S K ρ1 h1 H1 → Ext ρ H ρ1 H1 → VR S K ρ1 H1 v u → AnsS S K ρ1 H1 W D (f v h1) → Q u H1) : rIp S K o u1 u2 H Q := by
  refine ⟨ρ, h, v1, v2, r, a1, a2, ?_⟩
  have n := noX_ip o v1 v2 h
  cases e1 : ipA o v1 v2 h with
  | bad => rw [e1] at q; exact q
  | ex x h1 => rw [e1] at n; exact n.elim
  | ok v h1 =>
    rw [e1] at q
    exact fun ρ' H' r' x' u hu => g v h1 ρ' H' u r' x' hu (AnsS.ext x' q)
theorem clsOf_ins {i c : Nat} (e : clsOf h (.ref i) = some c) : ∃ fs, h[i]? = some (.ins c fs) := by
  obtain ⟨j, fs, e1, e2⟩ := clsOf_some e
  cases e1
  exact ⟨fs, e2⟩
theorem cs_augF {f : Nat} {n : Str} {o : Bop} (so : Sok S) (hf : f ∈ S.flds) (hn : S.nm f = n) (ho : CE S X d W a A) (hv : CE S X d W b B) : CS S X d W cx (.AugAssign (.Attribute a n p) (bopOf o) b pos) (.augF A f o B) :=
  (ps_fldaug ho hv (in_op o)).imp fun D σ H ⟨ρ, h, l, r, lr, q⟩ => by
    subst hn
    unfold Mm.st at q
    refine onR_of r lr q fun x h1 ρ1 H1 u r1 e1 hx q1 => ?_
    have lr1 := lr.mono r e1
    split at q1
    case h_1 => exact q1.elim
    case h_2 c ec =>
    obtain ⟨i, fs, rfl, z⟩ := clsOf_some ec
    obtain ⟨p, rfl, ep⟩ := hx.ref_inv
    obtain ⟨⟨cf, hk⟩, dx, qs, hp, fr⟩ := r1.ins ep z
    have e0 : fldA (.ref i) f h1 = vO (getF f fs) h1 := by
      unfold fldA
      dsimp only
      rw [z]
    rw [e0] at q1
    cases e3 : getF f fs with
    | none => rw [e3] at q1; exact q1.elim
    | some v =>
    obtain ⟨w, g1, g2⟩ := fr.get so hk hf e3
    rw [e3] at q1
    refine ⟨p, _, dx, qs, w, rfl, hp, cf.cls, cf.no f hf, g1, onR_of (D := D) (f := fun y h => onR (ipA o v y h) l fun v h => (match clsOf h (.ref i) with
      | none => .bad
      | some c2 => (match Nat.beq c c2 with
        | true => onR (setFA (.ref i) f v h) l fun _ h => .nx l h
        | false => .bad))) r1 lr1 q1 fun y h2 ρ2 H2 uy r2 x2 hy q2 => ?_⟩
    refine onO_of r2 (g2.mono r1 x2) hy q2 fun v3 h3 ρ3 H3 u3 r3 x3 hv3 q3 => ?_
    split at q3
    case h_1 => exact q3.elim
    case h_2 c2 ec2 =>
    split at q3
    case h_2 => exact q3.elim
    case h_1 eb =>
    obtain rfl := Nat.eq_of_beq_eq_true eb
    obtain ⟨fs2, z2⟩ := clsOf_ins ec2
    obtain ⟨_, dx2, qs2, hp2, _⟩ := r3.ins (x3.get (x2.get ep)) z2
    obtain ⟨a', C', dx', fs', ea, hi, _, _, hl, qq⟩ := setFA_of so hf r3 ((lr1.mono r1 x2).mono r2 x3) (.ref (x3.get (x2.get ep))) hv3 q3
    cases ea
    rw [hp2] at hi
    cases hi
    exact ⟨dx2, qs2, hp2, hl, qq⟩
end
end Ms

set_option Elab.async false
set_option linter.all false
set_option maxRecDepth 100000
/-! Items written, names op=, a, *b = .. -/
namespace Ms
open PySem PySem.Spec L2 Mm
open PyProof.Rows hiding St
section
variable {S : Sg} {X : Cx} {d : Nat} {W : WX} {a b c tg : Expr} {A B C : E} {es : List Expr} {Es : E} {pos p apos : Pos} {ρ ρ1 : List Addr} {h h1 : AH} {H H1 : Hp} {l : Lo} {σ : St} {K : PySem.W.Frag} {D : Ends} {cx : Option AX}
/-! ### o[i] = v -/
def rSet2 : TSet := fun o i v H Q => rSetL o i v H Q ∨ rSetD o i v H Q
theorem set_two (hu : X.A.units + 1 < cLine) : PSet X rSet2 := fun pins s σ H o i v ov iv u Q I ro ri rv w => by
  rcases w with w | w
  · exact set_list pins s σ H o i v ov iv u Q I ro ri rv w
  · exact set_dict hu pins s σ H o i v ov iv u Q I ro ri rv w
theorem KVR.any {xs : List (AK × AV)} {ys : List (Key × V)} (r : KVR S K ρ H xs ys) (k : AK) : (xs.any fun q => eqK q.1 k) = ys.any fun q => decide (q.1 = kR k) := by
  induction r with
  | nil => rfl
  | cons a b ih => rw [List.any_cons, List.any_cons, ih, eqK_dec]
theorem KVR.putMap {xs : List (AK × AV)} {ys : List (Key × V)} (r : KVR S K ρ H xs ys) {k : AK} {v : AV} {u : V} (rv : VR S K ρ H v u) : KVR S K ρ H (xs.map fun q => match eqK q.1 k with
    | true => (q.1, v)
    | false => q) (ys.map fun q => if q.1 = kR k then (q.1, u) else q) := by
  induction r with
  | nil => exact .nil
  | @cons j x y xs ys a b ih =>
    rw [List.map_cons, List.map_cons]
    dsimp only
    rw [eqK_dec]
    by_cases e : kR j = kR k
    · rw [decide_eq_true e, if_pos e]
      exact .cons rv ih
    · rw [decide_eq_false e, if_neg e]
      exact .cons a ih
theorem KVR.app {xs xs' : List (AK × AV)} {ys ys' : List (Key × V)} (r : KVR S K ρ H xs ys) (r' : KVR S K ρ H xs' ys') : KVR S K ρ H (xs ++ xs') (ys ++ ys') := by
  induction r with
  | nil => exact r'
  | cons a b ih => exact .cons a ih
theorem KVR.put {xs : List (AK × AV)} {ys : List (Key × V)} (r : KVR S K ρ H xs ys) {k : AK} {v : AV} {u : V} (rv : VR S K ρ H v u) : KVR S K ρ H (Mm.putK k v xs) (L2.putK ys (kR k) u) := by
  unfold Mm.putK L2.putK
  rw [r.any k]
  cases (ys.any fun q => decide (q.1 = kR k)) with
  | true => exact r.putMap rv
  | false => exact r.app (.cons rv .nil)
theorem setA_of {x y v : AV} {ux uy w : V} (r : HR S K ρ h H) (lr : LR S K ρ H l σ) (vx : VR S K ρ H x ux) (vy : VR S K ρ H y uy) (vv : VR S K ρ H v w) (q : AnsS S K ρ H W D (onR (setA x y v h) l fun _ h => .nx l h)) :
    rSet2 ux uy w H fun H' => D.nx σ H' := by
  unfold setA at q
  split at q
  case h_2 => exact q.elim
  case h_1 i =>
  obtain ⟨p, rfl, ep⟩ := vx.ref_inv
  split at q
  case h_3 => exact q.elim
  case h_1 xs k z =>
    obtain rfl := vy.int_inv
    obtain ⟨vs, hp, vxs⟩ := r.lst ep z
    split at q
    case h_2 => exact q.elim
    case h_1 j ej =>
    rw [ixA_eq, vxs.length] at ej
    obtain ⟨r2, x2⟩ := r.write (o := .lst (xs.set j v)) (u := .lst (vs.set j w)) ep fun x2 => ⟨_, upd_same, (vxs.set vv j).mono r x2⟩
    exact .inl ⟨p, vs, k, j, rfl, rfl, hp, ej, q _ _ σ r2 x2 (lr.mono r x2)⟩
  case h_2 y _ _ kvs z =>
    cases ek : keyOf y with
    | none => rw [ek] at q; exact q.elim
    | some k =>
    rw [ek] at q
    cases eb : Nat.blt kvs.length SZ with
    | false => rw [eb] at q; exact q.elim
    | true =>
    rw [eb] at q
    obtain ⟨qs, _, kv, hd, _⟩ := r.dic ep z
    obtain ⟨r2, x2⟩ := r.write (o := .dic false (Mm.putK k v kvs)) (u := .dK (L2.putK qs (kR k) w)) ep fun x2 => ⟨_, upd_same, (kv.put vv).mono r x2⟩
    exact .inr ⟨p, _, rfl, .inl ⟨qs, kR k, hd rfl, keyOf_ok vy ek, by rw [← kv.length]; exact Nat.blt_eq.mp eb, rfl⟩, q _ _ σ r2 x2 (lr.mono r x2)⟩
theorem cs_setS {p' : Pos} (xk : Xk S d W X) (ho : CE S X d W a A) (hi : CE S X d W c C) (hv : CE S X d W b B) (ha : ∀ v, assign (.Subscript a c p') X.env v = (do
      let ov ← holding [v] (eval a X.env)
      let iv ← holding [v, ov] (eval c X.env)
      standAt p'
      holding [v, ov, iv] (setItem ov iv v)
      release [v, ov, iv] [])) (hs : swapsWithSole [.Subscript a c p'] b pos.line X.env = pure false) (hw : swappedStores [.Subscript a c p'] b X.env = pure none)
    (h1 : (assignEach [.Subscript a c p'] X.env).map (·.2) = [assign (.Subscript a c p') X.env]) : CS S X d W cx (.Assign [.Subscript a c p'] b pos) (.setS A C B) :=
  (ps_asg hv (pg_sub ho hi (set_two (hu1 xk.room)) ha) hs hw h1).imp fun D σ H ⟨ρ, h, l, r, lr, q⟩ => by
    unfold Mm.st at q
    refine onR_of r lr q fun v h1 ρ1 H1 u r1 e1 hu q1 => ?_
    refine onR_of r1 (lr.mono r e1) q1 fun x h2 ρ2 H2 w r2 e2 hx q2 => ?_
    refine onR_of r2 ((lr.mono r e1).mono r1 e2) q2 fun y h3 ρ3 H3 w3 r3 e3 hy q3 => ?_
    exact setA_of r3 (((lr.mono r e1).mono r1 e2).mono r2 e3) (hx.mono r2 e3) hy ((hu.mono r1 e2).mono r2 e3) q3
/-! ### name op= e -/
def rIpN (S : Sg) (K : PySem.W.Frag) (o : Bop) : TIp := fun x y H Q => rIp S K o x y H Q ∨ (o = .add ∧ rExt2 x y H Q)
theorem ip_op (o : Bop) : PIp X (bopOf o) (rIpN S X.K o) := by
  intro pins s σ H x y v u Q I rx ry q
  rcases q with q | ⟨rfl, q⟩
  · exact in_op o pins s σ H x y v u Q I rx ry q
  · exact iop_ext pins s σ H x y v u Q I rx ry q
theorem cs_augN {i : Nat} {n : Str} {o : Bop} (hN : X.N.Nodup) (hi : X.N[i]? = some n) (hx : Loc X.env.scope n) (hv : CE S X d W b B) (hf : X.fn n = true ∨ X.env.scope.names.lookup n = some .local) : CS S X d W cx (.AugAssign (.Name n p) (bopOf o) b pos) (.augN i o B) :=
  (ps_aug hN hi hx hv (ip_op o) hf).imp fun D σ H ⟨ρ, h, l, r, lr, q⟩ => by
    unfold Mm.st at q
    split at q
    case h_2 => exact q.elim
    case h_1 x e0 =>
    obtain ⟨u, g1, g2⟩ := lr.get e0
    refine ⟨u, g1, onR_of r lr q fun y h1 ρ1 H1 w r1 e1 hy q1 => ?_⟩
    have g3 := g2.mono r e1
    have lr1 := lr.mono r e1
    split at q1
    case h_1 j =>
      obtain ⟨pa, rfl, ea⟩ := g3.ref_inv
      cases o with
      | add =>
        cases z1 : h1[j]? with
        | none => rw [z1] at q1; exact q1.elim
        | some ob =>
        rw [z1] at q1
        cases ob with
        | lst xs =>
          cases y with
          | ref k =>
            obtain ⟨pb, rfl, eb⟩ := hy.ref_inv
            dsimp only at q1
            cases z2 : h1[k]? with
            | none => rw [z2] at q1; exact q1.elim
            | some ob2 =>
            rw [z2] at q1
            cases ob2 with
            | lst ys =>
              dsimp only at q1
              cases z3 : Nat.beq j k with
              | true => rw [z3] at q1; exact q1.elim
              | false =>
              rw [z3] at q1
              cases z4 : okL (xs ++ ys) with
              | false => rw [z4] at q1; exact q1.elim
              | true =>
              rw [z4] at q1
              obtain ⟨vs, hp, vx⟩ := r1.lst ea z1
              obtain ⟨ws, hp2, vy⟩ := r1.lst eb z2
              obtain ⟨r2, x2⟩ := r1.write (o := .lst (xs ++ ys)) (u := .lst (vs ++ ws)) ea fun x2 => ⟨_, upd_same, (vx.append vy).mono r1 x2⟩
              have zl := okL_ok z4
              rw [List.length_append, vx.length, vy.length] at zl
              refine .inr ⟨rfl, pa, pb, vs, ws, rfl, rfl, hp, hp2, zl, ?_⟩
              have g4 := q1 ρ1 _ _ r2 x2 (lr1.mono r1 x2)
              have e5 : σ.set i (some (V.ref pa)) = σ := by
                apply List.ext_getElem?
                intro m
                rw [List.getElem?_set]
                split
                · rename_i em
                  subst em
                  rw [g1]
                  have : i < σ.length := (List.getElem?_eq_some_iff.mp g1).1
                  rw [if_pos this]
                · rfl
              show D.nx (σ.set i (some (V.ref pa))) _
              rw [e5]
              exact g4
            | _ => exact q1.elim
          | _ => exact q1.elim
        | _ => exact q1.elim
      | _ => exact q1.elim
    case h_2 =>
      exact .inl (onO_of r1 g3 hy q1 fun v3 h3 ρ3 H3 u3 r3 x3 hv3 q3 => q3 ρ3 H3 _ r3 (Ext.refl _ _) ((lr1.mono r1 x3).set hv3 i))

/-! ### a, *b = e -/
theorem un_star {pins : List (Addr × Obj)} {s : Shared} {t : Addr} {x : V} {xs : List V} {Q : List Value → Shared → Prop} {E : Value → Shared → Prop} (hc : X.calm = true) (I : Inv X pins σ H s) (q : SqT X.K H t (x :: xs) ∨ SqL X.K H t (x :: xs))
    (g : ∀ u D s', RelV x u → H D = none → Inv X pins σ (upd H D (.lst xs)) s' → Q [u, .ref D] s') : wpAny (model X.prog X.w) X.A (unpackItems (.ref t) 2 (some 1)) Q E s := by
  have hh := I.ok.hd hc
  have fin : ∀ {u : Value} {us : List Value} {h2 : Heap} {tk : Nat}, RelV x u → Vals xs us → us.length ≤ sizeLine → (∀ b o, s.heap.get? b = some o → h2.get? b = some o) →
      wpAny (model X.prog X.w) X.A (newList ((List.drop 1 (u :: us)).take ((List.drop 1 (u :: us)).length - 0)) >>= fun d => pure (List.take 1 (u :: us) ++ [d] ++ (List.drop 1 (u :: us)).drop ((List.drop 1 (u :: us)).length - 0))) Q E { s with heap := h2, toks := tk } := by
    intro u us h2 tk ru rus hz kp
    have e0 : (List.drop 1 (u :: us)).take ((List.drop 1 (u :: us)).length - 0) = us := by simp
    have e1 : (List.drop 1 (u :: us)).drop ((List.drop 1 (u :: us)).length - 0) = [] := by simp
    rw [e0, e1]
    have I2 : Inv X pins σ H { s with heap := h2, toks := tk } := I.kept kp
    refine wpAny_bind (wpAny_newList ?_ hz)
    refine wpAny_pure (g u h2.objs.size _ ru (I2.hok.fresh (Nat.le_refl _)) ?_)
    exact I2.laid (a := h2.objs.size) (o := .lst xs) (t' := tk) (fun _ _ q => Heap.get?_push_of_some _ q) (Nat.le_refl _) ⟨by rw [rus.length]; exact hz, us, 0, rus, Heap.get?_push_size _ rfl⟩
  rcases q with q | q
  · obtain ⟨its, rv, ht, hz⟩ := I.tuple q
    cases rv with
    | @cons _ u _ us ru rus =>
    have hz2 : us.length + 1 ≤ sizeLine := by rw [List.length_cons, rus.length] at hz; exact hz
    have hsz : (u :: us).toArray.size = us.length + 1 := by simp
    have ne : t ≠ s.heap.objs.size := by
      obtain ⟨o, ho, _⟩ := ht
      exact Nat.ne_of_lt (Heap.lt_size ho)
    unfold unpackItems
    refine wpAny_bind ?_
    unfold notIterableAtAll
    refine wpAny_bind (wpAny_specialOf ht.typeIs slot_tuple_iter.lookup (wpAny_pure ?_))
    simp only [Bool.false_eq_true, if_false]
    refine wpAny_bind (wpAny_holding (iter_tuple ht ?_))
    refine wpAny_bind (wpAny_holding (draw_tuple ne 1 0 _ _ ⟨_, Heap.get?_push_size _ rfl, rfl, rfl⟩ (ht.push _) (by rw [hsz]; omega) fun g1 it1 sb1 => ?_))
    have ht1 : IsTup g1 t (u :: us).toArray := (ht.push _).extBut sb1.extBut ne
    have l1 : t < g1.objs.size := by
      obtain ⟨o, ho, _⟩ := ht1
      exact Heap.lt_size ho
    have l2 : s.heap.objs.size < g1.objs.size := by
      obtain ⟨o, ho, _⟩ := it1
      exact Heap.lt_size ho
    show wpAny _ _ (if (1 : Nat) < 1 then _ else _) _ _ _
    rw [if_neg (Nat.lt_irrefl 1)]
    refine wpAny_bind (wpAny_holding (PySem.W.kun_collect (s := { s with heap := g1 }) (T := "tuple_iterator") (.inr (.inr (.inr rfl))) (Walks.tuple (A := X.A.in1) hh s.heap.objs.size t ne (u :: us).toArray) (fun j z st => st.1.typeIs) (k := 1) (by rw [hsz]; omega) ⟨it1, ht1⟩ l2 l1 (fun g2 tk kp => ?_) (by rw [hsz]; exact hz2)))
    show wpAny _ _ (if (List.drop 1 (u :: us)).length < 0 then _ else _) _ _ _
    rw [if_neg (Nat.not_lt_zero _)]
    exact fin ru rus (by omega) fun b o e => kp b o (Nat.ne_of_lt (Heap.lt_size e)) (sb1.extBut b o (Nat.ne_of_lt (Heap.lt_size e)) (Heap.get?_push_of_some _ e))
  · obtain ⟨its, rv, pl, hz⟩ := I.list q
    cases rv with
    | @cons _ u _ us ru rus =>
    have ht := pl.isList
    have hz2 : us.length + 1 ≤ sizeLine := by rw [List.length_cons, rus.length] at hz; exact hz
    have hsz : (u :: us).toArray.size = us.length + 1 := by simp
    have ne : t ≠ s.heap.objs.size := by
      obtain ⟨o, ho, _⟩ := ht
      exact Nat.ne_of_lt (Heap.lt_size ho)
    unfold unpackItems
    refine wpAny_bind ?_
    unfold notIterableAtAll
    refine wpAny_bind (wpAny_specialOf ht.typeIs slot_list_iter.lookup (wpAny_pure ?_))
    simp only [Bool.false_eq_true, if_false]
    refine wpAny_bind (wpAny_holding (wpAny_pyIter_list ht ?_))
    refine wpAny_bind (wpAny_holding (PySem.W.kun_draw ne 1 0 _ _ ⟨_, Heap.get?_push_size _ rfl, rfl, rfl⟩ (ht.push _) (by rw [hsz]; omega) fun g1 it1 sb1 => ?_))
    have ht1 : g1.IsList t (u :: us).toArray := (ht.push _).extBut sb1.extBut ne
    have l1 : t < g1.objs.size := by
      obtain ⟨o, ho, _⟩ := ht1
      exact Heap.lt_size ho
    have l2 : s.heap.objs.size < g1.objs.size := by
      obtain ⟨o, ho, _⟩ := it1
      exact Heap.lt_size ho
    show wpAny _ _ (if (1 : Nat) < 1 then _ else _) _ _ _
    rw [if_neg (Nat.lt_irrefl 1)]
    refine wpAny_bind (wpAny_holding (PySem.W.kun_collect (s := { s with heap := g1 }) (T := "list_iterator") (.inr (.inr (.inl rfl))) (Walks.list (A := X.A.in1) hh s.heap.objs.size t ne (u :: us).toArray) (fun j z st => st.1.typeIs) (k := 1) (by rw [hsz]; omega) ⟨it1, ht1⟩ l2 l1 (fun g2 tk kp => ?_) (by rw [hsz]; exact hz2)))
    show wpAny _ _ (if (List.drop 1 (u :: us)).length < 0 then _ else _) _ _ _
    rw [if_neg (Nat.not_lt_zero _)]
    exact fin ru rus (by omega) fun b o e => kp b o (Nat.ne_of_lt (Heap.lt_size e)) (sb1.extBut b o (Nat.ne_of_lt (Heap.lt_size e)) (Heap.get?_push_of_some _ e))
def gStar (K : PySem.W.Frag) (i j : Nat) : TG := fun v σ H Q => ∃ t x xs, v = .ref t ∧ (SqT K H t (x :: xs) ∨ SqL K H t (x :: xs)) ∧ ∀ D, H D = none → Q ((σ.set i (some x)).set j (some (.ref D))) (upd H D (.lst xs))
theorem pg_star {i j k : Nat} {m n : Str} {p1 p2 p3 : Pos} (hc : X.calm = true) (h1 : PG X (.Name m p1) (gName i)) (h2 : PG X (.Name n p2) (gName j)) : PG X (.Tuple [.Name m p1, .Starred (.Name n p2) p3] k pos) (gStar X.K i j) :=
  ⟨fun pins s σ H v u Q I rv ⟨t, x, xs, ev, q, g⟩ => by
    subst ev
    obtain rfl : u = Value.ref t := rv
    rw [assign_Tuple]
    refine wpAny_bind (wpAny_standAt ?_)
    show wpAny _ _ (unpack _ _) _ _ _
    unfold unpack
    have e1 : (assignEach [.Name m p1, .Starred (.Name n p2) p3] X.env) = [(false, assign (.Name m p1) X.env), (true, assign (.Name n p2) X.env)] := rfl
    rw [e1]
    refine wpAny_bind (wpAny_holding (un_star (s := s) hc I q fun u D s' ru nD I' => ?_))
    refine assignInOrder_cons (thn (h1.run pins s' σ _ x u (fun σ' H' => σ' = σ.set i (some x) ∧ H' = upd H D (.lst xs)) I' ru ⟨rfl, rfl⟩) fun _ s2 ⟨σ2, H2, I2, e2, e3⟩ => ?_)
    subst e2 e3
    exact assignInOrder_cons (thn (h2.run pins s2 _ _ (.ref D) (.ref D) Q I2 rfl (g D nD)) fun _ s3 w => assignInOrder_nil w)⟩
theorem lst_new {o : List AV} {vs : List V} (r : HR S K ρ h H) (v : VRs S K ρ H o vs) {p : Addr} (np : H p = none) : HR S K (ρ ++ [p]) (h ++ [.lst o]) (upd H p (.lst vs)) ∧ Ext ρ H (ρ ++ [p]) (upd H p (.lst vs)) ∧ VR S K (ρ ++ [p]) (upd H p (.lst vs)) (.ref h.length) (.ref p) := by
  have hp : p ∉ ρ := r.free np
  have ex : Ext ρ H (ρ ++ [p]) (upd H p (.lst vs)) := by
    refine ⟨⟨_, rfl⟩, fun b o hb _ => ?_, fun b hb hn => ?_⟩
    · rw [upd_ne (ne_of_none hb np)]; exact hb
    · rcases List.mem_append.mp hb with m | m
      · exact absurd m hn
      · rw [List.mem_singleton.mp m]; exact np
  obtain ⟨r1, e2⟩ := r.push (o := .lst o) (u := .lst vs) np ⟨vs, upd_same, v.mono r ex⟩
  exact ⟨r1, e2, .ref (by rw [← r.len]; simp)⟩
theorem cs_star {i j k : Nat} {m n : Str} {p1 p2 p3 p4 : Pos} (xk : Xk S d W X) (hi : X.N[i]? = some m) (hj : X.N[j]? = some n) (hx : Loc X.env.scope m) (hy : Loc X.env.scope n) (f1 : X.fn m = true ∨ X.env.scope.names.lookup m = some .local) (f2 : X.fn n = true ∨ X.env.scope.names.lookup n = some .local)
    (ha : CE S X d W a A) (hs : swapsWithSole [.Tuple [.Name m p1, .Starred (.Name n p2) p3] k p4] a pos.line X.env = pure false) (hw : swappedStores [.Tuple [.Name m p1, .Starred (.Name n p2) p3] k p4] a X.env = pure none)
    (h1 : (assignEach [.Tuple [.Name m p1, .Starred (.Name n p2) p3] k p4] X.env).map (·.2) = [assign (.Tuple [.Name m p1, .Starred (.Name n p2) p3] k p4) X.env]) :
    CS S X d W cx (.Assign [.Tuple [.Name m p1, .Starred (.Name n p2) p3] k p4] a pos) (.star [i] j [] A) :=
  (ps_asg ha (pg_star xk.calm (pg_name xk.nd hi hx f1) (pg_name xk.nd hj hy f2)) hs hw h1).imp fun D σ H ⟨ρ, h, l, r, lr, q⟩ => by
    unfold Mm.st at q
    refine onR_of r lr q fun v h1 ρ1 H1 u r1 e1 hu q1 => ?_
    split at q1
    case h_2 => exact q1.elim
    case h_1 xs e2 =>
    cases xs with
    | nil => exact q1.elim
    | cons x xs =>
    have q2 : AnsS S X.K ρ1 H1 W D (.nx ((l.set i (some x)).set j (some (.ref h1.length))) (h1 ++ [.lst xs])) := by
      unfold starA at q1
      have z1 : Nat.ble (([i] : List Nat).length + ([] : List Nat).length) (x :: xs).length = true := Nat.ble_eq_true_of_le (by simp)
      rw [z1] at q1
      have z2 : ((x :: xs).drop ([i] : List Nat).length).take ((x :: xs).length - ([i] : List Nat).length - ([] : List Nat).length) = xs := by simp
      dsimp only at q1
      rw [z2] at q1
      exact q1
    obtain ⟨p, vs, rfl, hq, vx⟩ : ∃ p vs, u = .ref p ∧ (SqT X.K H1 p vs ∨ SqL X.K H1 p vs) ∧ VRs S X.K ρ1 H1 (x :: xs) vs := by
      unfold itemsA at e2
      split at e2
      case h_1 ys =>
        cases e2
        obtain ⟨p, vs, rfl, sp, vx⟩ := hu.tup_inv
        exact ⟨p, vs, rfl, .inl sp, vx⟩
      case h_2 i =>
        obtain ⟨p, vs, rfl, hp, vx⟩ := list_of (v := .ref i) r1 hu (by unfold listA; exact e2)
        exact ⟨p, vs, rfl, .inr hp, vx⟩
      case h_3 => cases e2
    cases vx with
    | @cons _ v1 _ vs vx vxs =>
    refine ⟨p, v1, vs, rfl, hq, fun D nD => ?_⟩
    obtain ⟨r3, x3, v3⟩ := lst_new r1 vxs nD
    exact q2 _ _ _ r3 x3 (((((lr.mono r e1).mono r1 x3).set (vx.mono r1 x3) i)).set v3 j)
end
end Ms

set_option Elab.async false
set_option linter.all false
set_option maxRecDepth 100000
/-! int, str, isinstance, f-strings, dict displays. -/
namespace Ms
open PySem PySem.Spec L2 Mm
open PyProof.Rows hiding St
section
variable {S : Sg} {X : Cx} {d : Nat} {W : WX} {a b c tg : Expr} {A B C : E} {es : List Expr} {Es : E} {pos p apos : Pos} {ρ ρ1 : List Addr} {h h1 : AH} {H H1 : Hp} {l : Lo} {σ : St} {K : PySem.W.Frag} {D : Ends} {cx : Option AX}
/-! ### numbers as texts -/
theorem digF_num : ∀ (f n : Nat) (acc : Tx), n < 10 ^ (f + 1) → digF (f + 1) n acc = TL.numL n ++ acc
  | 0, n, acc, e => by
    have e' : n < 10 := by simpa using e
    unfold digF
    rw [if_pos (Nat.blt_eq.mpr e'), TL.numL_lt e']
    rfl
  | f + 1, n, acc, e => by
    by_cases z : n < 10
    · unfold digF
      rw [if_pos (Nat.blt_eq.mpr z), TL.numL_lt z]
      rfl
    · have e2 : n / 10 < 10 ^ (f + 1) := by
        rw [Nat.div_lt_iff_lt_mul (by decide)]
        rw [Nat.pow_succ] at e
        exact e
      unfold digF
      rw [if_neg (fun q => z (Nat.blt_eq.mp q)), digF_num f (n / 10) _ e2, TL.numL_step (n := n) (by omega), List.append_assoc]
      rfl
theorem natT_num {n : Nat} (e : n < 18446744073709551616) : natT n = TL.numL n := by
  unfold natT
  have z : n < 10 ^ (399 + 1) := Nat.lt_of_lt_of_le (Nat.lt_of_lt_of_le e (by decide : 18446744073709551616 ≤ 10 ^ 20)) (Nat.pow_le_pow_right (by decide) (by omega))
  rw [digF_num 399 n [] z, List.append_nil]
theorem natT_str {n : Nat} (e : n < 18446744073709551616) : toStr (natT n) = Str.ofString (toString ((n : Nat) : Int)) := by
  apply TL.ext_tl
  rw [TL.tl_num, ← natT_num e]
  rfl
theorem log_ok {n : Nat} (e : n < 18446744073709551616) : n.log2 < 1920 := by
  rcases Nat.eq_zero_or_pos n with z | z
  · subst z; decide
  · exact Nat.lt_of_lt_of_le ((Nat.log2_lt (by omega)).mpr (show n < 2 ^ 64 from e)) (by decide)
theorem call_str' (hun : X.A.units + 2 < cLine) : CallR X (.type "str") (rBlt S X.K .str) := by
  intro pins s σ H xs us Q I rxs q
  obtain ⟨ρ, h, as, r, vas, q⟩ := q
  unfold bltA at q
  dsimp only at q
  split at q
  case h_4 => exact q.elim
  case h_1 n =>
    obtain ⟨u, rfl, hu⟩ := vas.one
    obtain rfl := hu.int_inv
    split at q
    case h_2 => exact q.elim
    case h_1 e =>
    replace e := Nat.blt_eq.mp e
    refine call_str_int pins s σ H _ us Q I rxs ⟨_, rfl, log_ok e, ?_⟩
    have q' := q.now r _ (.str _)
    rw [natT_str e] at q'
    exact q'
  case h_2 x =>
    obtain ⟨u, rfl, hu⟩ := vas.one
    obtain rfl := hu.str_inv
    exact SkE.call_str_str pins s σ H _ us Q I rxs ⟨_, rfl, q.now r _ (.str _)⟩
  case h_3 i =>
    obtain ⟨u, rfl, hu⟩ := vas.one
    obtain ⟨p, rfl, ep⟩ := hu.ref_inv
    split at q
    case h_2 => exact q.elim
    case h_1 x _ e =>
      obtain ⟨xf, t, dd, hp, hs, _⟩ := r.at_ i p _ ep e
      exact call_xstr hun pins s σ H _ us Q I rxs ⟨p, _, _, dd, rfl, ⟨t, xf.xl, hp, hs⟩, q.now r _ (.str _)⟩
theorem isDig_ok {s : Tx} (e : s.all isDig = true) : NumText.AllDigits s := fun c m => by
  have z := List.all_eq_true.mp e c m
  unfold isDig at z
  rw [Bool.and_eq_true] at z
  exact ⟨Nat.le_of_ble_eq_true z.1, Nat.le_of_ble_eq_true z.2⟩
theorem call_int' : CallR X (.type "int") (rBlt S X.K .int) := by
  intro pins s σ H xs us Q I rxs q
  obtain ⟨ρ, h, as, r, vas, q⟩ := q
  unfold bltA at q
  dsimp only at q
  split at q
  case h_4 => exact q.elim
  case h_1 n =>
    obtain ⟨u, rfl, hu⟩ := vas.one
    obtain rfl := hu.int_inv
    obtain ⟨w, rfl, hw⟩ := vals1 rxs
    obtain ⟨t, rfl⟩ : ∃ t, w = Value.int n t := hw
    exact call_int_int ⟨.int n, H, I, ⟨t, rfl⟩, q.now r _ (.int n)⟩
  case h_2 k =>
    obtain ⟨u, rfl, hu⟩ := vas.one
    obtain rfl := hu.bl_inv
    obtain ⟨w, rfl, hw⟩ := vals1 rxs
    obtain rfl : w = Value.bool k := hw
    exact PySem.call_int_bool ⟨.int (if k then 1 else 0), H, I.tok _, ⟨_, rfl⟩, q.now r _ (.int _)⟩
  case h_3 x =>
    obtain ⟨u, rfl, hu⟩ := vas.one
    obtain rfl := hu.str_inv
    split at q
    case h_2 => exact q.elim
    case h_1 i e =>
    unfold intOfT at e
    split at e
    case h_1 => cases e
    case h_2 c r' =>
    split at e
    case h_2 => cases e
    case h_1 z =>
    cases e
    rw [Bool.and_eq_true] at z
    have z1 := Nat.le_of_ble_eq_true z.1
    refine call_int_str pins s σ H _ us Q I rxs ⟨_, _, rfl, PySem.intText_digits (isDig_ok z.2) (List.cons_ne_nil _ _) ?_, ?_, q.now r _ (.int _)⟩
    · rw [toStr_length]; omega
    · rw [toStr_length]; omega
/-! ### isinstance -/
def tyN : Ty → String
  | .int => "int"
  | .bool => "bool"
  | .str => "str"
  | .tuple => "tuple"
  | _ => "list"
def tyB : Ty → Bool
  | .int | .bool | .str | .tuple | .list => true
  | _ => false
def rTy (S : Sg) (K : PySem.W.Frag) (t : Ty) : List V → Hp → VK → Prop := fun xs H Q => ∃ ρ h a x, HR S K ρ h H ∧ VR S K ρ H a x ∧ xs = [x, .ty (tyN t)] ∧ Ans S K ρ H (bO (tyA S.T.cls h a t) h) (kAv S K Q) eN
theorem kit_all : ∀ t : Ty, tyB t = true → kitB "NoneType" (tyN t) = some false ∧ kitB "bool" (tyN t) = some (match t with | .int => true | .bool => true | _ => false) ∧ kitB "int" (tyN t) = some (match t with | .int => true | _ => false) ∧
    kitB "str" (tyN t) = some (match t with | .str => true | _ => false) ∧ kitB "tuple" (tyN t) = some (match t with | .tuple => true | _ => false) ∧ kitB "list" (tyN t) = some (match t with | .list => true | _ => false) ∧ kitB "dict" (tyN t) = some false := by
  intro t b
  cases t <;> first | (refine ⟨?_, ?_, ?_, ?_, ?_, ?_, ?_⟩ <;> decide +kernel) | cases b
theorem call_ty {t : Ty} (hb : tyB t = true) : CallR X (.builtin "isinstance") (rTy S X.K t) := by
  intro pins s σ H xs us Q I rxs q
  obtain ⟨ρ, h, a, x, r, va, rfl, q⟩ := q
  obtain ⟨k1, k2, k3, k4, k5, k6, k7⟩ := kit_all t hb
  have go : ∀ {T : Value} {b : Bool}, TyX X.K H x T → PySem.W.kitOne X.K T (.type (tyN t)) = some b → Q (.bl b) H → wpAny (model X.prog X.w) X.A (call (.builtin "isinstance") us) (EP X pins σ Q) X.xe s := fun ty e q => call_isi pins s σ H _ us Q I rxs ⟨x, _, _, _, _, rfl, .ty _, ty, e, q⟩
  unfold tyA at q
  split at q
  case h_1 =>
    obtain rfl := va.non_inv
    exact go (.base .non) (kit_ty k1) (q.now r _ (.bl _))
  case h_2 b =>
    obtain rfl := va.bl_inv
    exact go (.base (.bl b)) (kit_ty k2) (q.now r _ (.bl _))
  case h_3 b =>
    obtain rfl := va.int_inv
    exact go (.base (.int b)) (kit_ty k3) (q.now r _ (.bl _))
  case h_4 b =>
    obtain rfl := va.str_inv
    exact go (.base (.str _)) (kit_ty k4) (q.now r _ (.bl _))
  case h_5 ys =>
    obtain ⟨p, vs, rfl, sp, vx⟩ := va.tup_inv
    refine go (T := .type "tuple") ?_ (kit_ty k5) (q.now r _ (.bl _))
    rcases sp with (z | ⟨o, z⟩) | ⟨o, its, n, z, zc, _⟩
    · exact .base (.tup z)
    · exact .fTuple z
    · exact .kTuple z zc
  case h_6 i =>
    obtain ⟨p, rfl, ep⟩ := va.ref_inv
    split at q
    case h_1 ys z =>
      obtain ⟨vs, hp, vx⟩ := r.lst ep z
      exact go (.base (.lst hp)) (kit_ty k6) (q.now r _ (.bl _))
    case h_2 lk kvs z =>
      obtain ⟨qs, hp, kv, _⟩ := r.dic ep z
      refine go (T := .type "dict") ?_ (kit_ty k7) (q.now r _ (.bl _))
      rcases hp with hp | ⟨o, hp⟩
      · exact .base (.dK hp)
      · exact .fDict hp
    case h_3 => cases t <;> first | exact q.elim | cases hb
    case h_4 x z =>
      split at q
      · cases t <;> first | exact q.elim | cases hb
      · exact q.elim
    case h_5 => exact q.elim
  case h_7 => exact q.elim
theorem noX_bO2 (o : Option Bool) (h : AH) : NoX (bO o h) := by cases o <;> trivial
theorem ce_isi {t : Ty} {p2 : Pos} (hb : tyB t = true) (hg : Gl X "isinstance") (hm : X.mg "isinstance" = none) (hg2 : Gl X (tyN t : Str)) (hm2 : X.mg (tyN t : Str) = none) (hv2 : bootBuiltins (tyN t : Str) = some (.type (tyN t))) (hn2 : (tyN t : Str) ≠ "__name__") (hd2 : ((tyN t : Str) == ("__debug__" : Str)) = false)
    (ha : CE S X d W a A) (he : starEach [a, .Name (tyN t : Str) p2] X.env = (false, eval a X.env) :: starEach [.Name (tyN t : Str) p2] X.env) (he2 : starEach [.Name (tyN t : Str) p2] X.env = (false, eval (.Name (tyN t : Str) p2) X.env) :: starEach [] X.env) (hpl : (backTo pos (starEach [.Name (tyN t : Str) p2] X.env)).any (·.1) = false) :
    CE S X d W (.Call (.Name "isinstance" p) [a, .Name (tyN t : Str) p2] [] pos) (.isi A [t]) :=
  (pe_callB (call_ty hb) hg hm (by decide +kernel) (pa_cons ha (pa_cons (pe_bltn hg2 hm2 hv2 (v := .ty (tyN t)) rfl hn2 hd2) pa_nil he2) he) (by decide) (by decide) he hpl).imp fun σ H Q ⟨ρ, h, l, r, lr, q⟩ => by
    unfold ev at q
    refine tE_of r lr q fun v h1 ρ1 H1 u r1 e1 hu q1 => ?_
    exact ⟨ρ1, h1, v, u, r1, hu, rfl, q1.noX (noX_bO2 _ _)⟩
/-! ### f-strings -/
def tJl (S : Sg) (K : PySem.W.Frag) (d : Nat) (W : WX) : E → List TE
  | .cons A B => tFmt (tEv S K d W A) :: tJl S K d W B
  | _ => []
abbrev CJ (S : Sg) (X : Cx) (d : Nat) (W : WX) (es : List Expr) (Es : E) : Prop := PJ X es (tJl S X.K d W Es)
theorem cj_nil : CJ S X d W [] .nil := .nil
theorem cj_fmt (ha : CE S X d W a A) (hr : CJ S X d W es Es) : CJ S X d W (.FormattedValue a (-1) none pos :: es) (.cons A Es) := .cons (pe_fmt ha) hr
theorem cj_txt {x : Str} {j : Nat} (hr : CJ S X d W es Es) : CJ S X d W (.Constant (.str x) j pos :: es) (.cons (.cst (.str x.cps.toList)) Es) := .cons (pe_str.imp fun σ H Q ⟨ρ, h, l, r, lr, q⟩ => by
  unfold ev at q
  have z := VR.str (S := S) (K := X.K) (ρ := ρ) (H := H) x.cps.toList
  rw [toStr_str] at z
  rcases q.now r _ z with ⟨y, e, _, q⟩ | ⟨i, e, _⟩
  · cases e; exact q
  · cases e) hr
/-- the values of a list of expressions, if none raises -/
theorem noEx_evs {α : Type} {f : List AV → AH → Rs α} {k : α → AH → List Addr → Hp → Prop} {e : AX → List Addr → Hp → Prop} (q : Ans S K ρ H ((noEx (evs S.T (run S.T d) (.cons A B) l h)).bind f) k e) :
    Ans S K ρ H (ev S.T (run S.T d) A l h) (fun x h1 ρ1 H1 => Ans S K ρ1 H1 ((noEx (evs S.T (run S.T d) B l h1)).bind fun xs h2 => f (x :: xs) h2) k e) eN := by
  unfold evs at q
  cases e1 : ev S.T (run S.T d) A l h with
  | bad => rw [e1] at q; exact q
  | ex x h1 => rw [e1] at q; exact (show False from q).elim
  | ok x h1 =>
    rw [e1] at q
    intro ρ1 H1 r1 x1
    replace q : Ans S K ρ H ((noEx ((evs S.T (run S.T d) B l h1).bind fun xs h => .ok (x :: xs) h)).bind f) k e := q
    replace q := q.ext x1
    cases e2 : evs S.T (run S.T d) B l h1 with
    | bad => rw [e2] at q; exact q
    | ex y h2 => rw [e2] at q; exact q
    | ok xs h2 => rw [e2] at q; exact q
theorem fmt_len {xs : List AV} {acc : Tx} {k : AV → AH → List Addr → Hp → Prop} {e : AX → List Addr → Hp → Prop} (q : Ans S K ρ H ((noEx (evs S.T (run S.T d) Es l h)).bind fun xs h => fmtR acc xs h) k e) : acc.length ≤ sizeLine := by
  cases e2 : evs S.T (run S.T d) Es l h with
  | bad => rw [e2] at q; exact q.elim
  | ex y h2 => rw [e2] at q; exact (show False from q).elim
  | ok xs h2 =>
    rw [e2] at q
    replace q : Ans S K ρ H (fmtR acc xs h2) k e := q
    unfold fmtR at q
    split at q
    case h_2 => exact q.elim
    case h_1 s _ =>
    split at q
    case h_2 => exact q.elim
    case h_1 z =>
    have z' := Nat.le_of_ble_eq_true z
    rw [List.length_append] at z'
    have z2 : SZ = sizeLine := rfl
    omega
theorem fmtR_str {s : Tx} {acc : Tx} {xs : List AV} {h : AH} : fmtR acc (.str s :: xs) h = fmtR (acc ++ s) xs h := by
  unfold fmtR
  show (match (match fmtA xs with
    | some q => some (s ++ q)
    | none => none) with
    | some s => _
    | none => _) = _
  cases fmtA xs with
  | none => rfl
  | some q =>
    dsimp only
    rw [List.append_assoc]
theorem fmtR_int {n : Nat} {acc : Tx} {xs : List AV} {h : AH} (e : n < 18446744073709551616) : fmtR acc (.int (.ofNat n) :: xs) h = fmtR (acc ++ natT n) xs h := by
  unfold fmtR
  show (match (match Nat.blt n 18446744073709551616, fmtA xs with
    | true, some q => some (natT n ++ q)
    | _, _ => none) with
    | some s => _
    | none => _) = _
  rw [Nat.blt_eq.mpr e]
  cases fmtA xs with
  | none => rfl
  | some q =>
    dsimp only
    rw [List.append_assoc]
theorem js_of {Q : VK} : ∀ (Es : E) (acc : Tx) (ρ : List Addr) (h : AH) (H : Hp), HR S K ρ h H → LR S K ρ H l σ → Ans S K ρ H ((noEx (evs S.T (run S.T d) Es l h)).bind fun xs h => fmtR acc xs h) (kAv S K Q) eN →
    tJs (tJl S K d W Es) (toStr acc) σ H fun out H1 => Q (.str out) H1 := by
  intro Es
  induction Es with
  | cons A B _ ih =>
    intro acc ρ h H r lr q
    refine ⟨ρ, h, l, r, lr, (noEx_evs q).imp (fun x h1 ρ1 H1 r1 x1 q1 u hu => ?_) fun _ _ _ z => z.elim⟩
    have fail : (∀ s, x ≠ .str s) → (∀ n, n < 18446744073709551616 → x ≠ .int (.ofNat n)) → False := fun n1 n2 => by
      have bad : ∀ xs h2, fmtR acc (x :: xs) h2 = .bad := fun xs h2 => by
        unfold fmtR
        have : fmtA (x :: xs) = none := by
          cases x with
          | str s => exact absurd rfl (n1 s)
          | int i =>
            cases i with
            | ofNat n =>
              unfold fmtA
              have z : Nat.blt n 18446744073709551616 = false := by
                cases z : Nat.blt n 18446744073709551616 with
                | false => rfl
                | true => exact absurd rfl (n2 n (Nat.blt_eq.mp z))
              rw [z]
            | negSucc n => rfl
          | _ => rfl
        rw [this]
      cases e2 : evs S.T (run S.T d) B l h1 with
      | bad => rw [e2] at q1; exact q1
      | ex y h2 => rw [e2] at q1; exact q1
      | ok xs h2 =>
        rw [e2] at q1
        replace q1 : Ans S K ρ1 H1 (fmtR acc (x :: xs) h2) (kAv S K Q) eN := q1
        rw [bad] at q1
        exact q1
    cases x with
    | str s =>
      obtain rfl := hu.str_inv
      have e0 : (fun xs h2 => fmtR acc (.str s :: xs) h2) = fun xs h2 => fmtR (acc ++ s) xs h2 := by
        funext xs h2
        exact fmtR_str
      rw [e0] at q1
      have ln := fmt_len (xs := []) q1
      have ln2 := ln
      rw [List.length_append] at ln2
      refine .inl ⟨_, rfl, by rw [toStr_length]; omega, _, rfl, ?_, ?_⟩
      · rw [toStr_append, toStr_length]; exact ln
      · rw [toStr_append]
        exact ih (acc ++ s) ρ1 h1 H1 r1 (lr.mono r x1) q1
    | int i =>
      cases i with
      | negSucc n => exact (fail (fun _ z => nomatch z) fun _ _ z => nomatch z).elim
      | ofNat n =>
        obtain rfl := hu.int_inv
        by_cases e : n < 18446744073709551616
        · have e0 : (fun xs h2 => fmtR acc (.int (.ofNat n) :: xs) h2) = fun xs h2 => fmtR (acc ++ natT n) xs h2 := by
            funext xs h2
            exact fmtR_int e
          rw [e0] at q1
          have ln := fmt_len (xs := []) q1
          refine .inr ⟨_, rfl, log_ok e, _, rfl, ?_, ?_⟩
          · show (toStr acc ++ Str.ofString (toString ((n : Nat) : Int))).length ≤ sizeLine
            rw [← natT_str e, toStr_append, toStr_length]
            exact ln
          · show tJs _ (toStr acc ++ Str.ofString (toString ((n : Nat) : Int))) _ _ _
            rw [← natT_str e, toStr_append]
            exact ih (acc ++ natT n) ρ1 h1 H1 r1 (lr.mono r x1) q1
        · exact (fail (fun _ z => nomatch z) fun m hm z => e (by cases z; exact hm)).elim
    | _ => exact (fail (fun _ z => nomatch z) fun _ _ z => nomatch z).elim
  | nil =>
    intro acc ρ h H r lr q
    replace q : Ans S K ρ H (fmtR acc [] h) (kAv S K Q) eN := q
    unfold fmtR at q
    have e : fmtA [] = some [] := rfl
    rw [e] at q
    dsimp only at q
    rw [List.append_nil] at q
    split at q
    case h_2 => exact q.elim
    case h_1 => exact q.now r _ (.str acc)
  | _ =>
    intro acc ρ h H r lr q
    unfold evs at q
    exact (show False from q).elim
theorem ce_fmt {v1 v2 : Expr} {rest : List Expr} (hj : CJ S X d W (v1 :: v2 :: rest) Es) : CE S X d W (.JoinedStr (v1 :: v2 :: rest) pos) (.fmt Es) := (pe_joined hj).imp fun σ H Q ⟨ρ, h, l, r, lr, q⟩ => by
  unfold ev at q
  have q' : Ans S X.K ρ H ((noEx (evs S.T (run S.T d) Es l h)).bind fun xs h => fmtR [] xs h) (kAv S X.K Q) eN := by
    cases e2 : evs S.T (run S.T d) Es l h with
    | bad => rw [e2] at q; exact q.elim
    | ex y h2 => rw [e2] at q; exact (show False from q).elim
    | ok xs h2 =>
      rw [e2] at q
      refine Ans.noX (?_ : NoX (fmtR [] xs h2)) q
      unfold fmtR
      repeat' split
      all_goals trivial
  exact js_of Es [] ρ h H r lr q'
/-! ### dict displays -/
def tDl (S : Sg) (K : PySem.W.Frag) (d : Nat) (W : WX) : E → List (TE × TE)
  | .cons A (.cons B C) => (tEv S K d W A, tEv S K d W B) :: tDl S K d W C
  | _ => []
inductive CD (S : Sg) (X : Cx) (d : Nat) (W : WX) (pos : Pos) : List (Option Expr) → List Expr → E → Prop
  | nil : CD S X d W pos [] [] .nil
  | cons {k v : Expr} {ks : List (Option Expr)} {vs : List Expr} {A B C : E} : CE S X d W k A → CE S X d W v B → CD S X d W pos ks vs C → CD S X d W pos (some k :: ks) (v :: vs) (.cons A (.cons B C))
theorem CD.pps {ks : List (Option Expr)} {vs : List Expr} {Es : E} (c : CD S X d W pos ks vs Es) : PPs X pos ks vs (tDl S X.K d W Es) := by
  induction c with
  | nil => exact pps_nil
  | cons a b _ ih => exact pps_cons a b ih
theorem evs_cons_of {R : List V → Hp → Prop} (q : tEvs S K d W (.cons A B) σ H R) : tEv S K d W A σ H fun x H1 => tEvs S K d W B σ H1 fun vs H2 => R (x :: vs) H2 := by
  obtain ⟨ρ, h, l, r, lr, q⟩ := q
  unfold evs at q
  refine ⟨ρ, h, l, r, lr, q.bind.imp (fun v h1 ρ1 H1 r1 e1 q1 u hu => ?_) fun _ _ _ z => z⟩
  refine ⟨ρ1, h1, l, r1, lr.mono r e1, q1.bind.imp (fun vs h2 ρ2 H2 r2 e2 q2 us hus => ?_) fun _ _ _ z => z⟩
  exact q2.now r2 _ (.cons (hu.mono r1 e2) hus)
def flat2 : List (V × V) → List V
  | [] => []
  | p :: r => p.1 :: p.2 :: flat2 r
theorem pairs_of {ks : List (Option Expr)} {vs : List Expr} {Es : E} (c : CD S X d W pos ks vs Es) : ∀ {σ : St} {H : Hp} {R : List (V × V) → Hp → Prop}, tEvs S X.K d W Es σ H (fun us H2 => ∀ ps, us = flat2 ps → R ps H2) → tPairs (tDl S X.K d W Es) σ H R := by
  induction c with
  | nil =>
    intro σ H R q
    obtain ⟨ρ, h, l, r, lr, q⟩ := q
    unfold evs at q
    exact q.now r _ .nil [] rfl
  | cons a b _ ih =>
    intro σ H R q
    obtain ⟨ρ, h, l, r, lr, q⟩ := evs_cons_of q
    refine ⟨ρ, h, l, r, lr, q.imp (fun v h1 ρ1 H1 r1 x1 q1 u hu => ?_) fun _ _ _ z => z⟩
    obtain ⟨ρ, h, l, r, lr, q⟩ := evs_cons_of (q1 u hu)
    refine ⟨ρ, h, l, r, lr, q.imp (fun v2 h2 ρ2 H2 r2 x2 q2 u2 hu2 => ih ?_) fun _ _ _ z => z⟩
    obtain ⟨ρ, h, l, r, lr, q⟩ := q2 u2 hu2
    exact ⟨ρ, h, l, r, lr, q.imp (fun v3 h3 ρ3 H3 r3 x3 q3 u3 hu3 ps eps => q3 u3 hu3 ((u, u2) :: ps) (by rw [eps]; rfl)) fun _ _ _ z => z⟩
theorem dctA_ok : ∀ {ps : List (V × V)} {xs : List AV} {acc kvs : List (AK × AV)} {accV : List (Key × V)}, VRs S K ρ H xs (flat2 ps) → dctA xs acc = some kvs → KVR S K ρ H acc accV →
    ∃ kq : List (Key × V), ps = kq.map (fun kv => (kV kv.1, kv.2)) ∧ KVR S K ρ H kvs (mergeK accV kq)
  | [], xs, acc, kvs, accV, v, e, k => by
    cases v
    cases e
    exact ⟨[], rfl, k⟩
  | (a, b) :: ps, xs, acc, kvs, accV, v, e, k => by
    cases v with
    | @cons x _ xs _ vx v =>
    cases v with
    | @cons y _ xs _ vy v =>
    unfold dctA at e
    split at e
    case h_2 => cases e
    case h_1 ak ek =>
    obtain ⟨kq, e1, e2⟩ := dctA_ok v e (k.put vy)
    have e3 := keyOf_ok vx ek
    replace e3 : a = kV (kR ak) := e3
    exact ⟨(kR ak, b) :: kq, by rw [List.map_cons, ← e1, e3], e2⟩
theorem flat2_len : ∀ ps : List (V × V), (flat2 ps).length = 2 * ps.length
  | [] => rfl
  | p :: r => by
    show (flat2 r).length + 1 + 1 = 2 * (r.length + 1)
    rw [flat2_len r]
    omega
theorem ce_dct {ks : List (Option Expr)} {vs : List Expr} (c : CD S X d W pos ks vs Es) (hall : ks.all (·.isSome) = true) (hl : ks.length = vs.length) (h0 : ks ≠ []) (h15 : ks.length ≤ 15) : CE S X d W (.Dict ks vs pos) (.dct Es) :=
  (pe_disp c.pps hall hl h0 h15).imp fun σ H Q ⟨ρ, h, l, r, lr, q⟩ => by
    intro p np
    unfold ev at q
    obtain ⟨r1, x1⟩ := r.side (u := .dK []) np
    have nm := r.free np
    have body : tEvs S X.K d W Es σ (upd H p (.dK [])) fun us H2 => ∀ ps, us = flat2 ps → H2 p = some (.dK []) ∧ ∃ kvs : List (Key × V), ps = kvs.map (fun kv => (kV kv.1, kv.2)) ∧ kvs.length ≤ 15 ∧ Q (.ref p) (upd H2 p (.dK (mergeK [] kvs))) := by
      refine ⟨ρ, h, l, r1, lr.mono r x1, ?_⟩
      cases e1 : evs S.T (run S.T d) Es l h with
      | bad => rw [e1] at q; exact q
      | ex x h1 =>
        rw [e1] at q
        exact fun ρ' H' r' x' => q ρ' H' r' (x1.trans x')
      | ok xs h2 =>
      rw [e1] at q
      intro ρ2 H2 r2 x2 us hus ps eps
      subst eps
      replace q : Ans S X.K ρ H (match Nat.ble xs.length 30, dctA xs [] with
        | true, some kvs => newO (.dic false kvs) h2
        | _, _ => .bad) (kAv S X.K Q) (eW S X.K W σ) := q
      cases z1 : Nat.ble xs.length 30 with
      | false => rw [z1] at q; exact q.elim
      | true =>
      cases z2 : dctA xs [] with
      | none => rw [z1, z2] at q; exact q.elim
      | some kvs =>
      rw [z1, z2] at q
      obtain ⟨kq, e2, e3⟩ := dctA_ok hus z2 .nil
      have hp2 : H2 p = some (.dK []) := x2.keep p _ upd_same nm
      have nm2 : p ∉ ρ2 := fun m => by
        have w := x2.new p m nm
        rw [upd_same] at w
        cases w
      have nt : NoTup H2 p := notup_of hp2 (fun _ z => nomatch z) fun _ _ z => nomatch z
      have ln := hus.length
      rw [flat2_len, e2, List.length_map] at ln
      have z1' := Nat.le_of_ble_eq_true z1
      refine ⟨hp2, kq, e2, by omega, ?_⟩
      have g : ∀ (i : Nat) (a : Addr), ρ2[i]? = some a → (ρ2 ++ [p])[i]? = some a := fun i a e => by
        rw [List.getElem?_append_left (List.getElem?_eq_some_iff.mp e).1]; exact e
      have r3 := (r2.other (u' := .dK (mergeK [] kq)) hp2 nt nm2).adopt (o := .dic false kvs) nm2 ⟨_, upd_same, e3.mono2 (sq_other hp2 nt) g⟩
      have x12 := x1.trans x2
      refine q _ _ r3 ⟨?_, fun b o hb hn => ?_, fun b hb hn => ?_⟩ _ (.ref ?_)
      · obtain ⟨w, rfl⟩ := x12.pre
        exact ⟨w ++ [p], by simp⟩
      · rw [upd_ne (ne_of_none hb np)]
        exact x12.keep b o hb hn
      · rcases List.mem_append.mp hb with z | z
        · exact x12.new b z hn
        · rw [List.mem_singleton.mp z]; exact np
      · rw [← r2.len]; simp
    exact pairs_of c body
end
end Ms

set_option Elab.async false
set_option linter.all false
set_option maxRecDepth 100000
/-! The text's forms, in general. -/
namespace Ms
open PySem PySem.Spec L2 Mm
open PyProof.Rows hiding St
section
variable {a b c tg : Expr} {es : List Expr} {pos p apos : Pos} {env : Env}
def noStar : Expr → Bool
  | .Starred _ _ => false
  | _ => true
theorem star_cons (h : noStar a = true) : starEach (a :: es) env = (false, eval a env) :: starEach es env := by
  cases a <;> first | rfl | cases h
theorem star_map : ∀ {es : List Expr}, es.all noStar = true → starEach es env = es.map fun e => (false, eval e env)
  | [], _ => rfl
  | a :: es, h => by
    rw [List.all_cons, Bool.and_eq_true] at h
    rw [star_cons h.1, star_map h.2, List.map_cons]
theorem star_any (h : es.all noStar = true) : (backTo pos (starEach es env)).any (·.1) = false := by
  rw [star_map h]
  unfold backTo
  induction es with
  | nil => rfl
  | cons a es ih =>
    rw [List.all_cons, Bool.and_eq_true] at h
    rw [List.map_cons, List.map_cons, List.any_cons, ih h.2]
    rfl
theorem star_all (h : es.all noStar = true) : (backTo pos (starEach es env)).all (fun x => !x.1) = true := by
  rw [star_map h]
  unfold backTo
  induction es with
  | nil => rfl
  | cons a es ih =>
    rw [List.all_cons, Bool.and_eq_true] at h
    rw [List.map_cons, List.map_cons, List.all_cons, ih h.2]
    rfl
/-- no super() -/
def plainB : Expr → Bool
  | .Call _ _ _ _ => false
  | _ => true
theorem base_of {n : Str} {t : Sem Value} (h : plainB a = true) : attributeBase a n env t = t := by
  cases a <;> first | rfl | cases h
theorem few_of (h : es.all noStar = true) (hl : es.length < 30) : ((backTo pos (starEach es env)).all (fun x => !x.1) && (backToKw pos (keywordEach [] env)).all (fun x => x.1.isSome)
      && decide (es.length + ([] : List Keyword).length + (if ([] : List Keyword).isEmpty then 0 else 1) < 30)) = true := by
  rw [star_all h]
  have : decide (es.length + ([] : List Keyword).length + (if ([] : List Keyword).isEmpty then 0 else 1) < 30) = true := decide_eq_true (by simpa using hl)
  rw [this]
  rfl
theorem meth_eval {n : Str} (hb : plainB a = true) (hs : es.all noStar = true) (hl : es.length < 30) (hline : (apos.endLine == pos.line) = true) : ∃ pl, eval (.Call (.Attribute a n apos) es [] pos) env = (do
      let ov ← eval a env
      standAt apos.atName
      let (f, first) ← holding [ov] (getMethod ov n pl)
      callWith pos f first (backTo pos (starEach es env)) (backToKw pos (keywordEach [] env))) := by
  refine ⟨(do return (← importBound a env).getD true), ?_⟩
  have e1 : eval (.Call (.Attribute a n apos) es [] pos) env = (do
    let ov ← attributeBase a n env (eval a env)
    standAt apos.atName
    methodCall a n apos pos env ov (es.length + ([] : List Keyword).length) (backTo pos (starEach es env)) (backToKw pos (keywordEach [] env))) := by
    conv => lhs; unfold eval
  rw [e1, base_of hb]
  have e2 : methodCallForm (es.length + ([] : List Keyword).length) (backTo pos (starEach es env)) (backToKw pos (keywordEach [] env)) = true := by
    unfold methodCallForm
    rw [star_all hs]
    show (true && true && decide (es.length + 0 + 0 < 30)) = true
    rw [decide_eq_true (by omega)]
    rfl
  have e3 : methodCallPos true a env apos pos = pure pos := by
    unfold methodCallPos
    rw [hline]
    rfl
  congr 1
  funext ov
  congr 1
  funext _
  unfold methodCall
  rw [e2]
  show (holding [ov] (calleeOf true a env ov n) >>= _) = _
  unfold calleeOf
  simp only [e3]
  rfl
def noComp : Expr → Bool
  | .ListComp _ _ _ _ => false
  | .SetComp _ _ _ _ => false
  | .DictComp _ _ _ _ _ => false
  | _ => true
theorem sw_none {t : Option Expr} {l : Nat} (h : noComp a = true) : swapsWith a t l env = pure false := by
  cases a <;> first | rfl | cases h
theorem sws_none {ts : List Expr} {l : Nat} (h : noComp a = true) : swapsWithSole ts a l env = pure false := by
  unfold swapsWithSole
  split
  · exact sw_none h
  · rfl
def noTup : Expr → Bool
  | .Tuple _ _ _ => false
  | _ => true
theorem sst_none {ts : List Expr} (h : noTup a = true) : swappedStores ts a env = pure none := by
  unfold swappedStores
  split
  · rename_i ts' vs' e
    split at e
    · cases h
    · cases h
    · cases e
  · rfl
theorem sst_sub {o i : Expr} : swappedStores [.Subscript o i p] a env = pure none := by
  unfold swappedStores
  split
  · rename_i ts' vs' e
    split at e
    · rename_i e2; cases e2
    · rename_i e2; cases e2
    · cases e
  · rfl
theorem fold_none {x : Value} (h : ∀ es k p, a ≠ .Set es k p) : foldedSetIterable a env x = pure x := by
  unfold foldedSetIterable
  cases a <;> first | rfl | exact absurd rfl (h _ _ _)
def noSl : Expr → Bool
  | .Slice _ _ _ _ => false
  | _ => true
theorem plain_ix (h : noSl b = true) : PlainIx b := by
  intro o i
  cases b <;> first | rfl | cases h
/-- a test whose value is asked as any other -/
def truB : Expr → Bool
  | .UnaryOp _ _ _ => false
  | .BoolOp _ _ _ => false
  | .Compare _ _ _ _ => false
  | .IfExp _ _ _ _ => false
  | _ => true
theorem istrue_all (h : truB a = true) (whole : Sem Value) : isTrue a env whole = (do let v ← whole; standAt a.pos; holding [v] (truthy v)) := by
  cases a <;> first | rfl | cases h
theorem sub_assign {o i : Expr} (h : noSl i = true) (v : Value) : assign (.Subscript o i p) env v = (do
      let ov ← holding [v] (eval o env)
      let iv ← holding [v, ov] (eval i env)
      standAt p
      holding [v, ov, iv] (setItem ov iv v)
      release [v, ov, iv] []) := by
  cases i <;> first | rfl | cases h
theorem sw_attr {o : Expr} {n : Str} {l : Nat} : swapsWith a (some (.Attribute o n p)) l env = pure false := by
  cases a <;> rfl
theorem sw_sub {o i : Expr} {l : Nat} : swapsWithSole [.Subscript o i p] a l env = pure false := by
  cases a <;> rfl
theorem sw_tup {ts : List Expr} {k l : Nat} : swapsWithSole [.Tuple ts k p] a l env = pure false := by
  cases a <;> rfl
end
section
variable {S : Sg} {X : Cx} {d : Nat} {W : WX} {a b c : Expr} {A B C : E} {es : List Expr} {Es : E} {pos p apos : Pos} {cx : Option AX}
/-! ### code that is never come to -/
theorem ce_nil : CE S X d W a .nil := ⟨fun _ _ _ _ _ _ ⟨ρ, h, l, r, lr, q⟩ => by unfold ev at q; exact (show False from q).elim⟩
theorem ct_nil : CT S X d W a .nil := ⟨fun _ _ _ _ _ _ ⟨ρ, h, l, r, lr, q⟩ => by unfold ev at q; exact (show False from q).elim⟩
theorem ca_no : CA S X d W es .no := ⟨fun _ _ _ _ _ _ _ ⟨ρ, h, l, r, lr, q⟩ => by unfold evs at q; exact (show False from q).elim⟩
theorem cs_wall {s : Stmt} : CS S X d W cx s .wall := ⟨fun _ _ _ _ _ _ ⟨ρ, h, l, r, lr, q⟩ => by unfold Mm.st at q; exact (show False from q).elim⟩
theorem css_wall {s : List Stmt} : CSs S X d W cx s .wall := ⟨fun _ _ _ _ _ _ ⟨ρ, h, l, r, lr, q⟩ => by unfold Mm.st at q; exact (show False from q).elim⟩
/-! ### -x -/
theorem ce_neg (ha : CE S X d W a A) : CE S X d W (.UnaryOp .USub a pos) (.neg A) := (pe_un un_neg ha).imp fun σ H Q ⟨ρ, h, l, r, lr, q⟩ => by
  unfold ev at q
  refine tE_of r lr q fun v h1 ρ1 H1 u r1 e1 hu q1 => ?_
  split at q1
  case h_2 => exact q1.elim
  case h_1 i =>
  obtain rfl := hu.int_inv
  exact ⟨i, rfl, q1.now r1 _ (.int _)⟩
/-! ### the methods -/
theorem bmc_all {m : Bm} {k : Nat} (hr : Room d X.A) (hw : WdOk S X.K X.w) (e : supB m k = true) : BmC S X m k (kT k) := by
  unfold supB at e
  split at e
  case h_1 => exact ⟨PySem.F.plainAttrs_list, _, PySem.F.slot_list_append, by show builtinType _ = _; rw [builtinType_eq_fast]; kernel_rfl, mt_append'⟩
  case h_2 => exact ⟨PySem.F.plainAttrs_list, _, PySem.F.slot_list_pop, by show builtinType _ = _; rw [builtinType_eq_fast]; kernel_rfl, mt_pop'⟩
  case h_3 => exact ⟨PySem.F.plainAttrs_list, _, PySem.F.slot_list_clear, by show builtinType _ = _; rw [builtinType_eq_fast]; kernel_rfl, mt_clear'⟩
  case h_4 => exact ⟨PySem.F.plainAttrs_dict, _, PySem.F.slot_dict_get, by show builtinType _ = _; rw [builtinType_eq_fast]; kernel_rfl, mt_get' hr⟩
  case h_5 => exact ⟨PySem.F.plainAttrs_dict, _, PySem.F.slot_dict_get, by show builtinType _ = _; rw [builtinType_eq_fast]; kernel_rfl, mt_getw hw⟩
  case h_6 => exact ⟨PySem.F.plainAttrs_str, _, PySem.F.slot_str_split, by show builtinType _ = _; rw [builtinType_eq_fast]; kernel_rfl, mt_split'⟩
  case h_7 => exact ⟨PySem.F.plainAttrs_str, _, PySem.F.slot_str_join, by show builtinType _ = _; rw [builtinType_eq_fast]; kernel_rfl, mt_join'⟩
  case h_8 => exact ⟨PySem.F.plainAttrs_str, _, PySem.F.slot_str_startswith, by show builtinType _ = _; rw [builtinType_eq_fast]; kernel_rfl, mt_starts'⟩
  case h_9 => exact ⟨PySem.F.plainAttrs_str, _, PySem.F.slot_str_find, by show builtinType _ = _; rw [builtinType_eq_fast]; kernel_rfl, mt_find'⟩
  case h_10 => cases e
end
end Ms

set_option Elab.async false
set_option linter.all false
set_option maxRecDepth 100000
/-! len(set(text)), a text whose signs are all unlike. -/
namespace Ms
open PySem PySem.Spec L2 Mm
open PyProof.Rows hiding St
open PySem.Froz
section
variable {P : Program} {w : World}
theorem runD_ok : ∀ (cs : List Nat) (k : Tok) (D : SD) (l : List Str), TxOk P w D l → (∀ c ∈ cs, sing c ∉ l) → cs.Nodup → ∃ l', l'.length = l.length + cs.length ∧ TxOk P w (runD w cs k D) l'
  | [], _, D, l, F, _, _ => ⟨l, rfl, F⟩
  | c :: r, k, D, l, F, hn, hd => by
    obtain ⟨l', h1, h2⟩ := runD_ok r (k + 2) _ (sing c :: l) (add_ok (k := sing c) k F) (fun e m z => by
      rcases List.mem_cons.mp z with z | z
      · have q : e = c := by
          have := congrArg (fun y : Str => y.cps.toList) z
          simpa [sing] using this
        subst q
        exact (List.nodup_cons.mp hd).1 m
      · exact hn e (List.mem_cons_of_mem _ m) z) (List.nodup_cons.mp hd).2
    exact ⟨l', by rw [h1, List.length_cons, List.length_cons]; omega, h2⟩
end
section
variable {prog : Program} {w : World} {A : Around} {E : Value → Shared → Prop} {s : Shared}
set_option maxHeartbeats 3200000 in
theorem set_txt {x : Str} {t : Tok} {Q : Value → Shared → Prop} (calm : A.handled = none) (asc : x.cps.all (· < 128) = true) (nd : x.cps.toList.Nodup) (sz : x.cps.toList.length < scanBound)
    (fin : ∀ (g : Heap) (k : Nat) (D : SD), g.get? s.heap.objs.size = some (sObj "set" D) → D.1.size = x.cps.toList.length → D.2.2.fits D.1.size = true → (∀ b o, s.heap.get? b = some o → g.get? b = some o) → Q (.ref s.heap.objs.size) { s with heap := g, toks := k }) :
    wpAny (model prog w) A (call (.type "set") [.str x t]) Q E s := by
  obtain ⟨c0, m0, e0⟩ := PySem.F.called_set.mro
  have f1 := PySem.F.called_set.made
  have f2 := PySem.F.called_set.sub
  refine wpAny_call (codeAny_of_tree ?_)
  show wpAny _ _ (callAny (Value.type "set") _) _ _ _
  refine wpAny_pure ⟨Code.quiet_builtin _ (by decide +kernel), codeAny_builtin PySem.F.entry_type_call ?_⟩
  rw [Around.under_plain (weight_type_call_type "set" [.str x t] []) rfl]
  have f3 := PySem.F.called_set.notType
  have f4 := PySem.F.called_set.canCreate
  have f5 := PySem.F.typeCall_set_1 (.str x t)
  repeat (any_goals (first | assumption | wp_step))
  refine codeAny_mono (code_set_new_1 (.str x t) (E := E) (Q₁ := fun ob s2 => ∃ led : Bool, ob = .ref s.heap.objs.size ∧ s2 = { s with heap := s.heap.push (sObj "set" (#[], 0, .fresh 0 0 led)) }) fun led => ⟨led, rfl, rfl⟩) fun rs s2 hrs => ?_
  cases rs with
  | error e => exact hrs
  | ok fl =>
    cases fl with
    | ret ob =>
      obtain ⟨led, rfl, rfl⟩ := hrs
      have g1 : (s.heap.push (sObj "set" (#[], 0, .fresh 0 0 led))).get? s.heap.objs.size = some (sObj "set" (#[], 0, .fresh 0 0 led)) := Heap.get?_push_size _ rfl
      have g2 : Shared.TypeIs { s with heap := s.heap.push (sObj "set" (#[], 0, .fresh 0 0 led)) } (.ref s.heap.objs.size) "set" := ⟨_, g1, rfl⟩
      have g3 := PySem.F.called_set.init.lookup
      have g4 := PySem.F.called_set.init.bind (.ref s.heap.objs.size)
      repeat (any_goals (first | assumption | wp_step))
      refine codeAny_mono (codeAny_call_builtin (R := wants (fun rv s3 => rv = .none ∧ ∃ (g : Heap) (k : Nat) (D : SD), s3 = { s with heap := g, toks := k } ∧ g.get? s.heap.objs.size = some (sObj "set" D) ∧ D.1.size = x.cps.toList.length ∧ D.2.2.fits D.1.size = true ∧ (∀ b o, s.heap.get? b = some o → g.get? b = some o)) E) PySem.F.called_set.init.plain PySem.F.entry_set_init (check_set_init_1 g2 ?_)) fun rs3 s3 hr3 => ?_
      · unfold Builtin.«set.__init__» noKeywords Builtin.Frozenset.updateFrom
        have n1 := PySem.F.sub_str_set
        have n2 := PySem.F.sub_str_frozenset
        have n3 : (Value.type "str" == Value.type "dict") = false := by decide
        generalize hPI : pyIter = PI
        wp_walk
        subst hPI
        refine wpAny_pyIter_ascii asc ?_
        refine wpAny_bind (wpAny_runValue ?_)
        have calm3 : A.in1.in1.handled = none := calm
        have ne : s.heap.objs.size ≠ (s.heap.push (sObj "set" (#[], 0, .fresh 0 0 led))).objs.size := by
          rw [Heap.size_push]
          exact Nat.ne_of_lt (Nat.lt_succ_self _)
        have F0 : TxOk prog w (#[], 0, SetTable.fresh 0 0 led) [] := TxOk.nil rfl
        refine code_update (T := "set") ne calm3 x.cps.toList 0 (#[], 0, .fresh 0 0 led) [] _ rfl (Heap.get?_push_of_some _ g1) (Heap.get?_push_size _ rfl) F0 (fun _ _ z => nomatch z) nd (by simpa using sz) ?_
        obtain ⟨l', q1, q2⟩ := runD_ok (P := prog) (w := w) x.cps.toList s.toks (#[], 0, SetTable.fresh 0 0 led) [] F0 (fun _ _ z => nomatch z) nd
        refine wpAny_pure ?_
        show wpAny _ _ (ret Value.none) _ _ _
        refine wpAny_pure ⟨rfl, _, _, _, rfl, ?_, ?_, q2.fit, fun b o hb => ?_⟩
        · refine Heap.get?_push_of_some _ (Heap.get?_push_of_some _ ?_)
          unfold PySem.Froz.two
          rw [Heap.get?_update_other _ _ ne.symm]
          exact get_upd _ (Heap.get?_push_of_some _ g1) rfl
        · rw [q2.sz, q1]
          simp
        · have b1 : b < s.heap.objs.size := Heap.lt_size hb
          refine Heap.get?_push_of_some _ (Heap.get?_push_of_some _ ?_)
          unfold PySem.Froz.two
          rw [Heap.get?_update_other _ _ (Nat.ne_of_gt (Nat.lt_of_lt_of_eq (Nat.lt_succ_of_lt b1) (Heap.size_push s.heap (sObj "set" (#[], 0, .fresh 0 0 led))).symm)), Heap.get?_update_other _ _ (Nat.ne_of_gt b1)]
          exact Heap.get?_push_of_some _ (Heap.get?_push_of_some _ hb)
      · cases rs3 with
        | error e => exact hr3
        | ok fl3 =>
          cases fl3 with
          | ret rv =>
            obtain ⟨rfl, g, k, D, rfl, z1, z2, z3, z4⟩ := hr3
            repeat (any_goals (first | assumption | wp_step))
            exact fin g _ D z1 z2 z3 z4
          | _ => exact hr3.elim
    | _ => exact hrs.elim
end
section
variable {S : Sg} {X : Cx} {d : Nat} {W : WX} {a : Expr} {A : E} {p p2 q pos : Pos} {σ : St} {H : Hp}
theorem nodupT_ok : ∀ {s : Tx}, nodupT s = true → s.Nodup
  | [], _ => .nil
  | c :: r, e => by
    unfold nodupT at e
    rw [Bool.and_eq_true] at e
    refine List.nodup_cons.mpr ⟨fun m => ?_, nodupT_ok e.2⟩
    have : r.any (Nat.beq c) = true := List.any_eq_true.mpr ⟨c, m, Nat.beq_refl c⟩
    rw [this] at e
    cases e.1
def tLenTxt (ta : TE) : TE := fun σ H Q => ta σ H fun x H1 => ∃ s : Tx, x = .str (toStr s) ∧ s.Nodup ∧ s.all (fun c => Nat.blt c 128) = true ∧ s.length < 1000 ∧ Q (.int s.length) H1
theorem pe_lenTxt {ta : TE} (hc : X.calm = true) (g1 : Gl X "len") (m1 : X.mg "len" = none) (g2 : Gl X "set") (m2 : X.mg "set" = none) (ha : PE X a ta) (na : starEach [a] X.env = (false, eval a X.env) :: starEach [] X.env) :
    PE X (.Call (.Name "len" p) [.Call (.Name "set" p2) [a] [] q] [] pos) (tLenTxt ta) := ⟨fun pins s σ H Q I w => by
  refine Call_ (ld_blt I g1 m1 boot_len (PyProof.Rows.callWith_builtin1 (PyProof.Rows.args_cons ?_ rfl) rfl rfl))
  refine Call_ (ld_blt I g2 m2 boot_set (PyProof.Rows.callWith_type1 (PyProof.Rows.args_cons (thn (ha.run pins s σ H _ I w) fun v s1 ⟨x, H1, I1, r1, q1⟩ => PyProof.Rows.args_nil ?_) na) na rfl))
  obtain ⟨y, rfl, nd, al, ln, q2⟩ := q1
  obtain ⟨t, rfl⟩ : ∃ t, v = Value.str (toStr y) t := r1
  refine set_txt (I1.ok.hd hc) ?_ nd (Nat.lt_of_lt_of_le ln (by unfold scanBound; omega)) fun g k D z1 z2 z3 z4 => PyProof.Rows.args_nil ?_
  · show (toStr y).cps.all (fun c => decide (c < 128)) = true
    rw [← Array.all_toList]
    exact List.all_eq_true.mpr fun c m => decide_eq_true (Nat.blt_eq.mp (List.all_eq_true.mp al c m))
  · have e : D.1.size = y.length := z2
    refine call_len_set z1 ⟨rfl, rfl, rfl⟩ rfl z3 (by rw [e]; omega) ⟨.int y.length, H1, (I1.kept (t' := k) z4).tok _, ⟨_, by rw [e]⟩, q2⟩⟩
theorem ce_lenset (hc : X.calm = true) (g1 : Gl X "len") (m1 : X.mg "len" = none) (g2 : Gl X "set") (m2 : X.mg "set" = none) (ha : CE S X d W a A) (na : starEach [a] X.env = (false, eval a X.env) :: starEach [] X.env) :
    CE S X d W (.Call (.Name "len" p) [.Call (.Name "set" p2) [a] [] q] [] pos) (.lenset A) := (pe_lenTxt hc g1 m1 g2 m2 ha na).imp fun σ H Q ⟨ρ, h, l, r, lr, q⟩ => by
  unfold ev at q
  refine tE_of r lr q fun v h1 ρ1 H1 u r1 e1 hu q1 => ?_
  split at q1
  case h_2 => exact q1.elim
  case h_1 s =>
  split at q1
  case h_2 => exact q1.elim
  case h_1 e =>
  simp only [Bool.and_eq_true] at e
  exact ⟨s, hu.str_inv, nodupT_ok e.1, e.2.1, Nat.blt_eq.mp e.2.2, q1.now r1 _ (.int _)⟩
end
end Ms

set_option Elab.async false
set_option linter.all false
set_option maxRecDepth 100000
/-! Exceptions as objects: made by the machine. -/
namespace Ms
open PySem PySem.Spec L2 Mm
open PyProof.Rows hiding St
def visB (sc : Scope) (x : Str) : Bool := match sc.names.lookup x with
  | some .local => true
  | some .cell => true
  | some .free => true
  | _ => false
/-- the heap behind Base.__init__(self, m) -/
def xH1 (H : Hp) (a C n : Addr) (m : Str) : Hp := upd (upd H n (.tup [.str m])) a (xob a C n none)
def xH2 (H : Hp) (a C n n2 : Addr) (m f : Str) (v : V) : Hp := upd (upd (xH1 H a C n m) n2 (.xd [(f, v)])) a (xob a C n (some n2))
/-- __init__(self, v), which keeps v as f -/
def spX1 (K : PySem.W.Frag) (C : Addr) (b : Bs) (m f : Str) : Sp := fun vs H Q _ => ∃ (a t : Addr) (v : V), vs = [.ref a, v] ∧ XcC K C b ∧ PySem.W.findIn K (.ref C) f = some none ∧ H a = some (xob a C t none) ∧
  ∀ n n2, H n = none → n ≠ a → xH1 H a C n m n2 = none → n2 ≠ a → Q .non (xH2 H a C n n2 m f v)
/-- __init__(self) -/
def spX0 (K : PySem.W.Frag) (C : Addr) (b : Bs) (m : Str) : Sp := fun vs H Q _ => ∃ a t : Addr, vs = [.ref a] ∧ XcC K C b ∧ H a = some (xob a C t none) ∧ ∀ n, H n = none → n ≠ a → Q .non (xH1 H a C n m)
section
variable {P : Program} {w : World} {K : PySem.W.Frag} {mg : Str → Option Value} {base : Heap} {C C0 f : Addr} {b : Bs} {m fn self x B qn nm : Str} {params : Arguments} {scope : Scope} {fd : FuncData} {mc : Value}
theorem vis_of {X : Cx} {y : Str} (e : visB X.env.scope y = true) : Vis X.env.scope y := by
  unfold visB at e
  unfold Vis
  split at e <;> first | exact .inl (by assumption) | exact .inr (.inl (by assumption)) | exact .inr (.inr (by assumption)) | cases e
theorem init1_ok {CX : CXT} {p1 p2 p3 p4 p5 p6 p7 p8 p9 p10 : Pos} {j : Nat} (F : FunD K nm qn params [.Expr (.Call (.Attribute (.Name B p1) "__init__" p2) [.Name self p3, .Constant (.str m) j p4] [] p5) p6, .Assign [.Attribute (.Name self p7) fn p8] (.Name x p9) p10] scope [] [] f fd)
    (S : FnScope [self, x] [self, x] scope) (hB : scope.names.lookup B = some .globalImplicit) (hm : mg B = some (.ref C0)) (BC : BiC K C0 mc b) (hbi : PySem.W.handedIn (.builtin b.ini) = true) (hd : (B == ("__debug__" : Str)) = false) (hline : (p2.endLine == p5.line) = true)
    (v1 : visB scope self = true) (v2 : visB scope x = true) (d1 : (self == ("__debug__" : Str)) = false) (d2 : (self == ("__classdict__" : Str)) = false) (d3 : (x == ("__debug__" : Str)) = false) (d4 : (x == ("__classdict__" : Str)) = false) :
    FnOk P w K mg base CX 1 f fd [self, x] (spX1 K C b m fn) := by
  refine FunD.ok (k := 0) F S (fun vs H Q E q => ?_) fun cdv A outer s H vs Q E hr q => ?_
  · obtain ⟨a, t, v, rfl, _⟩ := q
    rfl
  · obtain ⟨a, t, v, rfl, T, hno, ha, q⟩ := q
    have e1 : PE (cxOf CX P w K mg base [self, x] qn scope f cdv A outer s H E) (.Name self p3) (tVar 0) := pe_var rfl (vis_of v1) d1 d2
    have e2 : PE (cxOf CX P w K mg base [self, x] qn scope f cdv A outer s H E) (.Name self p7) (tVar 0) := pe_var rfl (vis_of v1) d1 d2
    have e3 : PE (cxOf CX P w K mg base [self, x] qn scope f cdv A outer s H E) (.Name x p9) (tVar 1) := pe_var rfl (vis_of v2) d3 d4
    have g : Gl (cxOf CX P w K mg base [self, x] qn scope f cdv A outer s H E) B := hB
    obtain ⟨pl, hc⟩ := meth_eval (a := .Name B p1) (n := "__init__") (apos := p2) (pos := p5) (es := [.Name self p3, .Constant (.str m) j p4]) (env := (cxOf CX P w K mg base [self, x] qn scope f cdv A outer s H E).env) rfl rfl (by simp) hline
    refine ⟨_, pss_cons (ps_expr (pe_xini (pl := pl) g hm BC hbi (pa_cons e1 (pa_cons pe_str pa_nil)) hd hc)) (pss_cons (ps_xset (b := b) e2 e3) pss_nil), ?_⟩
    refine ⟨.ref a, rfl, a, C, t, [.str m], rfl, by simp, T, ha, fun n hn hna => ?_⟩
    refine ⟨v, rfl, .ref a, rfl, a, C, n, rfl, T, hno, upd_same, fun n2 hn2 hn2a => ?_⟩
    exact q n n2 hn hna hn2 hn2a
theorem init0_ok {CX : CXT} {p1 p2 p3 p4 p5 p6 : Pos} {j : Nat} (F : FunD K nm qn params [.Expr (.Call (.Attribute (.Name B p1) "__init__" p2) [.Name self p3, .Constant (.str m) j p4] [] p5) p6] scope [] [] f fd)
    (S : FnScope [self] [self] scope) (hB : scope.names.lookup B = some .globalImplicit) (hm : mg B = some (.ref C0)) (BC : BiC K C0 mc b) (hbi : PySem.W.handedIn (.builtin b.ini) = true) (hd : (B == ("__debug__" : Str)) = false) (hline : (p2.endLine == p5.line) = true)
    (v1 : visB scope self = true) (d1 : (self == ("__debug__" : Str)) = false) (d2 : (self == ("__classdict__" : Str)) = false) :
    FnOk P w K mg base CX 1 f fd [self] (spX0 K C b m) := by
  refine FunD.ok (k := 0) F S (fun vs H Q E q => ?_) fun cdv A outer s H vs Q E hr q => ?_
  · obtain ⟨a, t, rfl, _⟩ := q
    rfl
  · obtain ⟨a, t, rfl, T, ha, q⟩ := q
    have e1 : PE (cxOf CX P w K mg base [self] qn scope f cdv A outer s H E) (.Name self p3) (tVar 0) := pe_var rfl (vis_of v1) d1 d2
    have g : Gl (cxOf CX P w K mg base [self] qn scope f cdv A outer s H E) B := hB
    obtain ⟨pl, hc⟩ := meth_eval (a := .Name B p1) (n := "__init__") (apos := p2) (pos := p5) (es := [.Name self p3, .Constant (.str m) j p4]) (env := (cxOf CX P w K mg base [self] qn scope f cdv A outer s H E).env) rfl rfl (by simp) hline
    refine ⟨_, pss_cons (ps_expr (pe_xini (pl := pl) g hm BC hbi (pa_cons e1 (pa_cons pe_str pa_nil)) hd hc)) pss_nil, ?_⟩
    exact ⟨.ref a, rfl, a, C, t, [.str m], rfl, by simp, T, ha, fun n hn hna => q n hn hna⟩
end
end Ms

set_option Elab.async false
set_option linter.all false
set_option maxRecDepth 100000
/-! Exceptions as objects: C(v), isinstance(e, C). -/
namespace Ms
open PySem PySem.Spec L2 Mm
open PyProof.Rows hiding St
/-- an exception's class that is called -/
structure XkF (S : Sg) (P : Program) (w : World) (K : PySem.W.Frag) (mg : Str → Option Value) (base : Heap) (c : Nat) : Prop where
  ex : ∃ (b : Bs) (m : Tx) (fs : List Nat) (cl : Cl) (fI : Addr) (fd : FuncData) (ps : List Str), S.T.cls[c]? = some cl ∧ cl.exc = some (m, fs) ∧ XcC K (S.cadr c) b ∧ XF S K c ∧
    PySem.W.findIn K (.ref (S.cadr c)) "__init__" = some (some (.ref fI)) ∧ PySem.W.typeIn K (.ref fI) = some (.type "function") ∧ Binds K fd ps [] ∧
    ((fs = [] ∧ FnOk P w K mg base (L2.CX P w) 1 fI fd ps (spX0 K (S.cadr c) b (toStr m))) ∨
      ∃ f, fs = [f] ∧ f ∈ S.flds ∧ FnOk P w K mg base (L2.CX P w) 1 fI fd ps (spX1 K (S.cadr c) b (toStr m) (S.nm f)))
section
variable {S : Sg} {X : Cx} {d : Nat} {W : WX} {a b c : Expr} {A B C : E} {es : List Expr} {Es : E} {pos p apos : Pos} {ρ : List Addr} {h : AH} {H : Hp} {l : Lo} {σ : L2.St} {K : PySem.W.Frag}
theorem upd_upd {H : Hp} {q : Addr} {o u : HO} : upd (upd H q o) q u = upd H q u := by
  funext z
  unfold upd
  split <;> rfl
theorem upd_swap {H : Hp} {q r : Addr} {o u : HO} (n : q ≠ r) : upd (upd H q o) r u = upd (upd H r u) q o := by
  funext z
  unfold upd
  by_cases e1 : z = q
  · subst e1
    rw [if_neg n, if_pos rfl, if_pos rfl]
  · rw [if_neg e1, if_neg e1]
theorem mkX_one {C : List Cl} {c : Nat} {cl : Cl} {m : Tx} {f : Nat} (e1 : C[c]? = some cl) (e2 : cl.exc = some (m, [f])) {as : List AV} {x : AX} (e : mkX C c as = some x) : ∃ v, as = [v] ∧ x = ⟨c, m, [(f, v)]⟩ := by
  unfold mkX at e
  rw [e1] at e
  dsimp only at e
  rw [e2] at e
  dsimp only at e
  split at e
  · cases e; exact ⟨_, rfl, rfl⟩
  · cases e
theorem mkX_no {C : List Cl} {c : Nat} {cl : Cl} {m : Tx} (e1 : C[c]? = some cl) (e2 : cl.exc = some (m, [])) {as : List AV} {x : AX} (e : mkX C c as = some x) : as = [] ∧ x = ⟨c, m, []⟩ := by
  unfold mkX at e
  rw [e1] at e
  dsimp only at e
  rw [e2] at e
  dsimp only at e
  split at e
  · cases e; exact ⟨rfl, rfl⟩
  · cases e
/-- what the machine makes, with its field -/
theorem made1 {Q : VK} {e : AX → List Addr → Hp → Prop} {cI : Nat} {m : Tx} {f : Nat} {v : AV} {u : V} (xf : XF S X.K cI) (hf : f ∈ S.flds) (r : HR S X.K ρ h H) (hv : VR S X.K ρ H v u)
    (q : Ans S X.K ρ H (.ok (.ref (h.length + 1)) (h ++ [.xdo [(f, v)]] ++ [.exc ⟨cI, m, [(f, v)]⟩ (some h.length)])) (kAv S X.K Q) e) {p t n n2 : Addr} (hp : H p = none) (ht : H t = none) (htp : t ≠ p)
    (hn : upd (upd H t (.tup [u])) p (xob p (S.cadr cI) t none) n = none) (hnp : n ≠ p) (hn2 : xH1 (upd (upd H t (.tup [u])) p (xob p (S.cadr cI) t none)) p (S.cadr cI) n (toStr m) n2 = none) (hn2p : n2 ≠ p) :
    Q (.ref p) (xH2 (upd (upd H t (.tup [u])) p (xob p (S.cadr cI) t none)) p (S.cadr cI) n n2 (toStr m) (S.nm f) u) := by
  rw [upd_ne hnp] at hn
  have hnt : n ≠ t := fun z => by rw [z, upd_same] at hn; cases hn
  rw [upd_ne hnt] at hn
  unfold xH1 at hn2
  rw [upd_ne hn2p] at hn2
  have h2n : n2 ≠ n := fun z => by rw [z, upd_same] at hn2; cases hn2
  rw [upd_ne h2n, upd_ne hn2p] at hn2
  have h2t : n2 ≠ t := fun z => by rw [z, upd_same] at hn2; cases hn2
  rw [upd_ne h2t] at hn2
  have shape : xH2 (upd (upd H t (.tup [u])) p (xob p (S.cadr cI) t none)) p (S.cadr cI) n n2 (toStr m) (S.nm f) u = upd (upd (upd (upd H t (.tup [u])) n (.tup [.str (toStr m)])) n2 (.xd [(S.nm f, u)])) p (xob p (S.cadr cI) n (some n2)) := by
    unfold xH2 xH1
    rw [upd_swap (q := p) (r := n) (Ne.symm hnp), upd_upd, upd_swap (q := p) (r := n2) (Ne.symm hn2p), upd_upd]
  rw [shape]
  obtain ⟨r1, x1⟩ := r.side (u := .tup [u]) ht
  have n1 : upd H t (.tup [u]) n = none := by rw [upd_ne hnt]; exact hn
  obtain ⟨r2, x2⟩ := r1.side (u := .tup [.str (toStr m)]) n1
  have n3 : upd (upd H t (.tup [u])) n (.tup [.str (toStr m)]) n2 = none := by rw [upd_ne h2n, upd_ne h2t]; exact hn2
  have hv2 := ((hv.mono r x1).mono r1 x2)
  have e3 : Ext ρ (upd (upd H t (.tup [u])) n (.tup [.str (toStr m)])) (ρ ++ [n2]) (upd (upd (upd H t (.tup [u])) n (.tup [.str (toStr m)])) n2 (.xd [(S.nm f, u)])) := by
    refine ⟨⟨_, rfl⟩, fun b o hb _ => ?_, fun b hb hnb => ?_⟩
    · rw [upd_ne (ne_of_none hb n3)]; exact hb
    · rcases List.mem_append.mp hb with z | z
      · exact absurd z hnb
      · rw [List.mem_singleton.mp z]; exact n3
  obtain ⟨r3, x3⟩ := r2.push (o := .xdo [(f, v)]) (u := .xd [(S.nm f, u)]) n3 ⟨fun z mz => by rw [List.mem_singleton.mp mz]; exact hf, _, upd_same, .cons (hv2.mono r2 e3) .nil⟩
  have n4 : upd (upd (upd H t (.tup [u])) n (.tup [.str (toStr m)])) n2 (.xd [(S.nm f, u)]) p = none := by rw [upd_ne (Ne.symm hn2p), upd_ne (Ne.symm hnp), upd_ne (Ne.symm htp)]; exact hp
  have tup4 : SqT X.K (upd (upd (upd (upd H t (.tup [u])) n (.tup [.str (toStr m)])) n2 (.xd [(S.nm f, u)])) p (xob p (S.cadr cI) n (some n2))) n [.str (toStr m)] := by
    refine .inl (.inl ?_)
    rw [upd_ne hnp, upd_ne (Ne.symm h2n), upd_same]
  have at4 : ((ρ ++ [n2]) ++ [p])[h.length]? = some n2 := by
    rw [← r.len]
    simp
  obtain ⟨r4, x4⟩ := r3.push (o := .exc ⟨cI, m, [(f, v)]⟩ (some h.length)) (u := xob p (S.cadr cI) n (some n2)) n4 ⟨xf, n, some n2, upd_same, tup4, .inr ⟨h.length, n2, rfl, rfl, at4⟩⟩
  refine q _ _ r4 (((x1.trans x2).trans x3).trans x4) _ (.ref ?_)
  rw [← r.len]
  simp
theorem made0 {Q : VK} {e : AX → List Addr → Hp → Prop} {cI : Nat} {m : Tx} (xf : XF S X.K cI) (r : HR S X.K ρ h H)
    (q : Ans S X.K ρ H (.ok (.ref h.length) (h ++ [.exc ⟨cI, m, []⟩ none])) (kAv S X.K Q) e) {p t n : Addr} (hp : H p = none) (ht : H t = none) (htp : t ≠ p)
    (hn : upd (upd H t (.tup [])) p (xob p (S.cadr cI) t none) n = none) (hnp : n ≠ p) :
    Q (.ref p) (xH1 (upd (upd H t (.tup [])) p (xob p (S.cadr cI) t none)) p (S.cadr cI) n (toStr m)) := by
  rw [upd_ne hnp] at hn
  have hnt : n ≠ t := fun z => by rw [z, upd_same] at hn; cases hn
  rw [upd_ne hnt] at hn
  have shape : xH1 (upd (upd H t (.tup [])) p (xob p (S.cadr cI) t none)) p (S.cadr cI) n (toStr m) = upd (upd (upd H t (.tup [])) n (.tup [.str (toStr m)])) p (xob p (S.cadr cI) n none) := by
    unfold xH1
    rw [upd_swap (q := p) (r := n) (Ne.symm hnp), upd_upd]
  rw [shape]
  obtain ⟨r1, x1⟩ := r.side (u := .tup []) ht
  have n1 : upd H t (.tup []) n = none := by rw [upd_ne hnt]; exact hn
  obtain ⟨r2, x2⟩ := r1.side (u := .tup [.str (toStr m)]) n1
  have n4 : upd (upd H t (.tup [])) n (.tup [.str (toStr m)]) p = none := by rw [upd_ne (Ne.symm hnp), upd_ne (Ne.symm htp)]; exact hp
  have tup4 : SqT X.K (upd (upd (upd H t (.tup [])) n (.tup [.str (toStr m)])) p (xob p (S.cadr cI) n none)) n [.str (toStr m)] := by
    refine .inl (.inl ?_)
    rw [upd_ne hnp, upd_same]
  obtain ⟨r4, x4⟩ := r2.push (o := .exc ⟨cI, m, []⟩ none) (u := xob p (S.cadr cI) n none) n4 ⟨xf, n, none, upd_same, tup4, .inl ⟨rfl, rfl⟩⟩
  refine q _ _ r4 ((x1.trans x2).trans x4) _ (.ref ?_)
  rw [← r.len]
  simp
theorem no_pass {X : Cx} {W : WX} (tk : Takes X W) : Passes (L2.CX X.prog X.w) X (fun _ _ _ => False) := fun pins σ H s e s' I ⟨_, _, _, _, _, _, _, _, _, _, _, _, z⟩ => z.elim
theorem ce_newx {cI : Nat} {n : Str} (xk : Xk S d W X) (F : XkF S X.prog X.w X.K X.mg X.base cI) (hg : Gl X n) (hm : X.mg n = some (.ref (S.cadr cI))) (hdb : (n == ("__debug__" : Str)) = false) (ha : CA S X d W (a :: es) Es)
    (he : starEach (a :: es) X.env = (false, eval a X.env) :: starEach es X.env) (hpl : (backTo pos (starEach es X.env)).any (·.1) = false) : CE S X d W (.Call (.Name n p) (a :: es) [] pos) (.newx cI Es) := by
  obtain ⟨b, m, fs, cl, fI, fd, ps, e1, e2, T, xf, iC, tI, bd, ok⟩ := F.ex
  have rm : Room 2 X.A := xk.room.mono (by omega)
  rcases ok with ⟨rfl, F0⟩ | ⟨f, rfl, hf, F1⟩
  · refine (pe_xmk T iC tI F0 rm bd (no_pass xk.takes) hg hm ha hdb he hpl).imp fun σ H Q ⟨ρ, h, l, r, lr, q⟩ => ?_
    unfold ev at q
    refine tA_of r lr q fun w h2 ρ2 H2 u2 r2 x2 hu2 q2 => ?_
    split at q2
    case h_2 => exact q2.elim
    case h_1 x ex =>
    obtain ⟨rfl, rfl⟩ := mkX_no e1 e2 ex
    obtain rfl : u2 = [] := by cases hu2; rfl
    exact ⟨by decide, fun p t hp ht htp => ⟨p, t, rfl, T, upd_same, fun n hn hnp => ⟨rfl, made0 xf r2 q2 hp ht htp hn hnp⟩⟩⟩
  · refine (pe_xmk T iC tI F1 rm bd (no_pass xk.takes) hg hm ha hdb he hpl).imp fun σ H Q ⟨ρ, h, l, r, lr, q⟩ => ?_
    unfold ev at q
    refine tA_of r lr q fun w h2 ρ2 H2 u2 r2 x2 hu2 q2 => ?_
    split at q2
    case h_2 => exact q2.elim
    case h_1 x ex =>
    obtain ⟨v, rfl, rfl⟩ := mkX_one e1 e2 ex
    obtain ⟨u, rfl, hu⟩ := hu2.one
    exact ⟨by simp, fun p t hp ht htp => ⟨p, t, u, rfl, T, xf.no f hf, upd_same, fun n n2 hn hnp hn2 hn2p => ⟨rfl, made1 xf hf r2 hu q2 hp ht htp hn hnp hn2 hn2p⟩⟩⟩
theorem ce_newx0 {cI : Nat} {n : Str} (xk : Xk S d W X) (F : XkF S X.prog X.w X.K X.mg X.base cI) (hg : Gl X n) (hm : X.mg n = some (.ref (S.cadr cI))) (hdb : (n == ("__debug__" : Str)) = false) : CE S X d W (.Call (.Name n p) [] [] pos) (.newx cI .nil) := by
  obtain ⟨b, m, fs, cl, fI, fd, ps, e1, e2, T, xf, iC, tI, bd, ok⟩ := F.ex
  have rm : Room 2 X.A := xk.room.mono (by omega)
  rcases ok with ⟨rfl, F0⟩ | ⟨f, rfl, hf, F1⟩
  · refine (pe_xmk0 T iC tI F0 rm bd (no_pass xk.takes) hg hm hdb).imp fun σ H Q ⟨ρ, h, l, r, lr, q⟩ => ?_
    unfold ev evs at q
    have q2 : Ans S X.K ρ H (match mkX S.T.cls cI [] with
      | some x => (match x.fs with
        | [] => newO (.exc x none) h
        | _ => .ok (.ref (h.length + 1)) (h ++ [.xdo x.fs] ++ [.exc x (some h.length)]))
      | none => .bad) (kAv S X.K Q) (eW S X.K W σ) := q
    split at q2
    case h_2 => exact q2.elim
    case h_1 x ex =>
    obtain ⟨_, rfl⟩ := mkX_no e1 e2 ex
    exact ⟨by decide, fun p t hp ht htp => ⟨p, t, rfl, T, upd_same, fun n hn hnp => ⟨rfl, made0 xf r q2 hp ht htp hn hnp⟩⟩⟩
  · refine (pe_xmk0 T iC tI F1 rm bd (no_pass xk.takes) hg hm hdb).imp fun σ H Q ⟨ρ, h, l, r, lr, q⟩ => ?_
    unfold ev evs at q
    have q2 : Ans S X.K ρ H (match mkX S.T.cls cI [] with
      | some x => (match x.fs with
        | [] => newO (.exc x none) h
        | _ => .ok (.ref (h.length + 1)) (h ++ [.xdo x.fs] ++ [.exc x (some h.length)]))
      | none => .bad) (kAv S X.K Q) (eW S X.K W σ) := q
    split at q2
    case h_2 => exact q2.elim
    case h_1 x ex =>
    obtain ⟨v, z, _⟩ := mkX_one e1 e2 ex
    cases z
end
end Ms

set_option Elab.async false
set_option linter.all false
set_option maxRecDepth 100000
/-! Exceptions as objects: isinstance(e, C). -/
namespace Ms
open PySem PySem.Spec L2 Mm
open PyProof.Rows hiding St
/-- what stands as the second of isinstance, and what it answers of an exception's class -/
def KitX (S : Sg) (K : PySem.W.Frag) (t : Ty) (cv : Value) : Prop := ∀ c cl, S.T.cls[c]? = some cl → cl.exc.isSome = true → PySem.W.kitOne K (.ref (S.cadr c)) cv = isxA S.T.cls ⟨c, [], []⟩ t
section
variable {S : Sg} {X : Cx} {d : Nat} {W : WX} {a b c : Expr} {A B C : E} {es : List Expr} {Es : E} {pos p apos : Pos} {ρ : List Addr} {h : AH} {H : Hp} {l : Lo} {σ : L2.St} {K : PySem.W.Frag}
theorem ce_isx {t : Ty} {n : Str} {p2 : Pos} {v : V} {cv : Value} (k : KitX S X.K t cv) (hv : ∀ u, RelV v u → u = cv) (pn : PE X (.Name n p2) (tC v)) (hg : Gl X "isinstance") (hm : X.mg "isinstance" = none)
    (ha : CE S X d W a A) (he : starEach [a, .Name n p2] X.env = (false, eval a X.env) :: starEach [.Name n p2] X.env) (he2 : starEach [.Name n p2] X.env = (false, eval (.Name n p2) X.env) :: starEach [] X.env) (hpl : (backTo pos (starEach [.Name n p2] X.env)).any (·.1) = false) :
    CE S X d W (.Call (.Name "isinstance" p) [a, .Name n p2] [] pos) (.isx A t) :=
  (pe_callB call_xis hg hm (by decide +kernel) (pa_cons ha (pa_cons pn pa_nil he2) he) (by decide) (by decide) he hpl).imp fun σ H Q ⟨ρ, h, l, r, lr, q⟩ => by
    unfold ev at q
    refine tE_of r lr q fun w h1 ρ1 H1 u r1 e1 hu q1 => ?_
    cases w with
    | ref i =>
      obtain ⟨q, rfl, eq⟩ := hu.ref_inv
      have fin : ∀ (x : AX) (j : Option Nat), h1[i]? = some (.exc x j) → (∀ z, j = some z → ∃ fs, h1[z]? = some (.xdo fs)) → Ans S X.K ρ1 H1 (bO (isxA S.T.cls x t) h1) (kAv S X.K Q) (eW S X.K W σ) → rXis X.K [.ref q, v] H1 Q := by
        intro x j z hj q1
        obtain ⟨xf, t2, dd, hp, hs, hd⟩ := r1.at_ i q _ eq z
        have d2 : dd = none ∨ ∃ dx fs, dd = some dx ∧ H1 dx = some (.xd fs) := by
          rcases hd with ⟨_, z⟩ | ⟨i2, dx, z1, z2, z3⟩
          · exact .inl z
          · obtain ⟨fs, e4⟩ := hj i2 z1
            obtain ⟨_, qs, e5, _⟩ := r1.at_ i2 dx _ z3 e4
            exact .inr ⟨dx, qs, z2, e5⟩
        cases ec : S.T.cls[x.cls]? with
        | none =>
          have : isxA S.T.cls x t = none := by unfold isxA; rw [ec]
          rw [this] at q1
          exact q1.elim
        | some cl =>
        cases ex : cl.exc.isSome with
        | false =>
          have : isxA S.T.cls x t = none := by unfold isxA; rw [ec]; dsimp only; rw [ex]
          rw [this] at q1
          exact q1.elim
        | true =>
        have kk := k x.cls cl ec ex
        have same : isxA S.T.cls ⟨x.cls, [], []⟩ t = isxA S.T.cls x t := rfl
        rw [same] at kk
        cases eb : isxA S.T.cls x t with
        | none => rw [eb] at q1; exact q1.elim
        | some b =>
          rw [eb] at q1 kk
          exact ⟨q, _, _, dd, v, cv, b, rfl, ⟨t2, xf.xl, hp, hs⟩, d2, hv, kk, q1.now r1 _ (.bl b)⟩
      dsimp only at q1
      split at q1
      case h_1 x z => exact fin x none z (fun _ z => nomatch z) q1
      case h_2 x j z =>
        split at q1
        case h_1 fs z2 => exact fin x (some j) z (fun _ z => by cases z; exact ⟨fs, z2⟩) q1
        case h_2 => exact q1.elim
      case h_3 => exact q1.elim
    | _ => exact q1.elim
end
end Ms

set_option Elab.async false
set_option linter.all false
set_option maxRecDepth 100000
/-! zip of two lists. -/
namespace Ms
open PySem PySem.Spec L2 Mm
open PyProof.Rows hiding St
section
variable {S : Sg} {X : Cx} {d : Nat} {W : WX} {a b c tg : Expr} {A B C : E} {es : List Expr} {Es : E} {pos p apos : Pos} {ρ ρ1 : List Addr} {h h1 : AH} {H H1 : Hp} {l : Lo} {σ : L2.St} {K : PySem.W.Frag}
theorem src_zip {i0 j0 : Nat} {t u : Addr} (r : HR S K ρ1 h1 H1) (ep : ρ1[i0]? = some t) (eq : ρ1[j0]? = some u) : SrcR S K ρ1 H1 (.zip i0 j0) (Itz K t u) where
  stop i ρ h H r2 x e := by
    have ep2 := x.get ep
    have eq2 := x.get eq
    unfold itemA at e
    dsimp only at e
    split at e
    case h_2 => cases e
    case h_1 xs ys z1 z2 =>
    obtain ⟨vs, hp, vx⟩ := r2.lst ep2 z1
    obtain ⟨ws, hq, wx⟩ := r2.lst eq2 z2
    split at e
    case h_2 => cases e
    case h_1 same =>
    have same := Nat.eq_of_beq_eq_true same
    refine ⟨vs, ws, SqL.of hp, SqL.of hq, .inl ?_⟩
    rw [← vx.length]
    rcases Nat.lt_or_ge i xs.length with hlt | hge
    · have ex : xs[i]? = some xs[i] := List.getElem?_eq_getElem hlt
      have ey : ys[i]? = some (ys[i]'(by omega)) := List.getElem?_eq_getElem (by omega)
      rw [ex, ey] at e
      cases e
    · exact hge
  go i ρ h H v r2 x e := by
    have ep2 := x.get ep
    have eq2 := x.get eq
    unfold itemA at e
    dsimp only at e
    split at e
    case h_2 => cases e
    case h_1 xs ys z1 z2 =>
    obtain ⟨vs, hp, vx⟩ := r2.lst ep2 z1
    obtain ⟨ws, hq, wx⟩ := r2.lst eq2 z2
    split at e
    case h_2 => cases e
    case h_1 same =>
    have e := Option.some.inj e
    split at e
    case h_2 => cases e
    case h_1 y1 y2 e1 e2 =>
    cases e
    obtain ⟨u1, g1, g2⟩ := vx.get e1
    obtain ⟨u2, k1, k2⟩ := wx.get e2
    refine ⟨⟨vs, ws, u1, u2, SqL.of hp, SqL.of hq, g1, k1⟩, fun y H' w => ?_⟩
    obtain ⟨T, a1, a2, rfl, hT, rfl, f1, f2⟩ := w
    have w1 := f1 vs (SqL.of hp)
    rw [g1] at w1
    cases w1
    have w2 := f2 ws (SqL.of hq)
    rw [k1] at w2
    cases w2
    exact tup_new r2 (.cons g2 (.cons k2 .nil)) hT
theorem ci_zip {elts : List Expr} {kk : Nat} {tpos : Pos} (hg : Gl X "zip") (hm : X.mg "zip" = none) (ha : CE S X d W a A) (hb : CE S X d W b B) (hs : starEach [a, b] X.env = (false, eval a X.env) :: starEach [b] X.env) (hs2 : starEach [b] X.env = [(false, eval b X.env)])
    (hpl : (backTo pos (starEach [b] X.env)).any (·.1) = false) : CI S X d W (.Tuple elts kk tpos) (.Call (.Name "zip" p) [a, b] [] pos) .zip (.cons A (.cons B .nil)) :=
  (RZ.pi_zipA hg hm (ca_cons ha (ca_cons hb ca_nil hs2) (by rw [hs, hs2])) hs hpl).imp fun σ H R ⟨ρ, h, l, r, lr, q⟩ => by
    refine ⟨ρ, h, l, r, lr, q.imp (fun w h2 ρ2 H2 r2 e2 q2 u2 hu2 => ?_) fun _ _ _ z => z⟩
    obtain ⟨src, es, q3⟩ := q2
    change srcZip w h2 = some src at es
    unfold srcZip at es
    split at es
    case h_2 => cases es
    case h_1 i j =>
    split at es
    case h_2 => cases es
    case h_1 xs ys z1 z2 =>
    cases es
    cases hu2 with
    | cons x1 hu3 => cases hu3 with
      | cons x2 hu4 =>
        cases hu4
        obtain ⟨p1, rfl, e1⟩ := x1.ref_inv
        obtain ⟨p2, rfl, e3⟩ := x2.ref_inv
        obtain ⟨vs, hp, vx⟩ := r2.lst e1 z1
        obtain ⟨ws, hq, wx⟩ := r2.lst e3 z2
        exact ⟨p1, p2, vs, ws, rfl, .inl ⟨SqL.of hp, SqL.of hq, q3 _ (src_zip r2 e1 e3)⟩⟩
end
end Ms

set_option Elab.async false
set_option linter.all false
set_option maxRecDepth 100000
/-! a, b = x, y -/
namespace Ms
open PySem PySem.Spec L2 Mm
open PyProof.Rows hiding St
section
variable {S : Sg} {X : Cx} {d : Nat} {W : WX} {a b c : Expr} {es : List Expr} {Es : E} {pos : Pos} {cx : Option AX} {ρ : List Addr} {h : AH} {H : Hp} {l : Lo} {σ : St}
/-- two or three names on one line, a display of as many -/
def parB (ns : List (Str × Pos)) (vs : List Expr) (l : Nat) : Bool := (ns.all fun p => Nat.beq p.2.line l) && (vs.all noStar && (!(vs.all (foldedForSure 8)) && !(vs.all (constantsAlone 8))))
theorem nst {a : Expr} : noStar a = true → (match a with | .Starred .. => true | _ => false) = false := by intro h; cases a <;> first | rfl | cases h
theorem npos {x : Str} {p : Pos} : (Expr.Name x p).pos.line = p.line := rfl
theorem sst_par2 {x y : Str} {px py pt pt2 : Pos} {kt k2 : Nat} (hk : X.env.scope.kind = .function) (hx : X.env.scope.names.lookup x = some .local) (hy : X.env.scope.names.lookup y = some .local) (hxy : (x == y) = false) (h : parB [(x, px), (y, py)] [a, b] px.line = true) :
    swappedStores [.Tuple [.Name x px, .Name y py] kt pt] (.Tuple [a, b] k2 pt2) X.env = pure (some [x, y]) := by
  unfold parB at h
  simp only [Bool.and_eq_true, List.all_cons, List.all_nil, Bool.not_eq_true', Nat.beq_eq_true_eq] at h
  obtain ⟨⟨h1, h2, _⟩, ⟨h3, h4, _⟩, h5, h6⟩ := h
  have kx : X.env.kindOf x = some .local := hx
  have ky : X.env.kindOf y = some .local := hy
  have hb : X.env.blockKind = .function := by unfold Env.blockKind; rw [hk]; rfl
  have n3 := nst h3
  have n4 := nst h4
  have e2 : py.line = px.line := Nat.eq_of_beq_eq_true h2
  have hyx : (y == x) = false := by
    rw [beq_eq_false_iff_ne] at hxy ⊢
    exact fun z => hxy z.symm
  unfold swappedStores
  dsimp only
  simp [hb, List.length_cons, List.length_nil, List.any_cons, List.any_nil, n3, n4, List.filterMap, kx, ky, h5, h6, npos, e2, beq_self_eq_true, Bool.and_self, if_true, List.eraseDups_cons, List.filter_cons, hyx, List.eraseDups_nil, List.filter_nil]
  rw [if_neg, if_neg, if_neg]
  · rintro ⟨z1, z2⟩; rw [z1, z2] at h6; cases h6
  · rintro ⟨z1, z2⟩; rw [z1, z2] at h5; cases h5
  · rintro (z | z)
    · exact Bool.noConfusion (z.symm.trans n3)
    · exact Bool.noConfusion (z.symm.trans n4)
theorem sst_par3 {x y z : Str} {px py pz pt pt2 : Pos} {kt k2 : Nat} (hk : X.env.scope.kind = .function) (hx : X.env.scope.names.lookup x = some .local) (hy : X.env.scope.names.lookup y = some .local) (hz : X.env.scope.names.lookup z = some .local) (hxy : (x == y) = false) (hxz : (x == z) = false) (hyz : (y == z) = false) (h : parB [(x, px), (y, py), (z, pz)] [a, b, c] px.line = true) :
    swappedStores [.Tuple [.Name x px, .Name y py, .Name z pz] kt pt] (.Tuple [a, b, c] k2 pt2) X.env = pure (some [x, y, z]) := by
  unfold parB at h
  simp only [Bool.and_eq_true, List.all_cons, List.all_nil, Bool.not_eq_true', Nat.beq_eq_true_eq] at h
  obtain ⟨⟨h1, h2, h2', _⟩, ⟨h3, h4, h4', _⟩, h5, h6⟩ := h
  have kx : X.env.kindOf x = some .local := hx
  have ky : X.env.kindOf y = some .local := hy
  have kz : X.env.kindOf z = some .local := hz
  have hb : X.env.blockKind = .function := by unfold Env.blockKind; rw [hk]; rfl
  have n3 := nst h3
  have n4 := nst h4
  have n5 := nst h4'
  have e2 : py.line = px.line := Nat.eq_of_beq_eq_true h2
  have e3 : pz.line = px.line := Nat.eq_of_beq_eq_true h2'
  have sy : ∀ {x y : Str}, (x == y) = false → (y == x) = false := fun {x y} hxy => by
    rw [beq_eq_false_iff_ne] at hxy ⊢
    exact fun z => hxy z.symm
  unfold swappedStores
  dsimp only
  simp [hb, List.length_cons, List.length_nil, List.any_cons, List.any_nil, n3, n4, n5, List.filterMap, kx, ky, kz, h5, h6, npos, e2, e3, beq_self_eq_true, Bool.and_self, if_true, List.eraseDups_cons, List.filter_cons, sy hxy, sy hxz, sy hyz, List.eraseDups_nil, List.filter_nil, Bool.not_false, if_false]
  rw [if_neg, if_neg, if_neg]
  · rintro ⟨z1, z2, z3⟩; rw [z1, z2, z3] at h6; cases h6
  · rintro ⟨z1, z2, z3⟩; rw [z1, z2, z3] at h5; cases h5
  · rintro (z | z | z)
    · exact Bool.noConfusion (z.symm.trans n3)
    · exact Bool.noConfusion (z.symm.trans n4)
    · exact Bool.noConfusion (z.symm.trans n5)
theorem ne_ix {xs : List Str} {i j : Nat} {x y : Str} (n : xs.Nodup) (hi : xs[i]? = some x) (hj : xs[j]? = some y) (hxy : (x == y) = false) : i ≠ j := fun e => by
  subst e
  rw [hi] at hj
  cases hj
  simp at hxy
theorem sws_tup {ts es : List Expr} {k k2 l : Nat} {p p2 : Pos} : swapsWithSole [.Tuple ts k p] (.Tuple es k2 p2) l X.env = pure false := sws_none rfl
/-- what a display of values put to names is -/
theorem st_par {t : Mm.T} {Es : E} {T : Tb} {G : Ca} {l : Lo} {h : AH} : Mm.st T G (.asg t (.tup Es)) cx l h = onR (evs T G Es l h) l fun xs h => (match okL xs with
    | true => (match Mm.setT t (AV.tup xs) l h with
      | some l => .nx l h
      | none => .bad)
    | false => .bad) := by
  unfold Mm.st ev
  cases evs T G Es l h with
  | ok v h1 =>
    show onR (match okL v with
      | true => (Rs.ok (AV.tup v) h1 : Rs AV)
      | false => .bad) l _ = _
    dsimp only [onR, Rs.bind]
    cases okL v <;> rfl
  | ex x h1 => rfl
  | bad => rfl
theorem par_in2 {i j : Nat} {xs : List AV} {l l2 : Lo} {h : AH} (e : setT (.tp (.cons (.nm i) (.cons (.nm j) .nil))) (.tup xs) l h = some l2) : ∃ x y, xs = [x, y] ∧ l2 = (l.set i (some x)).set j (some y) := by
  match xs, e with
  | [x, y], e => exact ⟨x, y, rfl, (Option.some.inj e).symm⟩
theorem par_in3 {i j k : Nat} {xs : List AV} {l l2 : Lo} {h : AH} (e : setT (.tp (.cons (.nm i) (.cons (.nm j) (.cons (.nm k) .nil)))) (.tup xs) l h = some l2) : ∃ x y z, xs = [x, y, z] ∧ l2 = ((l.set i (some x)).set j (some y)).set k (some z) := by
  match xs, e with
  | [x, y, z], e => exact ⟨x, y, z, rfl, (Option.some.inj e).symm⟩
theorem cs_par2 {x y : Str} {i j : Nat} {px py pt pt2 : Pos} {kt k2 : Nat} (xk : Xk S d W X) (hk : X.env.scope.kind = .function) (hi : X.N[i]? = some x) (hj : X.N[j]? = some y) (hx : X.env.scope.names.lookup x = some .local) (hy : X.env.scope.names.lookup y = some .local) (hxy : (x == y) = false) (hb : parB [(x, px), (y, py)] [a, b] px.line = true)
    (ha : CA S X d W [a, b] Es) : CS S X d W cx (.Assign [.Tuple [.Name x px, .Name y py] kt pt] (.Tuple [a, b] k2 pt2) pos) (.asg (.tp (.cons (.nm i) (.cons (.nm j) .nil))) (.tup Es)) :=
  (ps_par xk.calm xk.nd hi hj (ne_ix xk.nd hi hj hxy) hx hy ha (sst_par2 hk hx hy hxy hb) sws_tup).imp fun D σ H ⟨ρ, h, l, r, lr, q⟩ => by
    rw [st_par] at q
    refine onRs_of r lr q fun xs h1 ρ1 H1 us r1 e1 hu q1 => ?_
    split at q1
    case h_2 => exact q1.elim
    case h_1 =>
    split at q1
    case h_2 => exact q1.elim
    case h_1 l2 e2 =>
    obtain ⟨v, w, rfl, rfl⟩ := par_in2 e2
    cases hu with
    | cons a1 r1' =>
    cases r1' with
    | cons a2 r2' =>
    cases r2'
    exact ⟨_, _, rfl, q1.now r1 (((lr.mono r e1).set a1 i).set a2 j)⟩
theorem cs_par3 {x y z : Str} {i j k : Nat} {px py pz pt pt2 : Pos} {kt k2 : Nat} (xk : Xk S d W X) (hk : X.env.scope.kind = .function) (hi : X.N[i]? = some x) (hj : X.N[j]? = some y) (hl : X.N[k]? = some z) (hx : X.env.scope.names.lookup x = some .local) (hy : X.env.scope.names.lookup y = some .local) (hz : X.env.scope.names.lookup z = some .local) (hxy : (x == y) = false) (hxz : (x == z) = false) (hyz : (y == z) = false) (hb : parB [(x, px), (y, py), (z, pz)] [a, b, c] px.line = true)
    (ha : CA S X d W [a, b, c] Es) : CS S X d W cx (.Assign [.Tuple [.Name x px, .Name y py, .Name z pz] kt pt] (.Tuple [a, b, c] k2 pt2) pos) (.asg (.tp (.cons (.nm i) (.cons (.nm j) (.cons (.nm k) .nil)))) (.tup Es)) :=
  (ps_par3 xk.calm xk.nd hi hj hl (ne_ix xk.nd hi hj hxy) (ne_ix xk.nd hi hl hxz) (ne_ix xk.nd hj hl hyz) hx hy hz ha (sst_par3 hk hx hy hz hxy hxz hyz hb) sws_tup).imp fun D σ H ⟨ρ, h, l, r, lr, q⟩ => by
    rw [st_par] at q
    refine onRs_of r lr q fun xs h1 ρ1 H1 us r1 e1 hu q1 => ?_
    split at q1
    case h_2 => exact q1.elim
    case h_1 =>
    split at q1
    case h_2 => exact q1.elim
    case h_1 l2 e2 =>
    obtain ⟨v, w, u, rfl, rfl⟩ := par_in3 e2
    cases hu with
    | cons a1 r1' =>
    cases r1' with
    | cons a2 r2' =>
    cases r2' with
    | cons a3 r3' =>
    cases r3'
    exact ⟨_, _, _, rfl, q1.now r1 ((((lr.mono r e1).set a1 i).set a2 j).set a3 k)⟩
end
end Ms

set_option Elab.async false
set_option linter.all false
set_option maxRecDepth 100000
/-! From the text's trees to the machine's: total; what is not known becomes what is never come to. -/
namespace Ms
open PySem PySem.Spec L2 Mm
open PyProof.Rows hiding St
/-- a global's kind: a def, a class, a value, an exception's class, a base of such -/
inductive Gk | fn (f : Nat) | cls (c : Nat) | cst (v : AV) | xcls (c : Nat) | xb (c : Nat)
structure Gm where
  nms : List Str
  flds : List Nat
  mets : List Nat
  gl : List (Str × Gk)
  fr : List Str
structure Gx where
  N : List Str
  sc : Scope
  all : Bool
  g : Gm
def ixOf (x : Str) : List Str → Nat → Option Nat
  | [], _ => none
  | y :: r, i => if y == x then some i else ixOf x r (i + 1)
def locB (sc : Scope) (x : Str) : Bool := match sc.names.lookup x with
  | some .local => true
  | _ => false
def glB (sc : Scope) (x : Str) : Bool := match sc.names.lookup x with
  | some .globalImplicit => true
  | _ => false
def dbgB (x : Str) : Bool := (x == ("__debug__" : Str)) || (x == ("__classdict__" : Str)) || (x == ("__name__" : Str))
def bopB : Operator → Option Bop
  | .Add => some .add
  | .Sub => some .sub
  | .Mult => some .mul
  | .FloorDiv => some .fdiv
  | .Mod => some .mod
  | .Pow => some .pow
  | _ => none
def copB : CmpOp → Cop
  | .Eq => .eq
  | .NotEq => .ne
  | .Lt => .lt
  | .LtE => .le
  | .Gt => .gt
  | .GtE => .ge
  | .Is => .is
  | .IsNot => .isn
  | .In => .inn
  | .NotIn => .nin
def bmB (m : Str) : Option Bm :=
  if m == "append" then some .append else if m == "pop" then some .pop else if m == "get" then some .get else if m == "split" then some .split else if m == "join" then some .join
  else if m == "startswith" then some .startswith else if m == "find" then some .find else if m == "clear" then some .clear else none
def biB (x : Str) (n : Nat) : Option Bi :=
  if x == "len" then some .len else if x == "min" then (if Nat.beq n 2 then some .min2 else none) else if x == "max" then (if Nat.beq n 2 then some .max2 else none) else if x == "all" then some .all else if x == "any" then some .any
  else if x == "int" then some .int else if x == "str" then some .str else if x == "tuple" then some .tuple else if x == "list" then some .list else if x == "dict" then some .dict else none
def tyOf (x : Str) : Option Ty :=
  if x == "int" then some .int else if x == "bool" then some .bool else if x == "str" then some .str else if x == "tuple" then some .tuple else if x == "list" then some .list else none
section
variable (Γ : Gx)
def Gx.free (x : Str) : Bool := glB Γ.sc x && (Γ.g.fr.contains x && !dbgB x)
def trN (x : Str) : E := match dbgB x with
  | true => .nil
  | false => (match ixOf x Γ.N 0 with
    | some i => (match visB Γ.sc x with
      | true => .var i
      | false => .nil)
    | none => (match glB Γ.sc x, Γ.g.gl.lookup x with
      | true, some (.cst v) => .cst v
      | _, _ => .nil))
def trK : Const → E
  | .int i => .cst (.int i)
  | .bool b => .cst (.bl b)
  | .none => .cst .non
  | .str x => .cst (.str x.cps.toList)
  | _ => .nil
def trL (f : Expr → E) : List Expr → E
  | [] => .nil
  | a :: es => (match noStar a with
    | true => .cons (f a) (trL f es)
    | false => .no)
def trD (f : Expr → E) : List (Option Expr) → List Expr → Option E
  | [], [] => some .nil
  | some k :: ks, v :: vs => (match trD f ks vs with
    | some q => some (.cons (f k) (.cons (f v) q))
    | none => none)
  | _, _ => none
def trJ (f : Expr → E) : List Expr → Option E
  | [] => some .nil
  | .Constant (.str x) _ _ :: r => (match trJ f r with
    | some q => some (.cons (.cst (.str x.cps.toList)) q)
    | none => none)
  | .FormattedValue a (-1) none _ :: r => (match trJ f r with
    | some q => some (.cons (f a) q)
    | none => none)
  | _ => none
def trT (N : List Str) (sc : Scope) : Nat → Expr → Option T
  | 0, _ => none
  | n + 1, e => match e with
    | .Name x _ => (match ixOf x N 0, locB sc x with
      | some i, true => some (.nm i)
      | _, _ => none)
    | .Tuple es _ _ => (match trTs (trT N sc n) es with
      | some t => some (.tp t)
      | none => none)
    | _ => none
where trTs (f : Expr → Option T) : List Expr → Option T
  | [] => some .nil
  | a :: r => (match noStar a, f a, trTs f r with
    | true, some t, some u => some (.cons t u)
    | _, _, _ => none)
def blkΓ (scope : Scope) : Gx := ⟨Γ.N, relS scope Γ.sc, false, Γ.g⟩
/-- the block's own names: those of its target -/
def ownOf (N : List Str) : T → List (Str × Nat)
  | .nm i => [(N.getD i "", i)]
  | .tp t => ownOf N t
  | .nil => []
  | .cons a b => ownOf N a ++ ownOf N b
def noSet : Expr → Bool
  | .Set _ _ _ => false
  | _ => true
def trI0 (f : Expr → E) (it : Expr) : Option (Ik × E) := match noSet it with
  | false => none
  | true => (match it with
    | .Call (.Name x _) args kws _ => (match x == "range", kws, Γ.free x with
      | true, [], true => (match args with
        | [a] => (match noStar a with | true => some (.rng, .cons (f a) .nil) | false => none)
        | [a, b] => (match noStar a && noStar b with | true => some (.rng, .cons (f a) (.cons (f b) .nil)) | false => none)
        | _ => none)
      | false, _, _ => some (.val, .cons (f it) .nil)
      | _, _, _ => none)
    | _ => some (.val, .cons (f it) .nil))
def isTup : Expr → Bool
  | .Tuple _ _ _ => true
  | _ => false
/-- what is walked; a zip of two -/
def zipOf : Expr → Option (Str × Expr × Expr)
  | .Call (.Name x _) [a, b] [] _ => some (x, a, b)
  | _ => none
def trI (f : Expr → E) (tg it : Expr) : Option (Ik × E) := match zipOf it with
  | some (x, a, b) => (match x == "zip" && isTup tg with
    | true => (match Γ.free x && (noStar a && noStar b) with
      | true => some (.zip, .cons (f a) (.cons (f b) .nil))
      | false => none)
    | false => trI0 Γ f it)
  | none => trI0 Γ f it
/-- an exception's class, or a base of such -/
def xTy (x : Str) : Option Ty := match glB Γ.sc x && !dbgB x, Γ.g.gl.lookup x with
  | true, some (.xcls c) => some (.own c)
  | true, some (.xb c) => some (.own c)
  | true, none => (match Γ.g.fr.contains x, x == "ValueError", x == "LookupError" with
    | true, true, _ => some .exv
    | true, false, true => some .exl
    | _, _, _ => none)
  | _, _ => none
def tIfB (f : Expr → E) : List Expr → Option E
  | [] => some (.cst (.bl true))
  | [c] => (match truT c with | true => some (f c) | false => none)
  | _ => none
where truT : Expr → Bool
  | .IfExp _ _ _ _ => false
  | .UnaryOp .Not _ _ => true
  | .UnaryOp _ _ _ => false
  | _ => true
/-- a test: where the tree may be asked as one -/
def trC (f : Expr → E) (e : Expr) : E := match tIfB.truT e with
  | true => f e
  | false => .nil
/-- len(set(a)) -/
def lenSet (x : Str) (args : List Expr) : Option Expr := match x == "len" with
  | true => (match args with
    | [.Call (.Name y _) [a] [] _] => (match y == "set" with
      | true => some a
      | false => none)
    | _ => none)
  | false => none
def tr : Nat → Gx → Expr → E
  | 0, _, _ => .nil
  | n + 1, Γ, e => match e with
    | .Name x _ => trN Γ x
    | .Constant c _ _ => trK c
    | .BinOp a o b _ => (match bopB o with
      | some p => .bin p (tr n Γ a) (tr n Γ b)
      | none => .nil)
    | .UnaryOp .Not a _ => .not (trC (tr n Γ) a)
    | .UnaryOp .USub a _ => .neg (tr n Γ a)
    | .BoolOp o vs pos => (match vs with
      | [a] => trC (tr n Γ) a
      | a :: b :: r => (match o with
        | .And => .and (trC (tr n Γ) a) (tr n Γ (.BoolOp .And (b :: r) pos))
        | .Or => .or (trC (tr n Γ) a) (tr n Γ (.BoolOp .Or (b :: r) pos)))
      | [] => .nil)
    | .Compare a ops bs _ => (match ops, bs with
      | [o], [b] => (match behindInMarks o b with
        | false => .cmp (copB o) (tr n Γ a) (tr n Γ b)
        | true => .nil)
      | [o, o'], [b, c] => (match lastMarks [o, o'] [b, c] with
        | false => .chn (copB o) (copB o') (tr n Γ a) (tr n Γ b) (tr n Γ c)
        | true => .nil)
      | _, _ => .nil)
    | .IfExp c a b _ => .ite (trC (tr n Γ) c) (tr n Γ a) (tr n Γ b)
    | .Tuple es _ _ => .tup (trL (tr n Γ) es)
    | .List es _ => .lst (trL (tr n Γ) es)
    | .Dict ks vs _ => (match ks.all (·.isSome) && (Nat.beq ks.length vs.length && (Nat.ble ks.length 15 && !ks.isEmpty)) with
      | true => (match trD (tr n Γ) ks vs with
        | some q => .dct q
        | none => .nil)
      | false => .nil)
    | .Subscript a b _ => (match b with
      | .Slice lo hi sp _ => (match sp with
        | none => .sl (tr n Γ a) (trO (tr n Γ) lo) (trO (tr n Γ) hi)
        | some _ => .nil)
      | _ => .idx (tr n Γ a) (tr n Γ b))
    | .Attribute a f _ => (match plainB a, ixOf f Γ.g.nms 0 with
      | true, some i => (match Γ.g.flds.contains i with
        | true => .fld (tr n Γ a) i
        | false => .nil)
      | _, _ => .nil)
    | .JoinedStr vs _ => (match vs with
      | _ :: _ :: _ => (match trJ (tr n Γ) vs with
        | some q => .fmt q
        | none => .nil)
      | _ => .nil)
    | .ListComp elt gs scope _ => (match gs with
      | [⟨tg, it, ifs, 0⟩] => (match trT Γ.N (relS scope Γ.sc) 9 tg, trI Γ (tr n Γ) tg it, tIfB (tr n (blkΓ Γ scope)) ifs with
        | some t, some (k, As), some C => (match blkC Γ.N Γ.sc scope (ownOf Γ.N t) with
          | true => .lc t k As C (tr n (blkΓ Γ scope) elt)
          | false => .nil)
        | _, _, _ => .nil)
      | _ => .nil)
    | .Call f args kws pos => (match kws with
      | _ :: _ => .nil
      | [] => (match f with
        | .Name x _ => (match glB Γ.sc x && !dbgB x, Γ.g.gl.lookup x with
          | true, some (.fn k) => (match args.all noStar with
            | true => .call k (trL (tr n Γ) args) []
            | false => .nil)
          | true, some (.cls c) => (match args.all noStar with
            | true => .new c (trL (tr n Γ) args) []
            | false => .nil)
          | true, some (.xcls c) => (match args.all noStar with
            | true => .newx c (trL (tr n Γ) args)
            | false => .nil)
          | true, none => (match Γ.free x && args.all noStar with
            | false => .nil
            | true => (match x == "isinstance" with
              | true => (match args with
                | [a, .Name t _] => (match tyOf t, Γ.free t && (Γ.g.gl.lookup t).isNone with
                  | some ty, true => .isi (tr n Γ a) [ty]
                  | _, _ => (match xTy Γ t with
                    | some ty => .isx (tr n Γ a) ty
                    | none => .nil))
                | _ => .nil)
              | false => (match lenSet x args with
                | some a => (match Γ.free "set" && ((Γ.g.gl.lookup ("set" : Str)).isNone && noStar a) with
                  | true => .lenset (tr n Γ a)
                  | false => .nil)
                | none => (match biB x args.length, args with
                  | some b, _ :: _ => .blt b (trL (tr n Γ) args)
                  | _, _ => .nil))))
          | _, _ => .nil)
        | .Attribute a m apos => (match plainB a && (args.all noStar && (Nat.blt args.length 30 && (apos.endLine == pos.line))) with
          | false => .nil
          | true => (match ixOf m Γ.g.nms 0 with
            | some i => (match Γ.g.mets.contains i with
              | true => .mth (tr n Γ a) i (trL (tr n Γ) args) []
              | false => .nil)
            | none => (match bmB m with
              | some b => .bm (tr n Γ a) b (trL (tr n Γ) args)
              | none => .nil)))
        | _ => .nil))
    | _ => .nil
where trO (f : Expr → E) : Option Expr → E
  | none => .no
  | some a => (match f a with
    | .no => .nil
    | A => A)
end
/-! ### it is what the text does -/
structure MOk (G : Gm) (S : Sg) (X : Cx) (d : Nat) : Prop where
  so : Sok S
  hw : WdOk S X.K X.w
  nm : ∀ i x, G.nms[i]? = some x → S.nm i = x
  fld : S.flds = G.flds
  met : S.mets = G.mets
  fn : ∀ x f, G.gl.lookup x = some (.fn f) → X.mg x = some (.ref (S.fadr f)) ∧ FnF S X d f
  cls : ∀ x c, G.gl.lookup x = some (.cls c) → X.mg x = some (.ref (S.cadr c)) ∧ ∃ f, CkF S X d c f
  cst : ∀ x v, G.gl.lookup x = some (.cst v) → ∃ u w, X.mg x = some w ∧ RelV u w ∧ GV S X.K v u
  free : ∀ x, G.fr.contains x = true → X.mg x = none
  mt : ∀ m, MtF S X d m
  xcls : ∀ x c, G.gl.lookup x = some (.xcls c) → X.mg x = some (.ref (S.cadr c)) ∧ XkF S X.prog X.w X.K X.mg X.base c ∧ KitX S X.K (.own c) (.ref (S.cadr c))
  xb : ∀ x c, G.gl.lookup x = some (.xb c) → X.mg x = some (.ref (S.cadr c)) ∧ KitX S X.K (.own c) (.ref (S.cadr c))
  kv : KitX S X.K .exv (.type "ValueError")
  kl : KitX S X.K .exl (.type "LookupError")
structure TOk (Γ : Gx) (S : Sg) (X : Cx) (d : Nat) : Prop where
  hN : X.N = Γ.N
  sc : X.env.scope = Γ.sc
  m : MOk Γ.g S X d
section
variable {S : Sg} {X : Cx} {d : Nat} {W : WX} {Γ : Gx} {a b c : Expr} {A B C : E} {es : List Expr} {Es : E} {pos p apos : Pos} {cx : Option AX} {f : Expr → E}
theorem ixOf_ok : ∀ {l : List Str} {x : Str} {i j : Nat}, ixOf x l i = some j → i ≤ j ∧ l[j - i]? = some x
  | [], _, _, _, e => by cases e
  | y :: r, x, i, j, e => by
    unfold ixOf at e
    by_cases z : (y == x) = true
    · rw [if_pos z] at e
      cases e
      rw [eq_of_beq z]
      exact ⟨Nat.le_refl _, by simp⟩
    · rw [if_neg z] at e
      obtain ⟨h1, h2⟩ := ixOf_ok e
      refine ⟨by omega, ?_⟩
      have : j - i = (j - (i + 1)) + 1 := by omega
      rw [this]
      simpa using h2
theorem ixOf_0 {l : List Str} {x : Str} {j : Nat} (e : ixOf x l 0 = some j) : l[j]? = some x := (ixOf_ok e).2
theorem vis_ok (t : TOk Γ S X d) {x : Str} (e : visB Γ.sc x = true) : Vis X.env.scope x := by
  unfold visB at e
  unfold Vis
  rw [t.sc]
  split at e <;> first | exact .inl (by assumption) | exact .inr (.inl (by assumption)) | exact .inr (.inr (by assumption)) | cases e
theorem loc_is {sc : Scope} {x : Str} (e : locB sc x = true) : sc.names.lookup x = some .local := by
  unfold locB at e
  split at e <;> first | assumption | cases e
theorem gl_ok (t : TOk Γ S X d) {x : Str} (e : glB Γ.sc x = true) : Gl X x := by
  unfold glB at e
  show X.env.scope.names.lookup x = some .globalImplicit
  rw [t.sc]
  split at e <;> first | assumption | cases e
theorem dbg_ok {x : Str} (e : dbgB x = false) : (x == ("__debug__" : Str)) = false ∧ (x == ("__classdict__" : Str)) = false ∧ x ≠ "__name__" := by
  unfold dbgB at e
  rw [Bool.or_eq_false_iff, Bool.or_eq_false_iff] at e
  refine ⟨e.1.1, e.1.2, fun z => ?_⟩
  have := e.2
  rw [z] at this
  simp at this
theorem trN_ok (t : TOk Γ S X d) {x : Str} : CE S X d W (.Name x pos) (trN Γ x) := by
  unfold trN
  cases e0 : dbgB x with
  | true => exact ce_nil
  | false =>
  obtain ⟨d1, d2, _⟩ := dbg_ok e0
  dsimp only
  cases e1 : ixOf x Γ.N 0 with
  | some i =>
    dsimp only
    cases e2 : visB Γ.sc x with
    | true => exact ce_var (by rw [t.hN]; exact ixOf_0 e1) (vis_ok t e2) d1 d2
    | false => exact ce_nil
  | none =>
    dsimp only
    split
    · rename_i e3 e4
      obtain ⟨u, w, h1, h2, h3⟩ := t.m.cst _ _ e4
      exact ce_glob (gl_ok t e3) h1 h2 h3 d1
    · exact ce_nil
theorem trK_ok {k : Const} {j : Nat} : CE S X d W (.Constant k j pos) (trK k) := by
  cases k <;> first | exact ce_int | exact ce_bl | exact ce_non | exact ce_str | exact ce_nil
theorem trL_ok (hf : ∀ a ∈ es, CE S X d W a (f a)) : CA S X d W es (trL f es) := by
  induction es with
  | nil => exact ca_nil
  | cons a es ih =>
    unfold trL
    split
    · rename_i e
      exact ca_cons (hf a (List.mem_cons_self ..)) (ih fun b m => hf b (List.mem_cons_of_mem _ m)) (star_cons e)
    · exact ca_no
theorem trC_ct (ht : tIfB.truT a = true → CT S X d W a (f a)) : CT S X d W a (trC f a) := by
  unfold trC
  split
  · rename_i e; exact ht e
  · exact ct_nil
theorem trC_ce (hc : CE S X d W a (f a)) : CE S X d W a (trC f a) := by
  unfold trC
  split
  · exact hc
  · exact ce_nil
theorem bopB_ok {o : Operator} {q : Bop} (e : bopB o = some q) : o = bopOf q := by
  cases o <;> cases e <;> rfl
theorem copB_ok (o : CmpOp) : copOf (copB o) = o := by cases o <;> rfl
theorem MOk.blk (m : MOk Γ.g S X d) {s : Shared} {H : Hp} {scope : Scope} {ce : Env} {fp : List Addr} : MOk Γ.g S (X.blk s H scope ce fp) d :=
  ⟨m.so, m.hw, m.nm, m.fld, m.met, fun x f e => ⟨(m.fn x f e).1, ⟨(m.fn x f e).2.ex⟩⟩, fun x c e => ⟨(m.cls x c e).1, let ⟨f, k⟩ := (m.cls x c e).2; ⟨f, ⟨k.init, k.cf, ⟨k.fn.ex⟩, k.mkr⟩⟩⟩, m.cst, m.free, fun q => ⟨fun c f e cf => ⟨⟨((m.mt q).ok c f e cf).1.ex⟩, ((m.mt q).ok c f e cf).2⟩⟩, m.xcls, m.xb, m.kv, m.kl⟩
theorem TOk.blk (t : TOk Γ S X d) {s : Shared} {H : Hp} {scope : Scope} {C : Addr} {cl : List (Str × Addr)} {fp : List Addr} : TOk (blkΓ Γ scope) S (X.blk s H scope (compEnvC scope cl C X.env) fp) d :=
  ⟨t.hN, by show relS scope X.env.scope = relS scope Γ.sc; rw [t.sc], t.m.blk⟩
theorem Xk.blk (x : Xk S d W X) {s : Shared} {H : Hp} {scope : Scope} {ce : Env} {fp : List Addr} : Xk S d W0 (X.blk s H scope ce fp) :=
  ⟨x.nd, x.calm, x.room, fun u s' ⟨a, B, sI, pins, σ, H, cls, d, e, I, nb, up, sky, na, os, ag, w⟩ => w.elim⟩
theorem trT_ok (x : Xk S d W X) {N : List Str} {sc : Scope} (hN : X.N = N) (hs : X.env.scope = sc) : ∀ (n : Nat) {tg : Expr} {t : T}, trT N sc n tg = some t → CG S X tg t
  | 0, _, _, e => by cases e
  | n + 1, tg, t, e => by
    unfold trT at e
    split at e
    · split at e
      case h_1 i e1 e2 =>
        cases e
        have z := loc_is e2
        exact cg_name x.nd (by rw [hN]; exact ixOf_0 e1) (.inl (by rw [hs]; exact z)) (.inr (by rw [hs]; exact z))
      case h_2 => cases e
    · split at e
      case h_1 u e1 =>
        cases e
        have ts : ∀ {es : List Expr} {u : T}, trT.trTs (trT N sc n) es = some u → CGs S X es u ∧ (assignEach es X.env).length = tlen u ∧ (assignEach es X.env).findIdx? (·.1) = none := by
          intro es
          induction es with
          | nil =>
            intro u e
            cases e
            exact ⟨cgs_nil, rfl, rfl⟩
          | cons a r ih =>
            intro u e
            unfold trT.trTs at e
            split at e
            case h_1 t1 u1 e1 e2 e3 =>
              cases e
              obtain ⟨h1, h2, h3⟩ := ih e3
              have ea : assignEach (a :: r) X.env = (false, assign a X.env) :: assignEach r X.env := by
                cases a <;> first | rfl | cases e1
              refine ⟨cgs_cons (trT_ok x hN hs n e2) h1 (by rw [ea]; rfl), ?_, ?_⟩
              · rw [ea]
                show (assignEach r X.env).length + 1 = tlen u1 + 1
                rw [h2]
              · rw [ea, List.findIdx?_cons]
                simp [h3]
            case h_2 => cases e
        obtain ⟨h1, h2, h3⟩ := ts e1
        exact cg_tup x.calm h1 h2 h3
      case h_2 => cases e
    · cases e
end
end Ms

set_option Elab.async false
set_option linter.all false
set_option maxRecDepth 100000
namespace Ms
open PySem PySem.Spec L2 Mm
open PyProof.Rows hiding St
section
variable {S : Sg} {X : Cx} {d : Nat} {W : WX} {Γ : Gx} {a b c : Expr} {A B C : E} {es : List Expr} {Es : E} {pos p apos : Pos} {cx : Option AX} {f : Expr → E}
theorem free_ok (t : TOk Γ S X d) {x : Str} (e : Γ.free x = true) : Gl X x ∧ X.mg x = none ∧ x ≠ "__name__" ∧ (x == ("__debug__" : Str)) = false := by
  unfold Gx.free at e
  rw [Bool.and_eq_true, Bool.and_eq_true] at e
  obtain ⟨e1, e2, e3⟩ := e
  obtain ⟨d1, d2, d3⟩ := dbg_ok (by simpa using e3)
  exact ⟨gl_ok t e1, t.m.free x e2, d3, d1⟩
theorem blt_ok (xk : Xk S d W X) (t : TOk Γ S X d) {x : Str} {n : Nat} {bi : Bi} (e : biB x n = some bi) (hf : Γ.free x = true) (hs : (a :: es).all noStar = true) (ha : CA S X d W (a :: es) Es) : CE S X d W (.Call (.Name x p) (a :: es) [] pos) (.blt bi Es) := by
  obtain ⟨g1, g2, g3, g4⟩ := free_ok t hf
  rw [List.all_cons, Bool.and_eq_true] at hs
  have he := star_cons (es := es) (env := X.env) hs.1
  have hpl := star_any (pos := pos) (env := X.env) hs.2
  unfold biB at e
  split at e
  · rename_i z
    obtain rfl := eq_of_beq z
    cases e
    exact ce_bltB t.m.so call_len' g1 g2 (by decide +kernel) g3 g4 ha he hpl
  split at e
  · rename_i z
    obtain rfl := eq_of_beq z
    split at e
    · cases e
      exact ce_bltB t.m.so (call_min' xk.calm) g1 g2 (by decide +kernel) g3 g4 ha he hpl
    · cases e
  split at e
  · rename_i z
    obtain rfl := eq_of_beq z
    split at e
    · cases e
      exact ce_bltB t.m.so (call_max' xk.calm) g1 g2 (by decide +kernel) g3 g4 ha he hpl
    · cases e
  split at e
  · rename_i z
    obtain rfl := eq_of_beq z
    cases e
    exact ce_bltB t.m.so (call_all' xk.calm) g1 g2 (by decide +kernel) g3 g4 ha he hpl
  split at e
  · rename_i z
    obtain rfl := eq_of_beq z
    cases e
    exact ce_bltB t.m.so (call_any' xk.calm) g1 g2 (by decide +kernel) g3 g4 ha he hpl
  split at e
  · rename_i z
    obtain rfl := eq_of_beq z
    cases e
    exact ce_bltT t.m.so call_int' g1 g2 (by decide +kernel) g3 g4 ha he hpl
  split at e
  · rename_i z
    obtain rfl := eq_of_beq z
    cases e
    exact ce_bltT t.m.so (call_str' (by have := xk.room.un; omega)) g1 g2 (by decide +kernel) g3 g4 ha he hpl
  split at e
  · rename_i z
    obtain rfl := eq_of_beq z
    cases e
    exact ce_bltT t.m.so call_tuple' g1 g2 (by decide +kernel) g3 g4 ha he hpl
  split at e
  · rename_i z
    obtain rfl := eq_of_beq z
    cases e
    exact ce_bltT t.m.so (call_list' xk.calm) g1 g2 (by decide +kernel) g3 g4 ha he hpl
  split at e
  · rename_i z
    obtain rfl := eq_of_beq z
    cases e
    exact ce_bltT t.m.so call_dict' g1 g2 (by decide +kernel) g3 g4 ha he hpl
  cases e
theorem lenSet_ok {x : Str} {args : List Expr} {a : Expr} (e : lenSet x args = some a) : x = "len" ∧ ∃ p q, args = [.Call (.Name "set" p) [a] [] q] := by
  unfold lenSet at e
  split at e
  · rename_i z
    split at e
    · rename_i y p b q
      split at e
      · rename_i w
        cases e
        obtain rfl := eq_of_beq w
        exact ⟨eq_of_beq z, p, q, rfl⟩
      · cases e
    · cases e
  · cases e
theorem tyOf_ok {x : Str} {ty : Ty} (e : tyOf x = some ty) : x = (tyN ty : Str) ∧ tyB ty = true ∧ bootBuiltins (tyN ty : Str) = some (.type (tyN ty)) := by
  unfold tyOf at e
  split at e
  · rename_i z
    cases e
    exact ⟨eq_of_beq z, rfl, by decide +kernel⟩
  split at e
  · rename_i z
    cases e
    exact ⟨eq_of_beq z, rfl, by decide +kernel⟩
  split at e
  · rename_i z
    cases e
    exact ⟨eq_of_beq z, rfl, by decide +kernel⟩
  split at e
  · rename_i z
    cases e
    exact ⟨eq_of_beq z, rfl, by decide +kernel⟩
  split at e
  · rename_i z
    cases e
    exact ⟨eq_of_beq z, rfl, by decide +kernel⟩
  cases e
theorem bmB_ok {m : Str} {q : Bm} (e : bmB m = some q) : m = bmName q := by
  unfold bmB at e
  repeat (split at e; · (rename_i z; cases e; exact eq_of_beq z))
  cases e
theorem own_slots (N : List Str) : ∀ t : T, (ownOf N t).map (·.2) = slots t
  | .nm i => rfl
  | .tp t => own_slots N t
  | .nil => rfl
  | .cons a b => by
    show (ownOf N a ++ ownOf N b).map (·.2) = slots a ++ slots b
    rw [List.map_append, own_slots N a, own_slots N b]
theorem trI0_ok (xk : Xk S d W X) (t : TOk Γ S X d) {tg it : Expr} {k : Ik} {As : E} (hf : ∀ a, CE S X d W a (f a)) (e : trI0 Γ f it = some (k, As)) :
    CI S X d W tg it k As ∧ (∀ xs h q, srcA k xs h = some q → ∀ h, lockA q h = some (none, h)) ∧ ∀ x, foldedSetIterable it X.env x = pure x := by
  unfold trI0 at e
  split at e
  case h_1 => cases e
  case h_2 e0 =>
  have hfold : ∀ x, foldedSetIterable it X.env x = pure x := fun x => fold_none fun es k p z => by
    subst z
    cases e0
  split at e
  case h_1 x p args kws p2 =>
    split at e
    case h_1 _ ex ef =>
      obtain rfl := eq_of_beq ex
      obtain ⟨g1, g2, _, _⟩ := free_ok t ef
      split at e
      case h_1 a =>
        split at e
        case h_2 => cases e
        case h_1 ea =>
        cases e
        exact ⟨ci_rng1 g1 g2 (hf a) (by rw [star_cons ea]; rfl), fun xs h q e => lock_rng e, hfold⟩
      case h_2 a b =>
        split at e
        case h_2 => cases e
        case h_1 ea =>
        cases e
        rw [Bool.and_eq_true] at ea
        exact ⟨ci_rng2 g1 g2 (hf a) (hf b) (by rw [star_cons ea.1, star_cons ea.2]; rfl) (by rw [star_cons ea.2]; rfl), fun xs h q e => lock_rng e, hfold⟩
      case h_3 => cases e
    case h_2 =>
      cases e
      exact ⟨ci_val (hf _), fun xs h q e => lock_val e, hfold⟩
    case h_3 => cases e
  case h_2 =>
    cases e
    exact ⟨ci_val (hf _), fun xs h q e => lock_val e, hfold⟩
theorem zipOf_ok {it : Expr} {x : Str} {a b : Expr} (e : zipOf it = some (x, a, b)) : ∃ p q, it = .Call (.Name x p) [a, b] [] q := by
  unfold zipOf at e
  split at e
  · cases e; exact ⟨_, _, rfl⟩
  · cases e
theorem trI_ok (xk : Xk S d W X) (t : TOk Γ S X d) {tg it : Expr} {k : Ik} {As : E} (hf : ∀ a, CE S X d W a (f a)) (e : trI Γ f tg it = some (k, As)) :
    CI S X d W tg it k As ∧ (∀ xs h q, srcA k xs h = some q → ∀ h, lockA q h = some (none, h)) ∧ ∀ x, foldedSetIterable it X.env x = pure x := by
  unfold trI at e
  split at e
  case h_2 => exact trI0_ok xk t hf e
  case h_1 x a b z =>
  split at e
  case h_2 => exact trI0_ok xk t hf e
  case h_1 zz =>
  rw [Bool.and_eq_true] at zz
  obtain ⟨z1, z2⟩ := zz
  obtain rfl := eq_of_beq z1
  obtain ⟨p, q, rfl⟩ := zipOf_ok z
  split at e
  case h_2 => cases e
  case h_1 w =>
  simp only [Bool.and_eq_true] at w
  obtain ⟨w1, w2, w3⟩ := w
  cases e
  obtain ⟨g1, g2, _, _⟩ := free_ok t w1
  cases tg <;> first | cases z2 | skip
  refine ⟨ci_zip g1 g2 (hf a) (hf b) (star_cons w2) (by rw [star_cons w3]; rfl) (by rw [star_cons w3]; rfl), fun xs h q e => ?_, fun x => fold_none fun es k p z => nomatch z⟩
  change srcZip xs h = some q at e
  unfold srcZip at e
  split at e
  · split at e
    · cases e; exact fun _ => rfl
    · cases e
  · cases e
/-- a name that isinstance is asked by -/
theorem xTy_ok (t : TOk Γ S X d) {x : Str} {ty : Ty} {p : Pos} (e : xTy Γ x = some ty) : ∃ v cv, KitX S X.K ty cv ∧ (∀ u, RelV v u → u = cv) ∧ PE X (.Name x p) (tC v) := by
  unfold xTy at e
  split at e
  · rename_i c e1 e2
    cases e
    simp only [Bool.and_eq_true, Bool.not_eq_true'] at e1
    obtain ⟨d1, d2, d3⟩ := dbg_ok e1.2
    obtain ⟨g1, _, g3⟩ := t.m.xcls _ _ e2
    exact ⟨.ref (S.cadr c), _, g3, fun u r => r, pe_glob (gl_ok t e1.1) g1 rfl d1⟩
  · rename_i c e1 e2
    cases e
    simp only [Bool.and_eq_true, Bool.not_eq_true'] at e1
    obtain ⟨d1, d2, d3⟩ := dbg_ok e1.2
    obtain ⟨g1, g3⟩ := t.m.xb _ _ e2
    exact ⟨.ref (S.cadr c), _, g3, fun u r => r, pe_glob (gl_ok t e1.1) g1 rfl d1⟩
  · rename_i e1 e2
    simp only [Bool.and_eq_true, Bool.not_eq_true'] at e1
    obtain ⟨d1, d2, d3⟩ := dbg_ok e1.2
    split at e
    · rename_i h1 h2
      cases e
      obtain rfl := eq_of_beq h2
      exact ⟨.ty "ValueError", _, t.m.kv, fun u r => r, pe_bltn (gl_ok t e1.1) (t.m.free _ h1) (by decide +kernel) rfl d3 d1⟩
    · rename_i h1 h2 h3
      cases e
      obtain rfl := eq_of_beq h3
      exact ⟨.ty "LookupError", _, t.m.kl, fun u r => r, pe_bltn (gl_ok t e1.1) (t.m.free _ h1) (by decide +kernel) rfl d3 d1⟩
    · cases e
  · cases e
theorem trJ_ok (hf : ∀ a, CE S X d W a (f a)) : ∀ {es : List Expr} {q : E}, trJ f es = some q → CJ S X d W es q := by
  intro es
  induction es with
  | nil =>
    intro q e
    cases e
    exact cj_nil
  | cons a r ih =>
    intro q e
    unfold trJ at e
    split at e
    case h_1 z => cases z
    case h_2 z =>
      cases z
      split at e
      case h_2 => cases e
      case h_1 e2 =>
      cases e
      exact cj_txt (ih e2)
    case h_3 z =>
      cases z
      split at e
      case h_2 => cases e
      case h_1 e2 =>
      cases e
      exact cj_fmt (hf _) (ih e2)
    case h_4 => cases e
theorem trD_ok (hf : ∀ a, CE S X d W a (f a)) : ∀ {ks : List (Option Expr)} {vs : List Expr} {q : E}, trD f ks vs = some q → CD S X d W pos ks vs q := by
  intro ks
  induction ks with
  | nil =>
    intro vs q e
    unfold trD at e
    split at e
    case h_1 => cases e; exact .nil
    case h_2 z => cases z
    case h_3 => cases e
  | cons a r ih =>
    intro vs q e
    cases vs with
    | nil =>
      unfold trD at e
      cases a <;> cases e
    | cons v vs =>
    unfold trD at e
    split at e
    case h_1 z _ => cases z
    case h_2 z z2 =>
      cases z
      cases z2
      split at e
      case h_2 => cases e
      case h_1 e2 =>
      cases e
      exact .cons (hf _) (hf _) (ih e2)
    case h_3 => cases e
theorem trO_ok (hf : ∀ a, CE S X d W a (f a)) {o : Option Expr} : PO X o (tO S X.K d W (tr.trO f o)) := by
  cases o with
  | none => exact co_none
  | some a =>
    by_cases z : f a = .no
    · have e : tr.trO f (some a) = .nil := by
        show (match f a with
          | .no => .nil
          | A => A) = E.nil
        rw [z]
      rw [e]
      exact co_some ce_nil (fun z => nomatch z)
    · have e : tr.trO f (some a) = f a := by
        show (match f a with
          | .no => .nil
          | A => A) = f a
        split
        · rename_i w
          exact absurd w z
        · rfl
      rw [e]
      exact co_some (hf a) z
/-- what is kept of an expression's tree -/
structure Ok3 (S : Sg) (X : Cx) (d : Nat) (W : WX) (e : Expr) (m : E) : Prop where
  ce : CE S X d W e m
  ct : tIfB.truT e = true → CT S X d W e m
  cw : ∀ o vs p, e = .BoolOp o vs p → CW S X d W e m
theorem Ok3.nil : Ok3 S X d W a .nil := ⟨ce_nil, fun _ => ct_nil, fun _ _ _ _ => ⟨fun _ _ _ _ _ _ _ ⟨ρ, h, l, r, lr, q⟩ => by unfold ev at q; exact (show False from q).elim⟩⟩
theorem Ok3.of (h : CE S X d W a A) (ht : truB a = true) : Ok3 S X d W a A := ⟨h, fun _ => ct_any h (istrue_all ht), fun o vs p z => by subst z; cases ht⟩
theorem tr_ok (d : Nat) (S : Sg) : ∀ (n : Nat) (Γ : Gx) (X : Cx) (W : WX) (e : Expr), Xk S d W X → TOk Γ S X d → Ok3 S X d W e (tr n Γ e)
  | 0, _, _, _, _, _, _ => Ok3.nil
  | n + 1, Γ, X, W, e, xk, t => by
    have ih := fun a => tr_ok d S n Γ X W a xk t
    have ihe := fun a => (ih a).ce
    have cc := fun a => trC_ct (a := a) (f := tr n Γ) (ih a).ct
    have ce := fun a => trC_ce (a := a) (f := tr n Γ) (ih a).ce
    have hr : Room d X.A := xk.room.mono (by omega)
    cases e with
    | Name x p => exact .of (trN_ok t) rfl
    | Constant c j p => exact .of trK_ok rfl
    | BinOp a o b p =>
      unfold tr
      dsimp only
      split
      · rename_i q e
        rw [bopB_ok e]
        exact .of (ce_bin (ihe a) (ihe b)) rfl
      · exact .nil
    | UnaryOp o a p =>
      unfold tr
      cases o with
      | Not => exact ⟨ce_not (ce a), fun _ => ct_not (cc a), fun _ _ _ z => nomatch z⟩
      | USub => exact ⟨ce_neg (ihe a), fun z => (by cases z), fun _ _ _ z => nomatch z⟩
      | _ => exact .nil
    | BoolOp o vs p =>
      unfold tr
      dsimp only
      cases vs with
      | nil => exact .nil
      | cons a r =>
      cases r with
      | nil =>
        dsimp only
        cases o with
        | And => exact ⟨ce_one (ce a), fun _ => (cw_and1 (cc a)).pt, fun _ _ _ _ => cw_and1 (cc a)⟩
        | Or => exact ⟨ce_one (ce a), fun _ => (cw_or1 (cc a)).pt, fun _ _ _ _ => cw_or1 (cc a)⟩
      | cons b r =>
        dsimp only
        cases o with
        | And =>
          have i2 := ih (.BoolOp .And (b :: r) p)
          have w := cw_and (pos := p) (cc a) (i2.cw _ _ _ rfl)
          exact ⟨ce_and (ce a) i2.ce, fun _ => w.pt, fun _ _ _ _ => w⟩
        | Or =>
          have i2 := ih (.BoolOp .Or (b :: r) p)
          have w := cw_or (pos := p) (cc a) (i2.cw _ _ _ rfl)
          exact ⟨ce_or (ce a) i2.ce, fun _ => w.pt, fun _ _ _ _ => w⟩
    | Compare a ops bs p =>
      unfold tr
      dsimp only
      cases ops with
      | nil => exact .nil
      | cons o ops =>
      cases bs with
      | nil =>
        cases ops with
        | nil => exact .nil
        | cons _ y => cases y <;> exact .nil
      | cons b bs =>
      cases ops with
      | nil =>
        cases bs with
        | cons _ _ => exact .nil
        | nil =>
        dsimp only
        cases e : behindInMarks o b with
        | true => exact .nil
        | false =>
        have c1 := ce_cmp (pos := p) (o := copB o) t.m.so t.m.hw hr (ihe a) (ihe b) (by rw [copB_ok]; exact e)
        have c2 := ct_cmp (pos := p) (o := copB o) t.m.so t.m.hw hr (ihe a) (ihe b) (by rw [copB_ok]; exact e)
        rw [copB_ok] at c1 c2
        exact ⟨c1, fun _ => c2, fun _ _ _ z => nomatch z⟩
      | cons o' ops =>
      cases ops with
      | cons _ _ => cases bs <;> first | exact .nil | (rename_i bs; cases bs <;> exact .nil)
      | nil =>
      cases bs with
      | nil => exact .nil
      | cons c bs =>
      cases bs with
      | cons _ _ => exact .nil
      | nil =>
      dsimp only
      cases e : lastMarks [o, o'] [b, c] with
      | true => exact .nil
      | false =>
      have c1 := ce_chn (pos := p) (o := copB o) (o' := copB o') t.m.hw hr (ihe a) (ihe b) (ihe c) (by rw [copB_ok, copB_ok]; exact e)
      have c2 := ct_chn (pos := p) (o := copB o) (o' := copB o') t.m.hw hr (ihe a) (ihe b) (ihe c) (by rw [copB_ok, copB_ok]; exact e)
      rw [copB_ok, copB_ok] at c1 c2
      exact ⟨c1, fun _ => c2, fun _ _ _ z => nomatch z⟩
    | IfExp c a b p =>
      unfold tr
      exact ⟨ce_ite (cc c) (ihe a) (ihe b), fun z => (by cases z), fun _ _ _ z => nomatch z⟩
    | Tuple es k p =>
      unfold tr
      exact .of (ce_tup (trL_ok fun a _ => ihe a)) rfl
    | List es p =>
      unfold tr
      exact .of (ce_lst (trL_ok fun a _ => ihe a)) rfl
    | Dict ks vs p =>
      unfold tr
      dsimp only
      split
      · rename_i e
        simp only [Bool.and_eq_true] at e
        obtain ⟨e1, e2, e3, e4⟩ := e
        split
        · rename_i q eq
          exact .of (ce_dct (trD_ok ihe eq) e1 (Nat.eq_of_beq_eq_true e2) (fun z => by rw [z] at e4; cases e4) (Nat.le_of_ble_eq_true e3)) rfl
        · exact .nil
      · exact .nil
    | Subscript a b p =>
      cases b with
      | Slice lo hi sp p2 =>
        cases sp with
        | none =>
          unfold tr
          exact .of (ce_sl (ihe a) (trO_ok ihe) (trO_ok ihe)) rfl
        | some _ => exact .nil
      | _ => exact .of (ce_idx t.m.hw hr (ihe a) (ihe _) (plain_ix rfl)) rfl
    | Attribute a m p =>
      unfold tr
      dsimp only
      split
      · rename_i i e1 e2
        split
        · rename_i e3
          exact .of (ce_fld t.m.so (by rw [t.m.fld]; exact List.contains_iff_mem.mp e3) (t.m.nm _ _ (ixOf_0 e2)) (ihe a) (base_of e1)) rfl
        · exact .nil
      · exact .nil
    | JoinedStr vs p =>
      unfold tr
      dsimp only
      split
      · split
        · rename_i q e
          exact .of (ce_fmt (trJ_ok ihe e)) rfl
        · exact .nil
      · exact .nil
    | ListComp elt gs scope p =>
      unfold tr
      dsimp only
      split
      · rename_i tg it ifs
        split
        · rename_i u k As C e1 e2 e3
          split
          · rename_i e4
            obtain ⟨i1, i2, i3⟩ := trI_ok (tg := tg) xk t ihe e2
            have ok : BlkOk X.N X.env.scope scope (ownOf Γ.N u) := by
              rw [t.hN, t.sc]
              exact blkOk_by e4
            refine .of (ce_lc i2 xk i1 ok (own_slots _ _) (fun s H C' cl fp => trT_ok xk.blk t.hN (by show relS scope X.env.scope = _; rw [t.sc]) 9 e1) (fun s H C' cl fp => ?_) (fun s H C' cl fp => (tr_ok d S n _ _ W0 elt xk.blk t.blk).ce) i3) rfl
            unfold tIfB at e3
            split at e3
            case h_1 => cases e3; exact pts_no
            case h_2 c =>
              split at e3
              · rename_i e5
                cases e3
                exact pts_yes ((tr_ok d S n _ _ W0 c xk.blk t.blk).ct e5)
              · cases e3
            case h_3 => cases e3
          · exact .nil
        · exact .nil
      · exact .nil
    | Call f args kws p =>
      cases kws with
      | cons _ _ => exact .nil
      | nil =>
      cases f with
      | Name x p2 =>
        unfold tr
        dsimp only
        split
        · rename_i k e1 e2
          simp only [Bool.and_eq_true, Bool.not_eq_true'] at e1
          obtain ⟨d1, d2, d3⟩ := dbg_ok e1.2
          obtain ⟨g1, g2⟩ := t.m.fn _ _ e2
          split
          · rename_i e3
            cases args with
            | nil => exact .of (ce_call0 xk g2 (gl_ok t e1.1) g1 d1) rfl
            | cons a es =>
              have e4 := e3
              rw [List.all_cons, Bool.and_eq_true] at e4
              exact .of (ce_call xk g2 (gl_ok t e1.1) g1 d1 (trL_ok fun a _ => ihe a) (star_cons e4.1) (star_any e4.2)) rfl
          · exact .nil
        · rename_i c e1 e2
          simp only [Bool.and_eq_true, Bool.not_eq_true'] at e1
          obtain ⟨d1, d2, d3⟩ := dbg_ok e1.2
          obtain ⟨g1, f, g2⟩ := t.m.cls _ _ e2
          split
          · rename_i e3
            cases args with
            | nil => exact .of (ce_new0 xk g2 (gl_ok t e1.1) g1 d1) rfl
            | cons a es =>
              have e4 := e3
              rw [List.all_cons, Bool.and_eq_true] at e4
              exact .of (ce_new xk g2 (gl_ok t e1.1) g1 d1 (trL_ok fun a _ => ihe a) (star_cons e4.1) (star_any e4.2)) rfl
          · exact .nil
        · rename_i c e1 e2
          simp only [Bool.and_eq_true, Bool.not_eq_true'] at e1
          obtain ⟨d1, d2, d3⟩ := dbg_ok e1.2
          obtain ⟨g1, g2, _⟩ := t.m.xcls _ _ e2
          split
          · rename_i e3
            cases args with
            | nil => exact .of (ce_newx0 xk g2 (gl_ok t e1.1) g1 d1) rfl
            | cons a es =>
              have e4 := e3
              rw [List.all_cons, Bool.and_eq_true] at e4
              exact .of (ce_newx xk g2 (gl_ok t e1.1) g1 d1 (trL_ok fun a _ => ihe a) (star_cons e4.1) (star_any e4.2)) rfl
          · exact .nil
        · rename_i e1 e2
          split
          · exact .nil
          · rename_i e3
            simp only [Bool.and_eq_true] at e3
            split
            · rename_i e4
              obtain rfl := eq_of_beq e4
              split
              · rename_i a tn pt
                split
                · rename_i ty e5 e6
                  rw [Bool.and_eq_true] at e6
                  obtain ⟨z1, z2, z3⟩ := tyOf_ok e5
                  subst z1
                  obtain ⟨g1, g2, g3, g4⟩ := free_ok t e3.1
                  obtain ⟨k1, k2, k3, k4⟩ := free_ok t e6.1
                  have e7 := e3.2
                  rw [List.all_cons, Bool.and_eq_true] at e7
                  exact .of (ce_isi z2 g1 g2 k1 k2 z3 k3 k4 (ihe a) (star_cons e7.1) (star_cons rfl) (star_any rfl)) rfl
                · split
                  · rename_i ty e5
                    obtain ⟨v, cv, k1, k2, k3⟩ := xTy_ok (p := pt) t e5
                    obtain ⟨g1, g2, g3, g4⟩ := free_ok t e3.1
                    have e7 := e3.2
                    rw [List.all_cons, Bool.and_eq_true] at e7
                    exact .of (ce_isx k1 k2 k3 g1 g2 (ihe a) (star_cons e7.1) (star_cons rfl) (star_any rfl)) rfl
                  · exact .nil
              · exact .nil
            · split
              · rename_i a e5
                split
                · rename_i e6
                  simp only [Bool.and_eq_true] at e6
                  obtain ⟨z1, p1, p2, rfl⟩ := lenSet_ok e5
                  subst z1
                  obtain ⟨g1, g2, g3, g4⟩ := free_ok t e3.1
                  obtain ⟨k1, k2, k3, k4⟩ := free_ok t e6.1
                  exact .of (ce_lenset xk.calm g1 g2 k1 k2 (ihe a) (star_cons e6.2.2)) rfl
                · exact .nil
              · split
                · rename_i bi a es e5
                  exact .of (blt_ok xk t e5 e3.1 e3.2 (trL_ok fun a _ => ihe a)) rfl
                · exact .nil
        · exact .nil
      | Attribute a m apos =>
        unfold tr
        dsimp only
        split
        · exact .nil
        · rename_i e1
          simp only [Bool.and_eq_true] at e1
          obtain ⟨e2, e3, e4, e5⟩ := e1
          have e4' : args.length < 30 := Nat.blt_eq.mp e4
          split
          · rename_i i e6
            split
            · rename_i e7
              have mm : i ∈ S.mets := by rw [t.m.met]; exact List.contains_iff_mem.mp e7
              obtain ⟨pl, he⟩ := meth_eval (a := a) (es := args) (n := m) (apos := apos) (pos := p) (env := X.env) e2 e3 e4' e5
              cases args with
              | nil => exact .of (ce_mth0 (pl := pl) t.m.so xk (t.m.mt i) mm (t.m.nm _ _ (ixOf_0 e6)) (ihe a) he) rfl
              | cons b es =>
                have e8 := e3
                rw [List.all_cons, Bool.and_eq_true] at e8
                exact .of (ce_mth (pl := pl) t.m.so xk (t.m.mt i) mm (t.m.nm _ _ (ixOf_0 e6)) (ihe a) (trL_ok fun a _ => ihe a) (star_cons e8.1) (star_any e8.2) he) rfl
            · exact .nil
          · split
            · rename_i q e6
              obtain rfl := bmB_ok e6
              cases args with
              | nil => exact .of (ce_bm0 t.m.hw (fun k e => bmc_all hr t.m.hw e) (ihe a) (base_of e2) e5) rfl
              | cons b es =>
                have e8 := e3
                rw [List.all_cons, Bool.and_eq_true] at e8
                exact .of (ce_bm t.m.hw (fun k e => bmc_all hr t.m.hw e) (ihe a) (trL_ok fun a _ => ihe a) (base_of e2) (few_of e3 e4') e5 (star_cons e8.1) (star_any e8.2)) rfl
            · exact .nil
      | _ => exact .nil
    | _ => exact .nil
end
end Ms

set_option Elab.async false
set_option linter.all false
set_option maxRecDepth 100000
/-! Statements' trees to the machine's. -/
namespace Ms
open PySem PySem.Spec L2 Mm
open PyProof.Rows hiding St
def swB (Γ : Gx) (sc : Scope) (y : Str) (l1 l2 : Nat) : Bool := locB Γ.sc y && ((l1 == l2) && !(sc.names.any fun (n, k) => n == y && (k == .local || k == .cell)))
def trB (f : Stmt → Mm.S) : List Stmt → Mm.S
  | [] => .nil
  | s :: r => .seq (f s) (trB f r)
/-- a, b = x, y -/
def parT (Γ : Gx) (es : List Expr) (v : Expr) : Option (T × List Expr) := match es, v with
  | [.Name x px, .Name y py], .Tuple [a, b] _ _ => (match ixOf x Γ.N 0, ixOf y Γ.N 0, (locB Γ.sc x && (locB Γ.sc y && !(x == y))) && parB [(x, px), (y, py)] [a, b] px.line with
    | some i, some j, true => some (.tp (.cons (.nm i) (.cons (.nm j) .nil)), [a, b])
    | _, _, _ => none)
  | [.Name x px, .Name y py, .Name z pz], .Tuple [a, b, c] _ _ => (match ixOf x Γ.N 0, ixOf y Γ.N 0, ixOf z Γ.N 0, (locB Γ.sc x && (locB Γ.sc y && (locB Γ.sc z && (!(x == y) && (!(x == z) && !(y == z)))))) && parB [(x, px), (y, py), (z, pz)] [a, b, c] px.line with
    | some i, some j, some k, true => some (.tp (.cons (.nm i) (.cons (.nm j) (.cons (.nm k) .nil))), [a, b, c])
    | _, _, _, _ => none)
  | _, _ => none
def trS : Nat → Gx → Stmt → Mm.S
  | 0, _, _ => .wall
  | n + 1, Γ, s => match s with
    | .Expr e _ => (match e with
      | .Constant (.str _) _ _ => .pas
      | _ => (match noComp e with
        | true => .ex (tr n Γ e)
        | false => .wall))
    | .Return o _ => (match o with
      | some e => .ret (tr n Γ e)
      | none => .ret (.cst .non))
    | .Pass _ => .pas
    | .Break _ => .brk
    | .Continue _ => .cnt
    | .If c a b _ => .ite (trC (tr n Γ) c) (trB (trS n Γ) a) (trB (trS n Γ) b)
    | .While c b o _ => (match o with
      | [] => .whl (trC (tr n Γ) c) (trB (trS n Γ) b)
      | _ => .wall)
    | .For tg it b o _ => (match o, trT Γ.N Γ.sc 9 tg, trI Γ (tr n Γ) tg it with
      | [], some t, some (k, As) => .for_ t k As (trB (trS n Γ) b)
      | _, _, _ => .wall)
    | .Assign ts v pos => (match ts with
      | [.Name x px] => (match ixOf x Γ.N 0, locB Γ.sc x with
        | some i, true => (match v with
          | .ListComp _ _ sc pl => (match swB Γ sc x px.line pl.line with
            | true => .asg (.nm i) (tr n Γ v)
            | false => .wall)
          | _ => (match noComp v with
            | true => .asg (.nm i) (tr n Γ v)
            | false => .wall))
        | _, _ => .wall)
      | [.Attribute o f _] => (match ixOf f Γ.g.nms 0 with
        | some i => (match Γ.g.flds.contains i with
          | true => .setF (tr n Γ o) i (tr n Γ v)
          | false => .wall)
        | none => .wall)
      | [.Subscript o i _] => (match noSl i with
        | true => .setS (tr n Γ o) (tr n Γ i) (tr n Γ v)
        | false => .wall)
      | [.Tuple [.Name x _, .Starred (.Name y _) _] _ _] => (match noTup v, ixOf x Γ.N 0, ixOf y Γ.N 0, locB Γ.sc x && locB Γ.sc y with
        | true, some i, some j, true => .star [i] j [] (tr n Γ v)
        | _, _, _, _ => .wall)
      | [.Tuple es k p] => (match parT Γ es v with
        | some (t, vs) => .asg t (.tup (trL (tr n Γ) vs))
        | none => (match noTup v, trT Γ.N Γ.sc 9 (.Tuple es k p) with
          | true, some t => .asg t (tr n Γ v)
          | _, _ => .wall))
      | _ => .wall)
    | .AugAssign t o v _ => (match bopB o with
      | none => .wall
      | some q => (match t with
        | .Name x _ => (match ixOf x Γ.N 0, locB Γ.sc x with
          | some i, true => .augN i q (tr n Γ v)
          | _, _ => .wall)
        | .Attribute a f _ => (match ixOf f Γ.g.nms 0 with
          | some i => (match Γ.g.flds.contains i with
            | true => .augF (tr n Γ a) i q (tr n Γ v)
            | false => .wall)
          | none => .wall)
        | _ => .wall))
    | _ => .wall
section
variable {S : Sg} {X : Cx} {d : Nat} {W : WX} {Γ : Gx} {a b c : Expr} {A B C : E} {es : List Expr} {Es : E} {pos p apos : Pos} {cx : Option AX} {f : Expr → E}
theorem lc_parts (n : Nat) (Γ : Gx) (elt : Expr) (gs : List Comprehension) (scope : Scope) (p : Pos) : tr (n + 1) Γ (.ListComp elt gs scope p) = .nil ∨ ∃ tg it ifs u k As C, gs = [⟨tg, it, ifs, 0⟩] ∧ trT Γ.N (relS scope Γ.sc) 9 tg = some u ∧ trI Γ (tr n Γ) tg it = some (k, As) ∧ tIfB (tr n (blkΓ Γ scope)) ifs = some C ∧
    blkC Γ.N Γ.sc scope (ownOf Γ.N u) = true ∧ tr (n + 1) Γ (.ListComp elt gs scope p) = .lc u k As C (tr n (blkΓ Γ scope) elt) := by
  conv => lhs; unfold tr
  dsimp only
  split
  · rename_i tg it ifs
    split
    · rename_i u k As C e1 e2 e3
      split
      · rename_i e4
        refine .inr ⟨tg, it, ifs, u, k, As, C, rfl, e1, e2, e3, e4, ?_⟩
        conv => lhs; unfold tr
        show (match trT Γ.N (relS scope Γ.sc) 9 tg, trI Γ (tr n Γ) tg it, tIfB (tr n (blkΓ Γ scope)) ifs with
        | some t, some (k, As), some C => (match blkC Γ.N Γ.sc scope (ownOf Γ.N t) with
          | true => E.lc t k As C (tr n (blkΓ Γ scope) elt)
          | false => .nil)
        | _, _, _ => .nil) = _
        rw [e1, e2, e3]
        dsimp only
        rw [e4]
      · exact .inl rfl
    · exact .inl rfl
  · exact .inl rfl
theorem cs_bad {s : Stmt} {t : T} : CS S X d W cx s (.asg t .nil) := ⟨fun _ _ _ _ _ _ ⟨ρ, h, l, r, lr, q⟩ => by unfold Mm.st ev at q; exact (show False from q).elim⟩
theorem trB_ok {f : Stmt → Mm.S} (hf : ∀ s, CS S X d W cx s (f s)) : ∀ {l : List Stmt}, CSs S X d W cx l (trB f l)
  | [] => css_nil
  | s :: r => css_cons (hf s) (trB_ok hf)
theorem locs (t : TOk Γ S X d) {x : Str} (e : locB Γ.sc x = true) : X.env.scope.names.lookup x = some .local := by
  rw [t.sc]; exact loc_is e
theorem parT_ok {es vs : List Expr} {v : Expr} {u : T} {kt : Nat} {pt : Pos} {f : Expr → E} (hk : X.env.scope.kind = .function) (xk : Xk S d W X) (t : TOk Γ S X d) (ha : CA S X d W vs (trL f vs)) (e : parT Γ es v = some (u, vs)) : CS S X d W cx (.Assign [.Tuple es kt pt] v pos) (.asg u (.tup (trL f vs))) := by
  unfold parT at e
  split at e
  · split at e
    · rename_i x px y py a b k2 p2 _ _ _ i j e1 e2 e3
      cases e
      simp only [Bool.and_eq_true, Bool.not_eq_true'] at e3
      obtain ⟨⟨l1, l2, n1⟩, pb⟩ := e3
      exact cs_par2 xk hk (by rw [t.hN]; exact ixOf_0 e1) (by rw [t.hN]; exact ixOf_0 e2) (locs t l1) (locs t l2) n1 pb ha
    · cases e
  · split at e
    · rename_i x px y py z pz a b c k2 p2 _ _ _ _ i j k e1 e2 e3 e4
      cases e
      simp only [Bool.and_eq_true, Bool.not_eq_true'] at e4
      obtain ⟨⟨l1, l2, l3, n1, n2, n3⟩, pb⟩ := e4
      exact cs_par3 xk hk (by rw [t.hN]; exact ixOf_0 e1) (by rw [t.hN]; exact ixOf_0 e2) (by rw [t.hN]; exact ixOf_0 e3) (locs t l1) (locs t l2) (locs t l3) n1 n2 n3 pb ha
    · cases e
  · cases e
theorem trS_ok (hp : PassesOwn (model X.prog X.w) X.A X.env X.xe) (hk : X.env.scope.kind = .function) : ∀ (n : Nat) (s : Stmt), Xk S d W X → TOk Γ S X d → CS S X d W cx s (trS n Γ s)
  | 0, _, _, _ => cs_wall
  | n + 1, s, xk, t => by
    have ih := fun a => (tr_ok d S n Γ X W a xk t)
    have ihe := fun a => (ih a).ce
    have cc := fun a => trC_ct (a := a) (f := tr n Γ) (ih a).ct
    have bb := fun l => trB_ok (cx := cx) (l := l) fun s => trS_ok hp hk n s xk t
    cases s with
    | Expr e p =>
      have go : CS S X d W cx (.Expr e p) (match noComp e with
        | true => .ex (tr n Γ e)
        | false => .wall) := by
        split
        · rename_i z; exact cs_expr (ihe e) (sw_none z)
        · exact cs_wall
      cases e with
      | Constant k j p2 => cases k <;> first | exact cs_doc | exact go
      | _ => exact go
    | Return o p =>
      cases o with
      | none => exact cs_retN
      | some e => exact cs_ret (ihe e)
    | Pass p => exact cs_pass
    | Break p => exact cs_break
    | Continue p => exact cs_continue
    | If c a b p => exact cs_ite (cc c) (bb a) (bb b)
    | While c b o p =>
      cases o with
      | nil => exact cs_while hp (cc c) (bb b)
      | cons _ _ => exact cs_wall
    | For tg it b o p =>
      unfold trS
      dsimp only
      split
      · rename_i u k As e1 e2
        obtain ⟨i1, i2, i3⟩ := trI_ok (tg := tg) xk t ihe e2
        exact cs_for i2 hp xk.calm i1 (trT_ok xk t.hN t.sc 9 e1) (bb b) i3
      · exact cs_wall
    | AugAssign tg o v p =>
      unfold trS
      dsimp only
      split
      · exact cs_wall
      · rename_i q e
        rw [bopB_ok e]
        split
        · rename_i x px
          split
          · rename_i i e1 e2
            have z := locs t e2
            exact cs_augN xk.nd (by rw [t.hN]; exact ixOf_0 e1) (.inl z) (ihe v) (.inr z)
          · exact cs_wall
        · rename_i a f pf
          split
          · rename_i i e1
            split
            · rename_i e3
              exact cs_augF t.m.so (by rw [t.m.fld]; exact List.contains_iff_mem.mp e3) (t.m.nm _ _ (ixOf_0 e1)) (ihe a) (ihe v)
            · exact cs_wall
          · exact cs_wall
        · exact cs_wall
    | Assign ts v p =>
      unfold trS
      dsimp only
      split
      · rename_i x px
        split
        · rename_i i e1 e2
          have z := locs t e2
          have hx : X.N[i]? = some x := by rw [t.hN]; exact ixOf_0 e1
          have go : CS S X d W cx (.Assign [.Name x px] v p) (match noComp v with
            | true => .asg (.nm i) (tr n Γ v)
            | false => .wall) := by
            split
            · rename_i z2; exact cs_set xk.nd hx (.inl z) (ihe v) (sw_none z2) (.inr z)
            · exact cs_wall
          cases v with
          | ListComp elt gs scope pl =>
            dsimp only
            split
            · rename_i e5
              unfold swB at e5
              simp only [Bool.and_eq_true, Bool.not_eq_true'] at e5
              obtain ⟨_, e6, e7⟩ := e5
              cases n with
              | zero => exact cs_bad
              | succ n =>
              rcases lc_parts n Γ elt gs scope pl with z0 | ⟨tg, it, ifs, u, k, As, C, rfl, f1, f2, f3, f4, f5⟩
              · rw [z0]; exact cs_bad
              · rw [f5]
                obtain ⟨i1, i2, i3⟩ := trI_ok (tg := tg) xk t (fun a => (tr_ok d S n Γ X W a xk t).ce) f2
                have ok : BlkOk X.N X.env.scope scope (ownOf Γ.N u) := by
                  rw [t.hN, t.sc]
                  exact blkOk_by f4
                refine cs_setLc i2 xk hx z (sw_true hk z e6 e7) i1 ok (own_slots _ _) (fun s H C' cl fp => trT_ok xk.blk t.hN (by show relS scope X.env.scope = _; rw [t.sc]) 9 f1) (fun s H C' cl fp => ?_) (fun s H C' cl fp => (tr_ok d S n _ _ W0 elt xk.blk t.blk).ce) i3
                unfold tIfB at f3
                split at f3
                case h_1 => cases f3; exact pts_no
                case h_2 c =>
                  split at f3
                  · rename_i e8
                    cases f3
                    exact pts_yes ((tr_ok d S n _ _ W0 c xk.blk t.blk).ct e8)
                  · cases f3
                case h_3 => cases f3
            · exact cs_wall
          | _ => exact go
        · exact cs_wall
      · rename_i o f pf
        split
        · rename_i i e1
          split
          · rename_i e3
            exact cs_setF t.m.so (by rw [t.m.fld]; exact List.contains_iff_mem.mp e3) (t.m.nm _ _ (ixOf_0 e1)) (ihe o) (ihe v) sw_attr
          · exact cs_wall
        · exact cs_wall
      · rename_i o i pf
        split
        · rename_i z
          exact cs_setS xk (ihe o) (ihe i) (ihe v) (sub_assign z) sw_sub sst_sub rfl
        · exact cs_wall
      · rename_i x p1 y p2 p3 k p4
        split
        · rename_i i j e1 e2 e3 e4
          rw [Bool.and_eq_true] at e4
          have z1 := locs t e4.1
          have z2 := locs t e4.2
          exact cs_star xk (by rw [t.hN]; exact ixOf_0 e2) (by rw [t.hN]; exact ixOf_0 e3) (.inl z1) (.inl z2) (.inr z1) (.inr z2) (ihe v) sw_tup (sst_none e1) rfl
        · exact cs_wall
      · rename_i es k p4 _
        split
        · rename_i u vs e0
          exact parT_ok hk xk t (trL_ok fun a _ => ihe a) e0
        · split
          · rename_i u e1 e2
            exact cs_asg (ihe v) (trT_ok xk t.hN t.sc 9 e2) sw_tup (sst_none e1) rfl
          · exact cs_wall
      · exact cs_wall
    | _ => exact cs_wall
end
end Ms

set_option Elab.async false
set_option linter.all false
set_option maxRecDepth 100000
/-! Every def keeps its promise: what the machine says of it. -/
namespace Ms
open PySem PySem.Spec L2 Mm
open PyProof.Rows hiding St
section
variable {S : Sg} {K : PySem.W.Frag} {ρ ρ' ρ1 : List Addr} {H H' H1 : Hp} {h h' : AH}
mutual
theorem VR.pure : ∀ {x : AV} {v : V}, pureV x = true → VR S K ρ H x v → VR S K ρ' H x v
  | _, _, _, .non => .non
  | _, _, _, .bl b => .bl b
  | _, _, _, .int i => .int i
  | _, _, _, .str s => .str s
  | _, _, e, .tup a b => .tup a (VRs.pure e b)
  | _, _, e, .ref _ => by cases e
  | _, _, _, .wd i => .wd i
theorem VRs.pure : ∀ {x : List AV} {v : List V}, pureV.pureVs x = true → VRs S K ρ H x v → VRs S K ρ' H x v
  | _, _, _, .nil => .nil
  | _, _, e, .cons a b => by
    unfold pureV.pureVs at e
    rw [Bool.and_eq_true] at e
    exact .cons (VR.pure e.1 a) (VRs.pure e.2 b)
end
theorem FRs.pure {x : List (Nat × AV)} {v : List (Str × V)} (e : pureV.pureVs (x.map fun q => q.2) = true) (a : FRs S K ρ H x v) : FRs S K ρ' H x v := by
  induction a with
  | nil => exact .nil
  | cons a b ih =>
    rw [List.map_cons] at e
    unfold pureV.pureVs at e
    rw [Bool.and_eq_true] at e
    exact .cons (a.pure e.1) (ih e.2)
theorem SqT.grow (k : ∀ b o, H b = some o → H' b = some o) : ∀ p vs, SqT K H p vs → SqT K H' p vs := fun p vs x => by
  rcases x with (x | ⟨o, x⟩) | x
  · exact .inl (.inl (k _ _ x))
  · exact .inl (.inr ⟨o, k _ _ x⟩)
  · exact .inr x
theorem HR.grow (r : HR S K ρ h H) (k : ∀ b o, H b = some o → H' b = some o) : HR S K ρ h H' :=
  ⟨r.len, r.nd, fun i a o h1 h2 => (r.at_ i a o h1 h2).mono2 (SqT.grow k) (fun _ _ z => z) fun u hu => k _ _ hu⟩
theorem HR.nil : HR S K [] [] H := ⟨rfl, .nil, fun i a o h1 _ => by simp at h1⟩
theorem LR.append {l l2 : Lo} {σ σ2 : St} (a : LR S K ρ H l σ) (b : LR S K ρ H l2 σ2) : LR S K ρ H (l ++ l2) (σ ++ σ2) := by
  induction a with
  | nil => exact b
  | no _ ih => exact .no ih
  | yes a _ ih => exact .yes a ih
theorem LR.nones : ∀ n, LR S K ρ H (List.replicate n none) (List.replicate n none)
  | 0 => .nil
  | n + 1 => .no (LR.nones n)
theorem LR.somes {as : List AV} {vs : List V} (a : VRs S K ρ H as vs) : LR S K ρ H (as.map some) (vs.map some) := by
  induction as generalizing vs with
  | nil => cases a; exact .nil
  | cons x xs ih => cases a with
    | cons a b => exact .yes a (ih b)
theorem LR.start {as : List AV} {vs : List V} {N : List Str} {n : Nat} (a : VRs S K ρ H as vs) (hn : n = N.length) : LR S K ρ H (Mm.start n as) (L2.start N vs) := by
  unfold Mm.start L2.start
  rw [hn, a.length]
  exact (LR.somes a).append (LR.nones _)
end
/-- a def of the text -/
structure Df where
  x : Str
  qual : Str
  args : Arguments
  body : List Stmt
  sc : Scope
  N : List Str
  ps : List Str
def FU : Nat := 60
/-- what stays true through the whole law -/
structure Law (S : Sg) (G : Gm) (D : Nat → Option Df) (P : Program) (w : World) (K : PySem.W.Frag) (mg : Str → Option Value) : Prop where
  fns : ∀ f df, D f = some df → (∃ F, S.T.fns[f]? = some F ∧ F.np = df.ps.length ∧ F.ns = df.N.length ∧ F.body = trB (trS FU ⟨df.N, df.sc, true, G⟩) df.body) ∧ FnScope df.N df.ps df.sc ∧
    ∃ fd, FunD K df.x df.qual df.args df.body df.sc [] [] (S.fadr f) fd ∧ Binds K fd df.ps []
  so : Sok S
  hw : WdOk S K w
  nm : ∀ i x, G.nms[i]? = some x → S.nm i = x
  fld : S.flds = G.flds
  met : S.mets = G.mets
  fn : ∀ x f, G.gl.lookup x = some (.fn f) → mg x = some (.ref (S.fadr f)) ∧ (D f).isSome = true
  cls : ∀ x c, G.gl.lookup x = some (.cls c) → mg x = some (.ref (S.cadr c)) ∧ ∃ f cl, S.T.cls[c]? = some cl ∧ cl.init = some f ∧ CF S K c ∧ Mk K (S.cadr c) (S.fadr f) ∧ (D f).isSome = true
  cst : ∀ x v, G.gl.lookup x = some (.cst v) → ∃ u w, mg x = some w ∧ RelV u w ∧ GV S K v u
  free : ∀ x, G.fr.contains x = true → mg x = none
  mt : ∀ m c f, lookM S.T c m = some f → CF S K c → (D f).isSome = true ∧ Meth K (S.cadr c) (S.nm m) (S.fadr f)
  xcls : ∀ x c, G.gl.lookup x = some (.xcls c) → mg x = some (.ref (S.cadr c)) ∧ (∀ base, XkF S P w K mg base c) ∧ KitX S K (.own c) (.ref (S.cadr c))
  xb : ∀ x c, G.gl.lookup x = some (.xb c) → mg x = some (.ref (S.cadr c)) ∧ KitX S K (.own c) (.ref (S.cadr c))
  kv : KitX S K .exv (.type "ValueError")
  kl : KitX S K .exl (.type "LookupError")
section
variable {S : Sg} {G : Gm} {D : Nat → Option Df} {P : Program} {w : World} {K : PySem.W.Frag} {mg : Str → Option Value} {base : Heap} {H : Hp} {ρ : List Addr} {h : AH}
theorem spR_zero {f : Nat} {vs : List V} {Q : VK} {E : XK} (q : spR S K 0 f vs H Q E) : False := by
  obtain ⟨ρ, h, as, _, _, q⟩ := q
  exact q
/-- the promise, of the body -/
theorem body_of {d f : Nat} {F : Fn} {vs : List V} {N : List Str} {Q : VK} {E : XK} (e1 : S.T.fns[f]? = some F) (e2 : F.ns = N.length) (q : spR S K (d + 1) f vs H Q E) :
    tSt S K d (fun cls d _ H => E cls d H) none F.body { nx := fun _ H' => Q .non H', rt := Q } (L2.start N vs) H := by
  obtain ⟨ρ, h, as, r, va, q⟩ := q
  unfold Mm.run at q
  rw [e1] at q
  dsimp only at q
  split at q
  case h_1 => exact q.elim
  case h_2 =>
  split at q
  case h_2 =>
    refine ⟨ρ, h, Mm.start F.ns as, r, LR.start va e2, ?_⟩
    cases z : Mm.st S.T (run S.T d) F.body none (Mm.start F.ns as) h with
    | nx l h2 => rw [z] at q; exact fun ρ' H' σ' r' x' _ => q ρ' H' r' x' _ .non
    | rt v h2 => rw [z] at q; exact fun ρ' H' r' x' u hu => q ρ' H' r' x' u hu
    | bk l h2 => rw [z] at q; exact (show False from q).elim
    | ct l h2 => rw [z] at q; exact (show False from q).elim
    | ex x l h2 => rw [z] at q; exact fun ρ' H' σ' r' x' _ c d xr => q ρ' H' r' x' c d xr
    | bad => rw [z] at q; exact (show False from q).elim
  case h_1 ep =>
    rw [Bool.and_eq_true] at ep
    refine ⟨[], [], Mm.start F.ns as, HR.nil, LR.start (va.pure ep.2) e2, ?_⟩
    -- a value
    have val : ∀ {v : AV} {h2 : AH}, Ans S K ρ H (match pureV v with
        | true => .ok v h
        | false => (match v with
          | .ref i => (match h2[i]? with
            | some (.lst xs) => (match pureV.pureVs xs with
              | true => newO (.lst xs) h
              | false => .bad)
            | _ => .bad)
          | _ => .bad)) (kAv S K Q) (fun x ρ' H' => ∀ c dd, XR S K ρ' H' x c dd → E c dd H') → ∀ ρ' H', HR S K ρ' h2 H' → Ext [] H ρ' H' → ∀ u, VR S K ρ' H' v u → Q u H' := by
      intro v h2 q ρ' H' r' x' u hu
      have kp : ∀ b o, H b = some o → H' b = some o := fun b o e => x'.keep b o e (by simp)
      split at q
      case h_1 e => exact q ρ H' (r.grow kp) ⟨⟨[], by simp⟩, fun b o e _ => kp b o e, fun _ a b => absurd a b⟩ u (hu.pure e)
      case h_2 =>
      split at q
      case h_2 => exact q.elim
      case h_1 i =>
      split at q
      case h_2 => exact q.elim
      case h_1 xs z =>
      split at q
      case h_2 => exact q.elim
      case h_1 ez =>
      obtain ⟨p, rfl, ep2⟩ := hu.ref_inv
      obtain ⟨vs2, hp, vx⟩ := r'.lst ep2 z
      have np : H p = none := x'.new p (List.mem_of_getElem? ep2) (by simp)
      refine q (ρ ++ [p]) H' ((r.grow kp).adopt (r.free np) ⟨vs2, hp, vx.pure ez⟩) ⟨⟨_, rfl⟩, fun b o e _ => kp b o e, fun b hb hn => ?_⟩ _ (.ref (by rw [← r.len]; simp))
      rcases List.mem_append.mp hb with m | m
      · exact absurd m hn
      · rw [List.mem_singleton.mp m]; exact np
    cases z : Mm.st S.T (run S.T d) F.body none (Mm.start F.ns as) [] with
    | nx l h2 => rw [z] at q; exact fun ρ' H' σ' r' x' _ => val (v := .non) (h2 := h2) q ρ' H' r' x' _ .non
    | rt v h2 => rw [z] at q; exact fun ρ' H' r' x' u hu => val q ρ' H' r' x' u hu
    | bk l h2 => rw [z] at q; exact (show False from q).elim
    | ct l h2 => rw [z] at q; exact (show False from q).elim
    | bad => rw [z] at q; exact (show False from q).elim
    | ex x l h2 =>
      rw [z] at q
      intro ρ' H' σ' r' x' _ c dd xr
      have kp : ∀ b o, H b = some o → H' b = some o := fun b o e => x'.keep b o e (by simp)
      replace q : Ans S K ρ H (match pureV.pureVs (x.fs.map fun q => q.2) with
        | true => .ex x h
        | false => .bad) (kAv S K Q) (fun x ρ' H' => ∀ c dd, XR S K ρ' H' x c dd → E c dd H') := q
      cases e : pureV.pureVs (x.fs.map fun q => q.2) with
      | false => rw [e] at q; exact q.elim
      | true =>
      rw [e] at q
      refine q ρ H' (r.grow kp) ⟨⟨[], by simp⟩, fun b o e _ => kp b o e, fun _ a b => absurd a b⟩ c dd ⟨xr.1, ?_⟩
      rcases xr.2 with y | ⟨d1, q1, y1, y2, y3⟩
      · exact .inl y
      · exact .inr ⟨d1, q1, y1, y2, y3.pure e⟩
theorem FunD.inj {x qual : Str} {ar : Arguments} {body : List Stmt} {sc : Scope} {f : Addr} {fd fd' : FuncData} (a : FunD K x qual ar body sc [] [] f fd) (b : FunD K x qual ar body sc [] [] f fd') : fd = fd' := by
  obtain ⟨_, _, _, _, _, _, _, _, _, _, _, e1, _⟩ := a.ex
  obtain ⟨_, _, _, _, _, _, _, _, _, _, _, e2, _⟩ := b.ex
  rw [e1] at e2
  cases e2
  rfl
theorem fns_ok (L : Law S G D P w K mg) : ∀ (d f : Nat) (df : Df), D f = some df → ∃ fd, FnOk P w K mg base (L2.CX P w) (2 * d + 1) (S.fadr f) fd df.ps (spR S K d f) ∧ PySem.W.keepIn K (.ref (S.fadr f)) = true ∧ Binds K fd df.ps [] ∧ FunD K df.x df.qual df.args df.body df.sc [] [] (S.fadr f) fd
  | 0, f, df, e => by
    obtain ⟨_, _, fd, F, B⟩ := L.fns f df e
    exact ⟨fd, ⟨fun _ _ _ _ q => (spR_zero q).elim, fun _ _ _ _ _ _ _ _ _ _ _ _ _ q => (spR_zero q).elim⟩, F.kp, B, F⟩
  | d + 1, f, df, e => by
    obtain ⟨⟨Fn, e1, e2, e3, e4⟩, sc, fd, F, B⟩ := L.fns f df e
    refine ⟨fd, ?_, F.kp, B, F⟩
    have ih := fns_ok L d
    refine FunD.ok (k := 2 * d + 2) F sc (fun vs H Q E q => ?_) fun cdv A outer s H vs Q E hr q => ⟨tSt S K d (fun cls d _ H => E cls d H) none Fn.body, ?_, body_of e1 e3 q⟩
    · obtain ⟨ρ, h, as, r, va, q⟩ := q
      unfold Mm.run at q
      rw [e1] at q
      dsimp only at q
      rw [← va.length]
      split at q
      case h_1 => exact q.elim
      case h_2 z =>
      rw [← e2]
      exact Nat.eq_of_beq_eq_true z
    · have some_of : ∀ {f : Nat}, (D f).isSome = true → ∀ {X : Cx}, X.prog = P → X.w = w → X.K = K → X.mg = mg → X.base = base → FnF S X d f := by
        intro f e X h1 h2 h3 h4 h5
        subst h1 h2 h3 h4 h5
        obtain ⟨df, e⟩ := Option.isSome_iff_exists.mp e
        obtain ⟨fd, a, b, c, _⟩ := ih f df e
        exact ⟨fd, df.ps, a, b, c⟩
      rw [e4]
      refine trB_ok fun st => trS_ok (passes_of rfl) sc.kind FU st ⟨sc.nd, rfl, hr, L2.takes_of rfl rfl rfl rfl⟩ ⟨rfl, rfl, L.so, L.hw, L.nm, L.fld, L.met, fun x f e => ⟨(L.fn x f e).1, some_of (L.fn x f e).2 rfl rfl rfl rfl rfl⟩, fun x c e => ⟨(L.cls x c e).1, ?_⟩, L.cst, L.free, fun m => ⟨fun c f e cf => ⟨some_of (L.mt m c f e cf).1 rfl rfl rfl rfl rfl, (L.mt m c f e cf).2⟩⟩, fun x c e => ⟨(L.xcls x c e).1, (L.xcls x c e).2.1 base, (L.xcls x c e).2.2⟩, L.xb, L.kv, L.kl⟩
      obtain ⟨_, f, cl, h1, h2, h3, h4, h5⟩ := L.cls x c e
      exact ⟨f, ⟨cl, h1, h2⟩, h3, some_of h5 rfl rfl rfl rfl rfl, h4⟩
end
end Ms

set_option Elab.async false
set_option linter.all false
set_option maxRecDepth 100000
/-! From what the module's top has written to the law's facts. -/
namespace Ms
open PySem PySem.Spec L2 Mm
open PyProof.Rows hiding St
structure Dd where
  d : He.DefD
  N : List Str
  ps : List Str
def Dd.df (q : Dd) : Df := ⟨q.d.name, q.d.qual, q.d.params, q.d.body, q.d.scope, q.N, q.ps⟩
/-- a law's data: machine, names, defs, classes' names, dicts' names -/
structure Lw where
  T : Tb
  G : Gm
  ds : List (Option Dd)
  cs : List Str
  ws : List Str
section
variable (L : Lw) (K : PySem.W.Frag)
def Lw.D (f : Nat) : Option Dd := match L.ds[f]? with
  | some (some d) => some d
  | _ => none
def Lw.fadr (f : Nat) : Addr := match L.D f with
  | some d => He.fAd K d.d.at_
  | none => 0
def Lw.sg : Sg := ⟨L.T, fun i => L.G.nms.getD i "", L.G.flds, L.G.mets, L.fadr K, fun c => He.ga K (L.cs.getD c ""), fun i => He.ga K (L.ws.getD i "")⟩
def eqT : List Nat → List Nat → Bool
  | [], [] => true
  | a :: r, b :: q => Nat.beq a b && eqT r q
  | _, _ => false
/-- the written value u is v -/
def gvB : Nat → AV → Value → Bool
  | 0, _, _ => false
  | n + 1, v, u => match v, u with
    | .non, .none => true
    | .bl b, .bool c => b == c
    | .int i, .int j _ => decide (i = j)
    | .str s, .str x _ => eqT s x.cps.toList
    | .tup xs, .ref a => (match K.lookup a with
      | some ⟨.type c, _, .seq its _, _⟩ => decide (c = "tuple") && (Nat.ble its.size 1000 && gvs (gvB n) xs its.toList)
      | _ => false)
    | .wd i, .ref a => a == He.ga K (L.ws.getD i "")
    | _, _ => false
where gvs (f : AV → Value → Bool) : List AV → List Value → Bool
  | [], [] => true
  | x :: xs, u :: us => f x u && gvs f xs us
  | _, _ => false
end
section
variable {L : Lw} {K : PySem.W.Frag}
theorem eqT_ok : ∀ {s t : List Nat}, eqT s t = true → s = t
  | [], [], _ => rfl
  | [], _ :: _, e => by cases e
  | _ :: _, [], e => by cases e
  | a :: r, b :: q, e => by
    unfold eqT at e
    rw [Bool.and_eq_true] at e
    rw [Nat.eq_of_beq_eq_true e.1, eqT_ok e.2]
theorem gvB_ok : ∀ (n : Nat) {v : AV} {u : Value}, gvB L K n v u = true → ∃ x, RelV x u ∧ GV (L.sg K) K v x
  | 0, _, _, e => by cases e
  | n + 1, v, u, e => by
    have all : ∀ {xs : List AV} {us : List Value}, gvB.gvs (gvB L K n) xs us = true → ∃ vs, Vals vs us ∧ ∀ ρ H, VRs (L.sg K) K ρ H xs vs := by
      intro xs
      induction xs with
      | nil =>
        intro us e
        cases us with
        | nil => exact ⟨[], .nil, fun _ _ => .nil⟩
        | cons _ _ => cases e
      | cons x xs ih =>
        intro us e
        cases us with
        | nil => cases e
        | cons u us =>
          unfold gvB.gvs at e
          rw [Bool.and_eq_true] at e
          obtain ⟨y, h1, h2⟩ := gvB_ok n e.1
          obtain ⟨vs, h3, h4⟩ := ih e.2
          exact ⟨y :: vs, .cons h1 h3, fun ρ H => .cons (h2 ρ H) (h4 ρ H)⟩
    unfold gvB at e
    split at e
    case h_1 => exact ⟨.non, rfl, fun _ _ => .non⟩
    case h_2 b c =>
      obtain rfl := eq_of_beq e
      exact ⟨.bl b, rfl, fun _ _ => .bl b⟩
    case h_3 i j t =>
      obtain rfl := of_decide_eq_true e
      exact ⟨.int i, ⟨t, rfl⟩, fun _ _ => .int i⟩
    case h_4 s x t =>
      have e' := eqT_ok e
      refine ⟨.str x, ⟨t, rfl⟩, fun ρ H => ?_⟩
      have z := VR.str (S := L.sg K) (K := K) (ρ := ρ) (H := H) s
      rw [e', toStr_str] at z
      rw [e']
      exact z
    case h_5 xs a =>
      split at e
      case h_2 => cases e
      case h_1 c od its m osl lk =>
      rw [Bool.and_eq_true, Bool.and_eq_true] at e
      obtain ⟨e1, e2, e3⟩ := e
      obtain ⟨vs, h1, h2⟩ := all e3
      have e2' := Nat.le_of_ble_eq_true e2
      refine ⟨.ref a, rfl, fun ρ H => .tup (.inr ⟨_, its, m, lk, congrArg Value.type (of_decide_eq_true e1), rfl, ?_, h1⟩) (h2 ρ H)⟩
      have := sizeLine_eq
      omega
    case h_6 i a =>
      have e' : a = He.ga K (L.ws.getD i "") := eq_of_beq e
      rw [e']
      exact ⟨.ref (He.ga K (L.ws.getD i "")), rfl, fun _ _ => .wd i⟩
    case h_7 => cases e
end
section
variable (L : Lw) (K : PySem.W.Frag)
/-- a written dict's keys, values -/
def wdB (a : Addr) (kvs : List (Tx × AV)) : Bool := match K.lookup a with
  | some ⟨_, _, .dict es _, _⟩ => go kvs es.toList
  | _ => false
where go : List (Tx × AV) → List DictEntry → Bool
  | [], [] => true
  | q :: qs, e :: es => (match e.key with
    | .str x _ => eqT q.1 x.cps.toList && (!e.refKey && (gvB L K 9 q.2 e.val && go qs es))
    | _ => false)
  | _, _ => false
def scB (N ps : List Str) (sc : Scope) : Bool := (match sc.kind with | .function => true | _ => false) && (!sc.isCoroutine && (!sc.isGenerator && (ndB N && (decide (N.take ps.length = ps) && (ps.all (fun x => match sc.names.lookup x with | some .local => true | some .cell => true | _ => false) && sc.names.all fun y => match y.2 with | .free => false | _ => true)))))
where ndB : List Str → Bool
  | [] => true
  | x :: r => !r.contains x && ndB r
def okD (f : Nat) (d : Dd) : Bool := d.d.ok K && (d.d.dfl.isEmpty && (d.d.kwd.isEmpty && (scB d.N d.ps d.d.scope && match L.T.fns[f]? with
  | some F => Nat.beq F.np d.ps.length && Nat.beq F.ns d.N.length
  | none => false)))
def clB (c : Nat) (f : Nat) : Bool := (He.Fa.cls (L.cs.getD c "")).ok K && (L.G.flds.all (fun f => (He.Fa.noat (L.cs.getD c "") (L.G.nms.getD f "")).ok K) && (PySem.W.makesIn K (He.ga K (L.cs.getD c "")) && (He.eqO (PySem.W.findIn K (.ref (He.ga K (L.cs.getD c ""))) "__init__") (some (some (.ref (L.fadr K f)))) && (PySem.W.isFn K (.ref (L.fadr K f)) && (PySem.W.keepIn K (.ref (He.ga K (L.cs.getD c ""))) && (L.D f).isSome)))))
def allIx {α : Type} (p : Nat → α → Bool) : Nat → List α → Bool
  | _, [] => true
  | i, x :: r => p i x && allIx p (i + 1) r
/-- what isinstance tells of exceptions -/
def kitB2 (t : Ty) (cv : Value) : Bool := allIx (fun c cl => match cl.exc with
  | some _ => decide (PySem.W.kitOne K (.ref (He.ga K (L.cs.getD c ""))) cv = isxA L.T.cls ⟨c, [], []⟩ t)
  | none => true) 0 L.T.cls
/-- an exception's __init__: the base's name, the text, self, what is kept of what -/
def xinB : List Stmt → Option (Str × Str × Str × Option (Str × Str))
  | [.Expr (.Call (.Attribute (.Name B _) i p2) [.Name s _, .Constant (.str m) _ _] [] p5) _] => (match i == "__init__" && (p2.endLine == p5.line) with
    | true => some (B, m, s, none)
    | false => none)
  | [.Expr (.Call (.Attribute (.Name B _) i p2) [.Name s _, .Constant (.str m) _ _] [] p5) _, .Assign [.Attribute (.Name s2 _) f _] (.Name x _) _] => (match i == "__init__" && ((p2.endLine == p5.line) && (s2 == s)) with
    | true => some (B, m, s, some (f, x))
    | false => none)
  | _ => none
def bsOf (told : Bool) : Bs := match told with
  | true => bVE
  | false => bLE
def biCB (C0 : Addr) (b : Bs) : Bool := decide (PySem.W.specialIn K (.ref C0) "__getattribute__" = some (some (.builtin "type.__getattribute__"))) && (PySem.W.readsIn K C0 (.type "type") && (match PySem.W.findCls K (.ref C0) (.type "type") "__init__" with
  | some (.val (.builtin i)) => decide (i = b.ini)
  | _ => false))
def xcC (C : Addr) (b : Bs) : Bool := PySem.W.excInitIn K C b.tl b.new && (PySem.W.excOver K C b.tl && ((PySem.W.clsIn K C).any (fun cd => cd.hasDict) && (decide (PySem.W.findIn K (.ref C) "__setattr__" = some (some (.builtin "object.__setattr__"))) &&
  (decide (PySem.W.subIn K (.ref C) (.type "BaseException") = some true) && (decide (PySem.W.typeIn K (.ref C) = some (.type "type")) && PySem.W.keepIn K (.ref C))))))
def xcL (C : Addr) : Bool := decide (PySem.W.findIn K (.ref C) "__getattribute__" = some (some (.builtin "BaseException.__getattribute__"))) && (decide (PySem.W.findIn K (.ref C) "__getattr__" = some none) && (PySem.W.hasDictIn K C && (decide (PySem.W.findIn K (.ref C) "__str__" = some (some (.builtin "BaseException.__str__"))) &&
  ((PySem.W.clsIn K C).isSome && (decide (PySem.W.findIn K (.ref C) "__class__" = some (some (.builtin "object.__class__"))) && (decide (PySem.W.specialIn K (.builtin "object.__class__") "__get__" = some (some (.builtin "getset_descriptor.__get__"))) &&
  (decide (PySem.W.takesIn K (.builtin "object.__class__") = some true) && decide (PySem.W.mroIn K C (.type "object") = some true))))))))
def xcB (c : Nat) : Bool := match L.T.cls[c]? with
  | some cl => (match cl.exc, cl.init with
    | some (m, fs), some f => (match L.D f with
      | some d => (match xinB d.d.body with
        | some (B, msg, s, o) => eqT m msg.cps.toList && (glB d.d.scope B && (!dbgB B && (visB d.d.scope s && (!dbgB s && ((match PySem.W.nsIn K mainGlobals B with
            | some (some (.ref C0)) => biCB K C0 (bsOf cl.told)
            | _ => false) && (xcC K (He.ga K (L.cs.getD c "")) (bsOf cl.told) && (xcL K (He.ga K (L.cs.getD c "")) && (L.G.flds.all (fun i => decide (PySem.W.findIn K (.ref (He.ga K (L.cs.getD c ""))) (L.G.nms.getD i "") = some none)) &&
          (decide (PySem.W.findIn K (.ref (He.ga K (L.cs.getD c ""))) "__init__" = some (some (.ref (L.fadr K f)))) && (decide (PySem.W.typeIn K (.ref (L.fadr K f)) = some (.type "function")) && (PySem.W.handedIn (.builtin (bsOf cl.told).ini) && match o, fs with
            | none, [] => decide (d.N = [s]) && decide (d.ps = [s])
            | some (fn, x), [i] => decide (d.N = [s, x]) && (decide (d.ps = [s, x]) && (visB d.d.scope x && (!dbgB x && ((L.G.nms.getD i "" == fn) && L.G.flds.contains i))))
            | _, _ => false)))))))))))
        | none => false)
      | none => false)
    | _, _ => false)
  | none => false
def glB1 (q : Str × Gk) : Bool := match q.2 with
  | .fn f => (He.eqO (PySem.W.nsIn K mainGlobals q.1) (some (some (.ref (L.fadr K f))))) && (L.D f).isSome
  | .cls c => (He.eqO (PySem.W.nsIn K mainGlobals q.1) (some (some (.ref (He.ga K (L.cs.getD c "")))))) && (match L.T.cls[c]? with
    | some cl => (match cl.init with
      | some f => clB L K c f
      | none => false)
    | none => false)
  | .xcls c => (He.eqO (PySem.W.nsIn K mainGlobals q.1) (some (some (.ref (He.ga K (L.cs.getD c "")))))) && (xcB L K c && kitB2 L K (.own c) (.ref (He.ga K (L.cs.getD c ""))))
  | .xb c => (He.eqO (PySem.W.nsIn K mainGlobals q.1) (some (some (.ref (He.ga K (L.cs.getD c "")))))) && kitB2 L K (.own c) (.ref (He.ga K (L.cs.getD c "")))
  | .cst v => (match PySem.W.nsIn K mainGlobals q.1 with
    | some (some u) => gvB L K 9 v u
    | _ => false)
def mtB (c : Nat) (cl : Cl) : Bool := cl.meths.all fun q => (L.D q.2).isSome && (He.eqO (PySem.W.findIn K (.ref (He.ga K (L.cs.getD c ""))) (L.G.nms.getD q.1 "")) (some (some (.ref (L.fadr K q.2)))) && (PySem.W.isFn K (.ref (L.fadr K q.2)) && PySem.W.keepIn K (.ref (L.fadr K q.2))))
def ndN : List Nat → Bool
  | [] => true
  | x :: r => !r.contains x && ndN r
/-- all that is asked of K by a kernel run -/
def Lw.chk : Bool :=
  allIx (fun f d => match d with | some d => okD L K f d | none => true) 0 L.ds && (L.G.gl.all (glB1 L K) && (L.G.fr.all (fun x => (He.Fa.free x).ok K) && (allIx (mtB L K) 0 L.T.cls && (allIx (fun i kvs => wdB L K (He.ga K (L.ws.getD i "")) kvs) 0 L.T.wds && (kitB2 L K .exv (.type "ValueError") && kitB2 L K .exl (.type "LookupError"))))))
end
theorem allIx_ok {α : Type} {p : Nat → α → Bool} : ∀ {l : List α} {i : Nat}, allIx p i l = true → ∀ j x, l[j]? = some x → p (i + j) x = true
  | [], _, _, _, _, e => by simp at e
  | x :: r, i, h, j, y, e => by
    unfold allIx at h
    rw [Bool.and_eq_true] at h
    cases j with
    | zero => simp at e; subst e; exact h.1
    | succ j =>
      have := allIx_ok h.2 j y (by simpa using e)
      rw [show i + (j + 1) = i + 1 + j by omega]
      exact this
end Ms
namespace Ms
open PySem PySem.Spec L2 Mm
open PyProof.Rows hiding St
section
variable {L : Lw} {K : PySem.W.Frag}
theorem mem_lk {α β : Type} [BEq α] [LawfulBEq α] : ∀ {l : List (α × β)} {x : α} {y : β}, l.lookup x = some y → (x, y) ∈ l
  | [], _, _, e => by cases e
  | (a, b) :: r, x, y, e => by
    rw [List.lookup_cons] at e
    split at e
    · rename_i z
      cases e
      rw [eq_of_beq z]
      exact List.mem_cons_self ..
    · exact List.mem_cons_of_mem _ (mem_lk e)
theorem Lw.D_at {f : Nat} {d : Dd} (e : L.D f = some d) : L.ds[f]? = some (some d) := by
  unfold Lw.D at e
  split at e
  · rename_i d2 z; cases e; exact z
  · cases e
theorem cf_of {c f : Nat} (h : clB L K c f = true) : CF (L.sg K) K c ∧ Mk K (He.ga K (L.cs.getD c "")) (L.fadr K f) ∧ (L.D f).isSome = true := by
  unfold clB at h
  simp only [Bool.and_eq_true] at h
  obtain ⟨h1, h2, h3, h4, h5, h6, h7⟩ := h
  exact ⟨⟨He.cls_ok h1, fun f m => He.noat_ok (List.all_eq_true.mp h2 f m)⟩, ⟨h3, He.eqO_ok h4, h5, h6⟩, h7⟩
theorem wd_find {kvs : List (Tx × AV)} {es : List DictEntry} (h : wdB.go L K kvs es = true) (s : Tx) : (es.any (·.refKey) = false) ∧ match kvs.find? (fun q => Mm.eqX q.1 s) with
    | some q => ∃ e, es.find? (·.key.isStr (toStr s)) = some e ∧ ∃ x, RelV x e.val ∧ GV (L.sg K) K q.2 x
    | none => es.find? (·.key.isStr (toStr s)) = none := by
  induction kvs generalizing es with
  | nil => cases es with
    | nil => exact ⟨rfl, rfl⟩
    | cons _ _ => cases h
  | cons q qs ih => cases es with
    | nil => cases h
    | cons e es =>
      unfold wdB.go at h
      split at h
      case h_2 => cases h
      case h_1 x t ek =>
      simp only [Bool.and_eq_true, Bool.not_eq_true'] at h
      obtain ⟨h1, h2, h3, h4⟩ := h
      obtain ⟨i1, i2⟩ := ih h4
      refine ⟨by rw [List.any_cons, h2, i1]; rfl, ?_⟩
      have hx : x = toStr q.1 := by rw [eqT_ok h1, toStr_str]
      have key : e.key.isStr (toStr s) = Mm.eqX q.1 s := by
        rw [ek, eqX_dec, hx]
        show decide (toStr q.1 = toStr s) = decide (q.1 = s)
        by_cases z : q.1 = s
        · rw [z]; simp
        · rw [decide_eq_false z, decide_eq_false fun w => z (toStr_inj w)]
      rw [List.find?_cons, List.find?_cons, key]
      cases z : Mm.eqX q.1 s with
      | true =>
        obtain ⟨y, y1, y2⟩ := gvB_ok 9 h3
        exact ⟨e, rfl, y, y1, y2⟩
      | false => exact i2
theorem wd_ok {i : Nat} {kvs : List (Tx × AV)} (h : wdB L K (He.ga K (L.ws.getD i "")) kvs = true) (s : Tx) : match kvs.find? (fun q => Mm.eqX q.1 s) with
    | some q => ∃ v u, PySem.W.nsIn K ((L.sg K).wadr i) (toStr s) = some (some u) ∧ RelV v u ∧ GV (L.sg K) K q.2 v
    | none => PySem.W.nsIn K ((L.sg K).wadr i) (toStr s) = some none := by
  unfold wdB at h
  split at h
  case h_2 => cases h
  case h_1 oc od es ep osl lk =>
  obtain ⟨h1, h2⟩ := wd_find h s
  have e : PySem.W.nsIn K ((L.sg K).wadr i) (toStr s) = (match es.toList.find? (·.key.isStr (toStr s)) with
      | some e => some (some e.val)
      | none => if es.toList.any (·.refKey) then none else some none) := by
    unfold PySem.W.nsIn
    have lk' : K.lookup ((L.sg K).wadr i) = some { cls := oc, dict := od, data := .dict es ep, slots := osl } := lk
    rw [lk']
    rfl
  cases z : kvs.find? (fun q => Mm.eqX q.1 s) with
  | some q =>
    rw [z] at h2
    obtain ⟨en, e1, x, e2, e3⟩ := h2
    rw [e1] at e
    exact ⟨x, en.val, e, e2, e3⟩
  | none =>
    rw [z] at h2
    rw [h2] at e
    rw [e, h1]
    rfl
theorem nd_ok : ∀ {l : List Str}, scB.ndB l = true → l.Nodup
  | [], _ => .nil
  | x :: r, h => by
    unfold scB.ndB at h
    rw [Bool.and_eq_true] at h
    refine List.nodup_cons.mpr ⟨fun m => ?_, nd_ok h.2⟩
    have := List.contains_iff_mem.mpr m
    rw [this] at h
    cases h.1
theorem sc_ok {N ps : List Str} {sc : Scope} (h : scB N ps sc = true) : FnScope N ps sc := by
  unfold scB at h
  simp only [Bool.and_eq_true, Bool.not_eq_true', decide_eq_true_eq] at h
  obtain ⟨h1, h2, h3, h4, h5, h6, h7⟩ := h
  refine ⟨?_, h2, h3, nd_ok h4, h5, fun x m => ?_, fun y m z => ?_⟩
  · split at h1
    · assumption
    · cases h1
  · have := List.all_eq_true.mp h6 x m
    split at this
    · exact .inl (by assumption)
    · exact .inr (by assumption)
    · cases this
  · have := List.all_eq_true.mp h7 y m
    rw [z] at this
    cases this
theorem allIx_ok' {α : Type} {p : Nat → α → Bool} {l : List α} (h : allIx p 0 l = true) {j : Nat} {x : α} (e : l[j]? = some x) : p j x = true := by
  have := allIx_ok h j x e
  rw [Nat.zero_add] at this
  exact this
theorem kit_ok {t : Ty} {cv : Value} (h : kitB2 L K t cv = true) : KitX (L.sg K) K t cv := by
  intro c cl e1 e2
  have := allIx_ok' h (j := c) (x := cl) e1
  split at this
  · exact of_decide_eq_true this
  · rename_i z
    rw [z] at e2
    cases e2
theorem bic_ok {C0 : Addr} {b : Bs} (h : biCB K C0 b = true) : BiC K C0 (.type "type") b := by
  unfold biCB at h
  rw [Bool.and_eq_true, Bool.and_eq_true] at h
  obtain ⟨h1, h2, h3⟩ := h
  refine ⟨of_decide_eq_true h1, h2, ?_⟩
  split at h3
  · rename_i i z
    rw [z, of_decide_eq_true h3]
  · cases h3
theorem bs_ok (told : Bool) : BsOk (bsOf told) := by
  cases told
  · exact bLE_ok
  · exact bVE_ok
theorem xcc_ok {C : Addr} {told : Bool} (h : xcC K C (bsOf told) = true) : XcC K C (bsOf told) := by
  unfold xcC at h
  simp only [Bool.and_eq_true] at h
  obtain ⟨h1, h2, h3, h4, h5, h6, h7⟩ := h
  exact ⟨bs_ok told, h1, h2, h3, of_decide_eq_true h4, of_decide_eq_true h5, of_decide_eq_true h6, h7⟩
theorem xcl_ok {C : Addr} (h : xcL K C = true) (e : PySem.W.subIn K (.ref C) (.type "BaseException") = some true) : XcL K C := by
  unfold xcL at h
  simp only [Bool.and_eq_true] at h
  obtain ⟨h1, h2, h3, h4, h5, h6, h7, h8, h9⟩ := h
  exact ⟨of_decide_eq_true h1, of_decide_eq_true h2, e, h3, of_decide_eq_true h4, h5, of_decide_eq_true h6, of_decide_eq_true h7, of_decide_eq_true h8, of_decide_eq_true h9, of_decide_eq_true h6⟩
theorem xin_ok {body : List Stmt} {B m s : Str} {o : Option (Str × Str)} (h : xinB body = some (B, m, s, o)) : ∃ p1 p2 p3 p4 p5 p6 j, (p2.endLine == p5.line) = true ∧
    ((o = none ∧ body = [.Expr (.Call (.Attribute (.Name B p1) "__init__" p2) [.Name s p3, .Constant (.str m) j p4] [] p5) p6]) ∨
      ∃ f x p7 p8 p9 p10, o = some (f, x) ∧ body = [.Expr (.Call (.Attribute (.Name B p1) "__init__" p2) [.Name s p3, .Constant (.str m) j p4] [] p5) p6, .Assign [.Attribute (.Name s p7) f p8] (.Name x p9) p10]) := by
  unfold xinB at h
  split at h
  case h_3 => cases h
  case h_1 =>
    split at h
    case h_2 => cases h
    case h_1 z =>
    rw [Bool.and_eq_true] at z
    cases h
    have z1 := eq_of_beq z.1
    subst z1
    exact ⟨_, _, _, _, _, _, _, z.2, .inl ⟨rfl, rfl⟩⟩
  case h_2 =>
    split at h
    case h_2 => cases h
    case h_1 z =>
    rw [Bool.and_eq_true, Bool.and_eq_true] at z
    cases h
    have z1 := eq_of_beq z.1
    subst z1
    have z2 := eq_of_beq z.2.2
    subst z2
    exact ⟨_, _, _, _, _, _, _, z.2.1, .inr ⟨_, _, _, _, _, _, rfl, rfl⟩⟩
theorem xk_ok {P : Program} {w : World} {mg : Str → Option Value} {h : Heap} (X : K.In h) (Gl : h.Ns mainGlobals mg) {c : Nat} (hx : xcB L K c = true)
    (fns : ∀ f df, ((L.D f).map Dd.df) = some df → FnScope df.N df.ps df.sc ∧ ∃ fd, FunD K df.x df.qual df.args df.body df.sc [] [] (L.fadr K f) fd ∧ Binds K fd df.ps []) (base : Heap) : XkF (L.sg K) P w K mg base c := by
  unfold xcB at hx
  split at hx
  case h_2 => cases hx
  case h_1 cl ecl =>
  split at hx
  case h_2 => cases hx
  case h_1 m fs f e1 e2 =>
  split at hx
  case h_2 => cases hx
  case h_1 d ed =>
  split at hx
  case h_2 => cases hx
  case h_1 B msg s o ex =>
  simp only [Bool.and_eq_true, Bool.not_eq_true'] at hx
  obtain ⟨k1, k2, k3, k4, k5, k6, k7, k8, k9, k10, k11, k12, k13⟩ := hx
  split at k6
  case h_2 => cases k6
  case h_1 C0 eB =>
  have BC := bic_ok k6
  have XC := xcc_ok k7
  have XL := xcl_ok k8 XC.ex
  obtain ⟨sc, fd, FD, bd⟩ := fns f d.df (by rw [ed]; rfl)
  obtain ⟨b1, b2, b3⟩ := dbg_ok k3
  obtain ⟨s1, s2, s3⟩ := dbg_ok k5
  have hm : mg B = some (.ref C0) := PySem.W.mg_of X Gl eB
  have em : toStr m = msg := by rw [eqT_ok k1, toStr_str]
  have xf : XF (L.sg K) K c := ⟨XL, fun i mi => of_decide_eq_true (List.all_eq_true.mp k9 i mi)⟩
  have glo : d.d.scope.names.lookup B = some .globalImplicit := by
    unfold glB at k2
    split at k2 <;> first | assumption | cases k2
  refine ⟨bsOf cl.told, m, fs, cl, L.fadr K f, fd, d.ps, ecl, e1, XC, xf, of_decide_eq_true k10, of_decide_eq_true k11, bd, ?_⟩
  obtain ⟨p1, p2, p3, p4, p5, p6, j, hl, hb⟩ := xin_ok ex
  rcases hb with ⟨rfl, hb⟩ | ⟨fn, x, p7, p8, p9, p10, rfl, hb⟩
  · cases fs with
    | cons _ _ => cases k13
    | nil =>
      dsimp only at k13
      rw [Bool.and_eq_true] at k13
      have n1 := of_decide_eq_true k13.1
      have n2 := of_decide_eq_true k13.2
      refine .inl ⟨rfl, ?_⟩
      have FD2 : FunD K d.d.name d.d.qual d.d.params d.d.body d.d.scope [] [] (L.fadr K f) fd := FD
      have sc2 : FnScope d.N d.ps d.d.scope := sc
      rw [hb] at FD2
      rw [n1, n2] at sc2
      rw [n2, em]
      exact init0_ok FD2 sc2 glo hm BC k12 b1 hl k4 s1 s2
  · cases fs with
    | nil => cases k13
    | cons i r => cases r with
      | cons _ _ => cases k13
      | nil =>
        dsimp only at k13
        simp only [Bool.and_eq_true, Bool.not_eq_true'] at k13
        obtain ⟨n1, n2, v2, dx, nf, nc⟩ := k13
        have n1 := of_decide_eq_true n1
        have n2 := of_decide_eq_true n2
        obtain ⟨x1, x2, x3⟩ := dbg_ok dx
        have nf := eq_of_beq nf
        refine .inr ⟨i, rfl, List.contains_iff_mem.mp nc, ?_⟩
        have FD2 : FunD K d.d.name d.d.qual d.d.params d.d.body d.d.scope [] [] (L.fadr K f) fd := FD
        have sc2 : FnScope d.N d.ps d.d.scope := sc
        rw [hb] at FD2
        rw [n1, n2] at sc2
        have en : (L.sg K).nm i = fn := nf
        rw [n2, em, en]
        exact init1_ok FD2 sc2 glo hm BC k12 b1 hl k4 v2 s1 s2 x1 x2
/-- the law's facts from what was run -/
theorem law_of {P : Program} {w : World} {mg : Str → Option Value} {h : Heap} (X : K.In h) (Gl : h.Ns mainGlobals mg) (ch : L.chk K = true)
    (hW : (L.ds.map fun o => o.map fun d => He.fnW K d.d.at_) = L.ds.map fun o => o.map fun d => d.d.val)
    (hK : ((List.range L.T.wds.length).map fun i => He.dicW K (He.ga K (L.ws.getD i ""))) = L.T.wds.map fun kvs => some (He.keysIn w.params (kvs.map fun q => toStr q.1)))
    (hB : ∀ f d F, L.D f = some d → L.T.fns[f]? = some F → F.body = trB (trS FU ⟨d.N, d.d.scope, true, L.G⟩) d.d.body)
    (hBi : ∀ f d fd, L.D f = some d → FunD K d.d.name d.d.qual d.d.params d.d.body d.d.scope [] [] (L.fadr K f) fd → Binds K fd d.ps [])
    (so : Sok (L.sg K)) : Law (L.sg K) L.G (fun f => (L.D f).map Dd.df) P w K mg := by
  unfold Lw.chk at ch
  simp only [Bool.and_eq_true] at ch
  obtain ⟨c1, c2, c3, c4, c5, c6, c7⟩ := ch
  have isS : ∀ {f : Nat}, (L.D f).isSome = true → ((L.D f).map Dd.df).isSome = true := fun e => by rw [Option.isSome_map]; exact e
  have fnsP : ∀ f df, ((L.D f).map Dd.df) = some df → (∃ F, L.T.fns[f]? = some F ∧ F.np = df.ps.length ∧ F.ns = df.N.length ∧ F.body = trB (trS FU ⟨df.N, df.sc, true, L.G⟩) df.body) ∧ FnScope df.N df.ps df.sc ∧
    ∃ fd, FunD K df.x df.qual df.args df.body df.sc [] [] (L.fadr K f) fd ∧ Binds K fd df.ps [] := by
    intro f df e
    cases ed : L.D f with
    | none => rw [ed] at e; cases e
    | some d =>
    rw [ed] at e
    cases e
    have da := Lw.D_at ed
    have o := allIx_ok c1 f _ da
    rw [Nat.zero_add] at o
    replace o : okD L K f d = true := o
    unfold okD at o
    simp only [Bool.and_eq_true] at o
    obtain ⟨o1, o2, o3, o4, o5⟩ := o
    split at o5
    case h_2 => cases o5
    case h_1 F eF =>
    rw [Bool.and_eq_true] at o5
    have ew : He.fnW K d.d.at_ = d.d.val := by
      have z : (L.ds.map fun o => o.map fun d => He.fnW K d.d.at_)[f]? = (L.ds.map fun o => o.map fun d => d.d.val)[f]? := by rw [hW]
      rw [List.getElem?_map, List.getElem?_map, da] at z
      exact Option.some.inj (Option.some.inj z)
    obtain ⟨fd, FD⟩ := He.DefD.funD ew o1
    have z1 : d.d.dvs K = [] := by
      unfold He.DefD.dvs
      rw [List.isEmpty_iff.mp o2]
      rfl
    have z2 : d.d.kws K = [] := by
      unfold He.DefD.kws
      rw [List.isEmpty_iff.mp o3]
      rfl
    rw [z1, z2] at FD
    have ef : L.fadr K f = He.fAd K d.d.at_ := by unfold Lw.fadr; rw [ed]
    rw [← ef] at FD
    exact ⟨⟨F, eF, Nat.eq_of_beq_eq_true o5.1, Nat.eq_of_beq_eq_true o5.2, hB f d F ed eF⟩, sc_ok o4, fd, FD, hBi f d fd ed FD⟩
  refine ⟨fnsP, so, fun i kvs e => ⟨?_, fun s => ?_⟩, fun i x e => ?_, rfl, rfl, fun x f e => ?_, fun x c e => ?_, fun x v e => ?_, fun x e => ?_, fun m c f e cf => ?_, fun x c e => ?_, fun x c e => ?_, kit_ok c6, kit_ok c7⟩
  · have z : ((List.range L.T.wds.length).map fun i => He.dicW K (He.ga K (L.ws.getD i "")))[i]? = (L.T.wds.map fun kvs => some (He.keysIn w.params (kvs.map fun q => toStr q.1)))[i]? := by rw [hK]
    replace e : L.T.wds[i]? = some kvs := e
    have hi : i < L.T.wds.length := (List.getElem?_eq_some_iff.mp e).1
    rw [List.getElem?_map, List.getElem?_map, e, List.getElem?_range hi] at z
    exact He.dicW_ok (Option.some.inj z)
  · have o := allIx_ok c5 i _ e
    rw [Nat.zero_add] at o
    exact wd_ok o s
  · show L.G.nms.getD i "" = x
    rw [List.getD_eq_getElem?_getD, e]
    rfl
  · have o := List.all_eq_true.mp c2 _ (mem_lk e)
    unfold glB1 at o
    rw [Bool.and_eq_true] at o
    exact ⟨PySem.W.mg_of X Gl (He.eqO_ok o.1), isS o.2⟩
  · have o := List.all_eq_true.mp c2 _ (mem_lk e)
    unfold glB1 at o
    rw [Bool.and_eq_true] at o
    obtain ⟨o1, o2⟩ := o
    split at o2
    case h_2 => cases o2
    case h_1 cl ecl =>
    split at o2
    case h_2 => cases o2
    case h_1 f ei =>
    obtain ⟨k1, k2, k3⟩ := cf_of o2
    exact ⟨PySem.W.mg_of X Gl (He.eqO_ok o1), f, cl, ecl, ei, k1, k2, isS k3⟩
  · have o := List.all_eq_true.mp c2 _ (mem_lk e)
    unfold glB1 at o
    dsimp only at o
    split at o
    case h_2 => cases o
    case h_1 u eu =>
    obtain ⟨y, y1, y2⟩ := gvB_ok 9 o
    exact ⟨y, u, PySem.W.mg_of X Gl eu, y1, y2⟩
  · exact He.free_ok X Gl (List.all_eq_true.mp c3 x (List.contains_iff_mem.mp e))
  · unfold lookM at e
    split at e
    case h_2 => cases e
    case h_1 cl ecl =>
    have o := allIx_ok c4 c cl ecl
    rw [Nat.zero_add] at o
    have mm : (m, f) ∈ cl.meths := mem_lk e
    have o2 := List.all_eq_true.mp o _ mm
    simp only [Bool.and_eq_true] at o2
    obtain ⟨p1, p2, p3, p4⟩ := o2
    exact ⟨isS p1, He.eqO_ok p2, p3, p4⟩
  · have o := List.all_eq_true.mp c2 _ (mem_lk e)
    unfold glB1 at o
    simp only [Bool.and_eq_true] at o
    obtain ⟨o1, o2, o3⟩ := o
    exact ⟨PySem.W.mg_of X Gl (He.eqO_ok o1), xk_ok X Gl o2 fun f df e => (fnsP f df e).2, kit_ok o3⟩
  · have o := List.all_eq_true.mp c2 _ (mem_lk e)
    unfold glB1 at o
    simp only [Bool.and_eq_true] at o
    obtain ⟨o1, o2⟩ := o
    exact ⟨PySem.W.mg_of X Gl (He.eqO_ok o1), kit_ok o2⟩
end
end Ms

set_option Elab.async false
set_option linter.all false
set_option maxRecDepth 100000
/-! The law, from a run of the machine. -/
namespace Ms
open PySem PySem.Spec L2 Mm
open PyProof.Rows hiding St
theorem VRs.ints' {S : Sg} {K : PySem.W.Frag} {ρ : List Addr} {H : Hp} (is : List Int) : VRs S K ρ H (is.map .int) (is.map V.int) := by
  induction is with
  | nil => exact .nil
  | cons s ss ih => exact .cons (.int s) ih
theorem walk_all {l : PySem.W.OpenLaw} {q : Program} {loose : List Str} {XP : (Str → Option Value) → Heap → Prop} {YP : World → Heap → Prop} {d : DefRec} {K : Params → PySem.W.Frag} {L : Lw} {dl fl : Nat} {dd : Dd}
    (hn : l.most = some 63) (hdf : d.params.defaults = []) (hY : ∀ (w : World) (h : Heap), YP w h → (K w.params).In h) (hr : Room (2 * dl + 1) callerA)
    (hd : L.D fl = some dd) (hps : dd.ps = [("script" : Str)]) (hnm : ∀ (w : World) (h : Heap) (mg : Str → Option Value) (fa : Addr), (K w.params).In h → h.Ns mainGlobals mg → mg d.name = some (.ref fa) → fa = L.fadr (K w.params) fl)
    (hb : ∀ (fd : FuncData) (K : PySem.W.Frag), FunD K dd.d.name dd.d.qual dd.d.params dd.d.body dd.d.scope [] [] (L.fadr K fl) fd → ∀ (s : Shared) (u : Value), BindsTo s fd ⟨[u], []⟩ [("script", u)])
    (F : ∀ (w : World) (mg : Str → Option Value) (h : Heap), (K w.params).In h → h.Ns mainGlobals mg → Law (L.sg (K w.params)) L.G (fun f => (L.D f).map Dd.df) l.prog w (K w.params) mg)
    (hK : ∀ (w : World), (K w.params).all (fun p => match p.2.cls with | .type c => !(c == "list") | _ => true) = true)
    (res : ∀ ns : List Int, ns.length ≤ 63 → ∃ h', Mm.run L.T dl fl [.ref 0] [.flst (ns.map .int)] = .ok (.bl true) h') :
    PySem.W.WalkO q loose XP YP l.row.toRowW d [] (fun f vs => PySem.call f vs) := by
  refine L2.walk_of (n := 63) (k := 2 * dl + 1) (x := "script") (CX := fun w => L2.CX l.prog w) (sp := fun w => spR (L.sg (K w.params)) (K w.params) dl fl) hn (by decide) hdf hr hY (fun w mg fa h KX G hmg => ?_) (fun w H a ns hl ho hS => ?_) fun w H s e s' z => ?_
  · have e := hnm w h mg fa KX G hmg
    have La := F w mg h KX G
    have ed : (fun f => (L.D f).map Dd.df) fl = some dd.df := by
      show (L.D fl).map Dd.df = some dd.df
      rw [hd]
      rfl
    obtain ⟨_, _, fd0, FD0, _⟩ := La.fns fl dd.df ed
    obtain ⟨fd, ok, kp, bd, FD⟩ := fns_ok (base := h) La dl fl dd.df ed
    refine ⟨fd, hb fd _ FD, fun base hi hg => ?_⟩
    obtain ⟨fd', ok', _, _, FD'⟩ := fns_ok (base := base) La dl fl dd.df ed
    rw [FunD.inj FD' FD] at ok'
    rw [e]
    have ep : dd.df.ps = [("script" : Str)] := hps
    rw [ep] at ok'
    exact ok'
  · have hr2 : Rd H a (.lst (ns.map V.int)) := by
      rcases hS with z | ⟨o, its, n, z1, z2, _⟩
      · exact z
      · have z3 := List.all_eq_true.mp (hK w) (a, o) (mem_lk z1)
        dsimp only at z3
        rw [z2] at z3
        cases z3
    have ex : ∃ u, H a = some u := by
      rcases hr2 with z | ⟨o, z⟩ <;> exact ⟨_, z⟩
    have nt : NoTup H a := by
      rcases hr2 with z | ⟨o, z⟩
      · exact notup_of z (fun _ z => nomatch z) fun _ _ z => nomatch z
      · exact notup_of z (fun _ z => nomatch z) fun _ _ z => nomatch z
    obtain ⟨h', e⟩ := res ns hl
    refine ⟨[a], [.flst (ns.map .int)], [.ref 0], ⟨rfl, by simp, fun i b o h1 h2 => ?_⟩, .cons (.ref rfl) .nil, ?_⟩
    · cases i with
      | zero =>
        simp at h1 h2
        subst h1 h2
        exact ⟨nt, ex, _, .inl hr2, VRs.ints' ns⟩
      | succ i => simp at h1
    · show Ans _ _ _ _ (Mm.run L.T dl fl [.ref 0] [.flst (ns.map .int)]) _ _
      rw [e]
      exact fun ρ' H' _ _ u hu => hu.bl_inv
  · obtain ⟨a, B, H', cls, d, _, _, _, _, _, _, _, z⟩ := z
    exact z
theorem lookM_none {T : Tb} {m : Nat} (h : (T.cls.all fun d => (d.meths.lookup m).isNone) = true) (c : Nat) : lookM T c m = none := by
  unfold lookM
  split
  · rename_i d e
    exact Option.isNone_iff_eq_none.mp (List.all_eq_true.mp h d (List.mem_of_getElem? e))
  · rfl
def sokB (L : Lw) : Bool := (L.G.flds.all fun f => L.G.flds.all fun g => (f == g) || !(L.G.nms.getD f "" == L.G.nms.getD g "")) && ((L.G.flds.all fun f => L.G.mets.all fun m => !(L.G.nms.getD f "" == L.G.nms.getD m "")) &&
  ((L.T.cls.all fun d => (d.meths.lookup 0).isNone) && (L.T.cls.all fun d => (d.meths.lookup 1).isNone)))
theorem sok_of {L : Lw} (h : sokB L = true) (K : PySem.W.Frag) : Sok (L.sg K) := by
  unfold sokB at h
  simp only [Bool.and_eq_true] at h
  obtain ⟨h1, h2, h3, h4⟩ := h
  refine ⟨fun f hf g hg e => ?_, fun f hf m hm e => ?_, lookM_none h3, lookM_none h4⟩
  · have z := List.all_eq_true.mp (List.all_eq_true.mp h1 f hf) g hg
    have e' : L.G.nms.getD f "" = L.G.nms.getD g "" := e
    rw [e'] at z
    simpa using z
  · have z := List.all_eq_true.mp (List.all_eq_true.mp h2 f hf) m hm
    have e' : L.G.nms.getD f "" = L.G.nms.getD m "" := e
    rw [e'] at z
    simp at z
end Ms

set_option Elab.async false
set_option linter.all false
/-! A small logic of the machine: what holds behind a run. -/
namespace Mm
/-- r ends well with Q, or goes out with X -/
def WR {α : Type} (r : Rs α) (Q : α → AH → Prop) (X : AX → AH → Prop) : Prop := match r with
  | .ok a h => Q a h
  | .ex x h => X x h
  | .bad => False
/-- r of a statement: goes on with N, returns with R, goes out with X, breaks with B, continues with C -/
def WS (r : Fl) (N : Lo → AH → Prop) (R : AV → AH → Prop) (X : AX → Lo → AH → Prop) (B C : Lo → AH → Prop) : Prop := match r with
  | .nx l h => N l h
  | .rt v h => R v h
  | .ex x l h => X x l h
  | .bk l h => B l h
  | .ct l h => C l h
  | .bad => False
def WT (t : Option Bool) (A B : Prop) : Prop := match t with
  | some true => A
  | some false => B
  | none => False
def WO {α : Type} (t : Option α) (A : α → Prop) : Prop := match t with
  | some a => A a
  | none => False
theorem WR_mono {α : Type} {r : Rs α} {Q Q' : α → AH → Prop} {X X' : AX → AH → Prop} (w : WR r Q X) (q : ∀ a h, Q a h → Q' a h) (x : ∀ a h, X a h → X' a h) : WR r Q' X' := by
  cases r with
  | ok a h => exact q _ _ w
  | ex a h => exact x _ _ w
  | bad => exact w
theorem WR_get {α : Type} {r : Rs α} {Q : α → AH → Prop} (w : WR r Q (fun _ _ => False)) : ∃ a h, r = .ok a h ∧ Q a h := by
  cases r with
  | ok a h => exact ⟨a, h, rfl, w⟩
  | ex a h => exact w.elim
  | bad => exact w.elim
theorem WR_of {α : Type} {r : Rs α} {Q : α → AH → Prop} {X : AX → AH → Prop} {a : α} {h : AH} (e : r = .ok a h) (q : Q a h) : WR r Q X := by rw [e]; exact q
theorem WS_mono {r : Fl} {N N' B B' C C' : Lo → AH → Prop} {R R' : AV → AH → Prop} {X X' : AX → Lo → AH → Prop} (w : WS r N R X B C) (n : ∀ a h, N a h → N' a h) (q : ∀ a h, R a h → R' a h) (x : ∀ a l h, X a l h → X' a l h) (b : ∀ a h, B a h → B' a h) (c : ∀ a h, C a h → C' a h) : WS r N' R' X' B' C' := by
  cases r with
  | nx a h => exact n _ _ w
  | rt a h => exact q _ _ w
  | ex a l h => exact x _ _ _ w
  | bk a h => exact b _ _ w
  | ct a h => exact c _ _ w
  | bad => exact w
theorem WR_ok {α : Type} {a : α} {h : AH} {Q : α → AH → Prop} {X : AX → AH → Prop} : WR (.ok a h) Q X = Q a h := rfl
theorem WR_bad {α : Type} {Q : α → AH → Prop} {X : AX → AH → Prop} : WR .bad Q X = False := rfl
theorem WR_bind {α β : Type} {r : Rs α} {k : α → AH → Rs β} {Q : β → AH → Prop} {X : AX → AH → Prop} : WR (r.bind k) Q X = WR r (fun a h => WR (k a h) Q X) X := by cases r <;> rfl
theorem WS_nx {l : Lo} {h : AH} {N B C : Lo → AH → Prop} {R : AV → AH → Prop} {X : AX → Lo → AH → Prop} : WS (.nx l h) N R X B C = N l h := rfl
theorem WS_rt {v : AV} {h : AH} {N B C : Lo → AH → Prop} {R : AV → AH → Prop} {X : AX → Lo → AH → Prop} : WS (.rt v h) N R X B C = R v h := rfl
theorem WS_bk {l : Lo} {h : AH} {N B C : Lo → AH → Prop} {R : AV → AH → Prop} {X : AX → Lo → AH → Prop} : WS (.bk l h) N R X B C = B l h := rfl
theorem WS_ct {l : Lo} {h : AH} {N B C : Lo → AH → Prop} {R : AV → AH → Prop} {X : AX → Lo → AH → Prop} : WS (.ct l h) N R X B C = C l h := rfl
theorem WS_ex {x : AX} {l : Lo} {h : AH} {N B C : Lo → AH → Prop} {R : AV → AH → Prop} {X : AX → Lo → AH → Prop} : WS (.ex x l h) N R X B C = X x l h := rfl
theorem WT_t {A B : Prop} : WT (some true) A B = A := rfl
theorem WT_f {A B : Prop} : WT (some false) A B = B := rfl
theorem WT_i {b : Bool} {A B : Prop} (t : b = true → A) (f : b = false → B) : WT (some b) A B := by cases b; exact f rfl; exact t rfl
theorem WT_d {P : Prop} [Decidable P] {A B : Prop} (t : P → A) (f : ¬P → B) : WT (some (decide P)) A B := WT_i (fun e => t (of_decide_eq_true e)) (fun e => f (of_decide_eq_false e))
theorem WO_s {α : Type} {a : α} {A : α → Prop} : WO (some a) A = A a := rfl
/-! ### expressions -/
section
variable {T : Tb} {G : Ca} {l : Lo} {h : AH} {Q : AV → AH → Prop} {X : AX → AH → Prop} {QS : List AV → AH → Prop}
theorem w_var {i : Nat} : WR (ev T G (.var i) l h) Q X = WO (l[i]?.join) (fun v => Q v h) := by
  rw [ev]
  cases l[i]? with
  | none => rfl
  | some o => cases o <;> rfl
theorem w_cst {v : AV} : WR (ev T G (.cst v) l h) Q X = Q v h := by rw [ev]; rfl
theorem w_no : WR (ev T G .no l h) Q X = Q .non h := by rw [ev]; rfl
theorem w_bin {o : Bop} {a b : E} : WR (ev T G (.bin o a b) l h) Q X = WR (ev T G a l h) (fun x h => WR (ev T G b l h) (fun y h => WR (binA o x y h) Q X) X) X := by
  rw [ev, WR_bind]
  simp only [WR_bind]
def WN (x : AV) (Q : AV → Prop) : Prop := match x with
  | .int i => Q (.int (-i))
  | _ => False
theorem WN_i {i : Int} {Q : AV → Prop} : WN (.int i) Q = Q (.int (-i)) := rfl
theorem w_neg {a : E} : WR (ev T G (.neg a) l h) Q X = WR (ev T G a l h) (fun x h => WN x fun v => Q v h) X := by
  rw [ev, WR_bind]
  congr 1
  funext x h
  cases x <;> rfl
theorem w_bO {o : Option Bool} : WR (bO o h) Q X = WO o (fun b => Q (.bl b) h) := by cases o <;> rfl
theorem w_vO {o : Option AV} : WR (vO o h) Q X = WO o (fun b => Q b h) := by cases o <;> rfl
theorem notO_s {b : Bool} : notO (some b) = some !b := rfl
theorem w_not {a : E} : WR (ev T G (.not a) l h) Q X = WR (ev T G a l h) (fun x h => WO (truth h x) fun b => Q (.bl !b) h) X := by
  rw [ev, WR_bind]
  congr 1
  funext x h
  rw [w_bO]
  cases truth h x <;> rfl
theorem w_and {a b : E} : WR (ev T G (.and a b) l h) Q X = WR (ev T G a l h) (fun x h => WT (truth h x) (WR (ev T G b l h) Q X) (Q x h)) X := by
  rw [ev, WR_bind]
  congr 1
  funext x h
  cases truth h x with
  | none => rfl
  | some b => cases b <;> rfl
theorem w_or {a b : E} : WR (ev T G (.or a b) l h) Q X = WR (ev T G a l h) (fun x h => WT (truth h x) (Q x h) (WR (ev T G b l h) Q X)) X := by
  rw [ev, WR_bind]
  congr 1
  funext x h
  cases truth h x with
  | none => rfl
  | some b => cases b <;> rfl
theorem w_ite {a b c : E} : WR (ev T G (.ite c a b) l h) Q X = WR (ev T G c l h) (fun x h => WT (truth h x) (WR (ev T G a l h) Q X) (WR (ev T G b l h) Q X)) X := by
  rw [ev, WR_bind]
  congr 1
  funext x h
  cases truth h x with
  | none => rfl
  | some b => cases b <;> rfl
/-- own classes' == -/
def WEq (T : Tb) (G : Ca) (o : Cop) (x y : AV) (h : AH) (Q : AV → AH → Prop) (X : AX → AH → Prop) : Prop := match clsOf h x, o with
  | some c, .eq => (match lookM T c 0 with
    | some f => WR (G f [x, y] h) Q X
    | none => False)
  | _, _ => WO (cmpA T.wds h o x y) fun b => Q (.bl b) h
theorem w_cmp {o : Cop} {a b : E} : WR (ev T G (.cmp o a b) l h) Q X = WR (ev T G a l h) (fun x h => WR (ev T G b l h) (fun y h => WEq T G o x y h Q X) X) X := by
  rw [ev, WR_bind]
  simp only [WR_bind]
  congr 1
  funext x h
  congr 1
  funext y h
  unfold WEq
  cases clsOf h x with
  | none => exact w_bO
  | some c => cases o <;> first | exact w_bO | (dsimp only; cases lookM T c 0 <;> rfl)
theorem WEq_n {o : Cop} {x y : AV} (e : clsOf h x = none) : WEq T G o x y h Q X = WO (cmpA T.wds h o x y) fun b => Q (.bl b) h := by unfold WEq; rw [e]
theorem WEq_i {o : Cop} {x : Int} {y : AV} : WEq T G o (.int x) y h Q X = WO (cmpA T.wds h o (.int x) y) fun b => Q (.bl b) h := WEq_n rfl
theorem WEq_s {o : Cop} {x : Tx} {y : AV} : WEq T G o (.str x) y h Q X = WO (cmpA T.wds h o (.str x) y) fun b => Q (.bl b) h := WEq_n rfl
theorem WEq_o {o : Cop} {y : AV} : WEq T G o .non y h Q X = WO (cmpA T.wds h o .non y) fun b => Q (.bl b) h := WEq_n rfl
theorem WEq_b {o : Cop} {x : Bool} {y : AV} : WEq T G o (.bl x) y h Q X = WO (cmpA T.wds h o (.bl x) y) fun b => Q (.bl b) h := WEq_n rfl
theorem WEq_t {o : Cop} {x : List AV} {y : AV} : WEq T G o (.tup x) y h Q X = WO (cmpA T.wds h o (.tup x) y) fun b => Q (.bl b) h := WEq_n rfl
theorem w_chn {o o' : Cop} {a b c : E} : WR (ev T G (.chn o o' a b c) l h) Q X = WR (ev T G a l h) (fun x h => WR (ev T G b l h) (fun y h => WT (cmpA T.wds h o x y) (WR (ev T G c l h) (fun z h => WO (cmpA T.wds h o' y z) fun b => Q (.bl b) h) X) (Q (.bl false) h)) X) X := by
  rw [ev, WR_bind]
  simp only [WR_bind]
  congr 1
  funext x h
  congr 1
  funext y h
  cases cmpA T.wds h o x y with
  | none => rfl
  | some b =>
    cases b with
    | false => rfl
    | true =>
      show WR (Rs.bind _ _) Q X = _
      rw [WR_bind]
      congr 1
      funext z h
      exact w_bO
/-- a list or tuple of so many -/
def WK (b : Bool) (A : Prop) : Prop := b = true ∧ A
theorem WK_t {A : Prop} : WK true A = A := by unfold WK; simp
theorem w_tup {es : E} : WR (ev T G (.tup es) l h) Q X = WR (evs T G es l h) (fun xs h => WK (okL xs) (Q (.tup xs) h)) X := by
  rw [ev, WR_bind]
  congr 1
  funext xs h
  unfold WK
  cases okL xs <;> simp [WR]
theorem w_newL {xs : List AV} : WR (newL xs h) Q X = WK (okL xs) (Q (.ref h.length) (h ++ [.lst xs])) := by
  unfold newL WK
  cases okL xs <;> simp [WR, newO]
theorem w_newO {o : AO} : WR (newO o h) Q X = Q (.ref h.length) (h ++ [o]) := rfl
theorem w_lst {es : E} : WR (ev T G (.lst es) l h) Q X = WR (evs T G es l h) (fun xs h => WR (newL xs h) Q X) X := by
  rw [ev, WR_bind]
theorem w_idx {a i : E} : WR (ev T G (.idx a i) l h) Q X = WR (ev T G a l h) (fun x h => WR (ev T G i l h) (fun y h => WR (getA T.wds x y h) Q X) X) X := by
  rw [ev, WR_bind]
  simp only [WR_bind]
theorem w_sl {a lo hi : E} : WR (ev T G (.sl a lo hi) l h) Q X = WR (ev T G a l h) (fun x h => WR (ev T G lo l h) (fun y h => WO (optP lo y) fun o => WR (ev T G hi l h) (fun z h => WR (sliceA x (some o) (optP hi z) h) Q X) X) X) X := by
  rw [ev, WR_bind]
  simp only [WR_bind]
  congr 1
  funext x h
  congr 1
  funext y h
  cases optP lo y with
  | none => rfl
  | some o => exact WR_bind
theorem w_fld {o : E} {f : Nat} : WR (ev T G (.fld o f) l h) Q X = WR (ev T G o l h) (fun x h => WR (fldA x f h) Q X) X := by
  rw [ev, WR_bind]
theorem w_call {f : Nat} {as : E} : WR (ev T G (.call f as []) l h) Q X = WR (evs T G as l h) (fun xs h => WR (G f xs h) Q X) X := by
  rw [ev, WR_bind]
  rfl
def WM (T : Tb) (h : AH) (x : AV) (m : Nat) (A : Nat → Prop) : Prop := match clsOf h x with
  | some c => WO (lookM T c m) A
  | none => False
theorem WM_i {x : AV} {m c : Nat} {A : Nat → Prop} (e : clsOf h x = some c) : WM T h x m A = WO (lookM T c m) A := by unfold WM; rw [e]
theorem w_mth {o as : E} {m : Nat} : WR (ev T G (.mth o m as []) l h) Q X = WR (ev T G o l h) (fun x h => WM T h x m fun f => WR (evs T G as l h) (fun xs h => WR (G f (x :: xs) h) Q X) X) X := by
  rw [ev, WR_bind]
  congr 1
  funext x h
  unfold WM
  cases clsOf h x with
  | none => rfl
  | some c =>
    dsimp only
    cases lookM T c m with
    | none => rfl
    | some f =>
      show WR (Rs.bind _ _) Q X = _
      rw [WR_bind]
      rfl
def WL (T : Tb) (G : Ca) (b : Bi) (xs : List AV) (h : AH) (Q : AV → AH → Prop) (X : AX → AH → Prop) : Prop := match b, xs with
  | .len, [x] => (match clsOf h x with
    | some c => (match lookM T c 1 with
      | some f => WR (G f [x] h) Q X
      | none => False)
    | none => WR (bltA b xs h) Q X)
  | _, _ => WR (bltA b xs h) Q X
theorem w_blt {b : Bi} {as : E} : WR (ev T G (.blt b as) l h) Q X = WR (evs T G as l h) (fun xs h => WL T G b xs h Q X) X := by
  rw [ev, WR_bind]
  congr 1
  funext xs h
  unfold WL
  cases b <;> first | rfl | skip
  match xs with
  | [] => rfl
  | _ :: _ :: _ => rfl
  | [x] =>
    dsimp only
    cases clsOf h x with
    | none => rfl
    | some c =>
      dsimp only
      cases lookM T c 1 <;> rfl
theorem WL_len {x : AV} (e : clsOf h x = none) : WL T G .len [x] h Q X = WO (lenA h x) fun n => Q (.int n) h := by
  unfold WL
  dsimp only
  rw [e]
  show WR (match lenA h x with
    | some n => Rs.ok (AV.int n) h
    | none => .bad) Q X = _
  cases lenA h x <;> rfl
theorem WL_o {b : Bi} {xs : List AV} (e : b ≠ .len) : WL T G b xs h Q X = WR (bltA b xs h) Q X := by
  unfold WL
  cases b <;> first | rfl | exact absurd rfl e
def WB (T : Tb) (m : Bm) (x : AV) (h : AH) (k : (AH → Prop) → Prop) (A : AH → Prop) : Prop := match kd T.wds h x with
  | none => False
  | some j => supB m j = true ∧ k fun h2 => (kd T.wds h2 x = some j) ∧ A h2
theorem w_bm {o as : E} {m : Bm} : WR (ev T G (.bm o m as) l h) Q X = WR (ev T G o l h) (fun x h => WO (kd T.wds h x) fun j => WK (supB m j) (WR (evs T G as l h) (fun xs h => WO (kd T.wds h x) fun j2 => WK (Nat.beq j j2) (WR (bmA T.wds m x xs h) Q X)) X)) X := by
  rw [ev, WR_bind]
  congr 1
  funext x h
  cases kd T.wds h x with
  | none => rfl
  | some j =>
    dsimp only [WO, WK]
    cases supB m j with
    | false => simp [WR]
    | true =>
      simp only [true_and]
      rw [WR_bind]
      congr 1
      funext xs h
      cases kd T.wds h x with
      | none => rfl
      | some j2 => 
        dsimp only
        cases Nat.beq j j2 <;> simp [WR]
theorem w_isi {a : E} {t : Ty} : WR (ev T G (.isi a [t]) l h) Q X = WR (ev T G a l h) (fun x h => WO (tyA T.cls h x t) fun b => Q (.bl b) h) X := by
  rw [ev, WR_bind]
  congr 1
  funext x h
  exact w_bO
theorem w_noEx {α : Type} {r : Rs α} {Q : α → AH → Prop} : WR (noEx r) Q X = WR r Q (fun _ _ => False) := by cases r <;> rfl
theorem w_fmt {es : E} : WR (ev T G (.fmt es) l h) Q X = WR (evs T G es l h) (fun xs h => WR (fmtR [] xs h) Q X) (fun _ _ => False) := by
  rw [ev, WR_bind, w_noEx]
def WD (xs : List AV) (h : AH) (Q : AV → AH → Prop) : Prop := Nat.ble xs.length 30 = true ∧ WO (dctA xs []) fun kvs => Q (.ref h.length) (h ++ [.dic false kvs])
theorem w_dct {es : E} : WR (ev T G (.dct es) l h) Q X = WR (evs T G es l h) (fun xs h => WD xs h Q) X := by
  rw [ev, WR_bind]
  congr 1
  funext xs h
  unfold WD
  cases Nat.ble xs.length 30 with
  | false => simp [WR]
  | true => 
    simp only [true_and]
    cases dctA xs [] <;> rfl
theorem ws_nil : WR (evs T G .nil l h) QS X = QS [] h := by rw [evs]; rfl
theorem ws_cons {a b : E} : WR (evs T G (.cons a b) l h) QS X = WR (ev T G a l h) (fun x h => WR (evs T G b l h) (fun xs h => QS (x :: xs) h) X) X := by
  rw [evs, WR_bind]
  simp only [WR_bind, WR_ok]
theorem w_lenset {a : E} : WR (ev T G (.lenset a) l h) Q X = WR (ev T G a l h) (fun x h => match x with
    | .str s => WK (nodupT s && (s.all (fun c => Nat.blt c 128) && Nat.blt s.length 1000)) (Q (.int s.length) h)
    | _ => False) X := by
  rw [ev, WR_bind]
  congr 1
  funext x h
  cases x <;> try rfl
  dsimp only [WK]
  generalize (nodupT _ && _) = b
  cases b <;> simp [WR]
end
/-! ### statements -/
section
variable {T : Tb} {G : Ca} {l : Lo} {h : AH} {c : Option AX} {N B C : Lo → AH → Prop} {R : AV → AH → Prop} {X : AX → Lo → AH → Prop}
theorem s_nil : WS (st T G .nil c l h) N R X B C = N l h := by rw [st]; rfl
theorem s_seq {a b : S} : WS (st T G (.seq a b) c l h) N R X B C = WS (st T G a c l h) (fun l h => WS (st T G b c l h) N R X B C) R X B C := by
  rw [st]
  cases st T G a c l h <;> rfl
theorem w_onR {α : Type} {r : Rs α} {k : α → AH → Fl} : WS (onR r l k) N R X B C = WR r (fun a h => WS (k a h) N R X B C) (fun x h => X x l h) := by cases r <;> rfl
theorem s_ex {e : E} : WS (st T G (.ex e) c l h) N R X B C = WR (ev T G e l h) (fun _ h => N l h) (fun x h => X x l h) := by rw [st, w_onR]; rfl
theorem s_ret {e : E} : WS (st T G (.ret e) c l h) N R X B C = WR (ev T G e l h) (fun v h => R v h) (fun x h => X x l h) := by rw [st, w_onR]; rfl
theorem s_asg {t : Mm.T} {e : E} : WS (st T G (.asg t e) c l h) N R X B C = WR (ev T G e l h) (fun v h => WO (setT t v l h) fun l => N l h) (fun x h => X x l h) := by
  rw [st, w_onR]
  congr 1
  funext v h
  cases setT t v l h <;> rfl
theorem s_setF {o e : E} {f : Nat} : WS (st T G (.setF o f e) c l h) N R X B C = WR (ev T G e l h) (fun v h => WR (ev T G o l h) (fun x h => WR (setFA x f v h) (fun _ h => N l h) (fun x h => X x l h)) (fun x h => X x l h)) (fun x h => X x l h) := by
  rw [st, w_onR]
  congr 1
  funext v h
  rw [w_onR]
  congr 1
  funext x h
  rw [w_onR]
  rfl
theorem s_setS {o i e : E} : WS (st T G (.setS o i e) c l h) N R X B C = WR (ev T G e l h) (fun v h => WR (ev T G o l h) (fun x h => WR (ev T G i l h) (fun y h => WR (setA x y v h) (fun _ h => N l h) (fun x h => X x l h)) (fun x h => X x l h)) (fun x h => X x l h)) (fun x h => X x l h) := by
  rw [st, w_onR]
  congr 1
  funext v h
  rw [w_onR]
  congr 1
  funext x h
  rw [w_onR]
  congr 1
  funext y h
  rw [w_onR]
  rfl
theorem s_ite {e : E} {a b : S} : WS (st T G (.ite e a b) c l h) N R X B C = WR (ev T G e l h) (fun x h => WT (truth h x) (WS (st T G a c l h) N R X B C) (WS (st T G b c l h) N R X B C)) (fun x h => X x l h) := by
  rw [st, w_onR]
  congr 1
  funext x h
  cases truth h x with
  | none => rfl
  | some b => cases b <;> rfl
theorem s_brk : WS (st T G .brk c l h) N R X B C = B l h := by rw [st]; rfl
theorem s_cnt : WS (st T G .cnt c l h) N R X B C = C l h := by rw [st]; rfl
theorem s_pas : WS (st T G .pas c l h) N R X B C = N l h := by rw [st]; rfl
/-- a star target: names ahead, the rest -/
theorem s_star {a b : List Nat} {r : Nat} {e : E} : WS (st T G (.star a r b e) c l h) N R X B C = WR (ev T G e l h) (fun v h => WO (itemsA h v) fun xs => WS (starA a r b xs l h) N R X B C) (fun x h => X x l h) := by
  rw [st, w_onR]
  congr 1
  funext v h
  cases itemsA h v <;> rfl
/-- a name's += of a whole number -/
theorem s_augI {i : Nat} {p : Bop} {e : E} {x : Int} (q : l[i]? = some (some (.int x))) : WS (st T G (.augN i p e) c l h) N R X B C = WR (ev T G e l h) (fun y h => WR (ipA p (.int x) y h) (fun v h => N (l.set i (some v)) h) (fun x h => X x l h)) (fun x h => X x l h) := by
  rw [st, q]
  dsimp only
  rw [w_onR]
  congr 1
  funext y h
  rw [w_onR]
  rfl
/-- a name's +=, of what is no list -/
def WAu (T : Tb) (G : Ca) (i : Nat) (p : Bop) (e : E) (c : Option AX) (l : Lo) (h : AH) (N B C : Lo → AH → Prop) (R : AV → AH → Prop) (X : AX → Lo → AH → Prop) (x : AV) : Prop := l[i]? = some (some x) → WS (st T G (.augN i p e) c l h) N R X B C
theorem s_aug {i : Nat} {p : Bop} {e : E} : WS (st T G (.augN i p e) c l h) N R X B C = WO (l[i]?.join) (fun x => WAu T G i p e c l h N B C R X x) := by
  have n : l[i]?.join = none → st T G (.augN i p e) c l h = .bad := by
    intro z
    rw [st]
    cases q : l[i]? with
    | none => rfl
    | some o =>
      cases o with
      | none => rfl
      | some x => rw [q] at z; cases z
  cases z : l[i]?.join with
  | none => rw [n z]; rfl
  | some x =>
    have q : l[i]? = some (some x) := by
      cases q : l[i]? with
      | none => rw [q] at z; cases z
      | some o => rw [q] at z; have z : o = some x := z; rw [z]
    show _ = WAu T G i p e c l h N B C R X x
    unfold WAu
    exact propext ⟨fun w _ => w, fun w => w q⟩
theorem WAu_i {i : Nat} {p : Bop} {e : E} {x : Int} : WAu T G i p e c l h N B C R X (.int x) = (l[i]? = some (some (.int x)) → WR (ev T G e l h) (fun y h => WR (ipA p (.int x) y h) (fun v h => N (l.set i (some v)) h) (fun x h => X x l h)) (fun x h => X x l h)) := by
  unfold WAu
  refine propext ⟨fun w q => ?_, fun w q => ?_⟩
  · rw [← s_augI q]; exact w q
  · rw [s_augI q]; exact w q
/-- a walk of items that stand -/
theorem loopF_fix {xs : List AV} {step : AV → Lo → AH → Fl} (I : Nat → Lo → AH → Prop)
    (go : ∀ i v l h, xs[i]? = some v → I i l h → WS (step v l h) (I (i + 1)) R X N (I (i + 1))) (out : ∀ l h, I xs.length l h → N l h) :
    ∀ (k i n : Nat) (l : Lo) (h : AH), i + k = xs.length → k < n → I i l h → WS (loopF (.fix xs) step n i l h) N R X B C
  | 0, i, n, l, h, e, hn, s => by
    obtain ⟨n, rfl⟩ : ∃ m, n = m + 1 := ⟨n - 1, by omega⟩
    have it : itemA (.fix xs) i h = some xs[i]? := rfl
    unfold loopF
    rw [it]
    have : xs[i]? = none := List.getElem?_eq_none (by omega)
    rw [this]
    exact out l h (by rw [show xs.length = i by omega]; exact s)
  | k + 1, i, n, l, h, e, hn, s => by
    obtain ⟨n, rfl⟩ : ∃ m, n = m + 1 := ⟨n - 1, by omega⟩
    have it : itemA (.fix xs) i h = some xs[i]? := rfl
    unfold loopF
    rw [it]
    obtain ⟨v, hv⟩ : ∃ v, xs[i]? = some v := ⟨xs[i]'(by omega), List.getElem?_eq_getElem (by omega)⟩
    have w := go i v l h hv s
    rw [hv]
    dsimp only
    generalize step v l h = r at w
    cases r with
    | nx l2 h2 => exact loopF_fix I go out k (i + 1) n l2 h2 (by omega) (by omega) w
    | ct l2 h2 => exact loopF_fix I go out k (i + 1) n l2 h2 (by omega) (by omega) w
    | bk l2 h2 => exact w
    | rt v h2 => exact w
    | ex x l2 h2 => exact w
    | bad => exact w
/-- a for over items that stand -/
theorem s_for {t : Mm.T} {k : Ik} {as : E} {b : S} {P : List AV → AH → Prop} (w : WR (evs T G as l h) P (fun x h => X x l h))
    (I : List AV → Nat → Lo → AH → Prop)
    (src : ∀ ys h, P ys h → ∃ xs, srcA k ys h = some (.fix xs) ∧ xs.length ≤ 1000000 ∧ I xs 0 l h
      ∧ (∀ i v l h, xs[i]? = some v → I xs i l h → WO (setT t v l h) fun l => WS (st T G b c l h) (I xs (i + 1)) R X N (I xs (i + 1))) ∧ (∀ l h, I xs xs.length l h → N l h)) :
    WS (st T G (.for_ t k as b) c l h) N R X B C := by
  rw [st, w_onR]
  refine WR_mono w (fun ys h2 p => ?_) (fun _ _ x => x)
  obtain ⟨xs, e, hn, s, go, out⟩ := src ys h2 p
  rw [e]
  dsimp only [lockA]
  have L := loopF_fix (B := fun _ _ => False) (C := fun _ _ => False) (N := N) (R := R) (X := X) (step := fun v l h => match setT t v l h with
    | some l => st T G b c l h
    | none => .bad) (I xs) (fun i v l h e1 e2 => by
      have := go i v l h e1 e2
      generalize setT t v l h = z at this
      cases z with
      | none => exact this.elim
      | some l2 => exact this) out xs.length 0 WF l h2 (by omega) (by unfold WF; omega) s
  generalize loopF _ _ _ _ _ _ = r at L
  cases r <;> first | exact L | exact L.elim
/-- a while, by a measure -/
theorem loopW_ok {cond : Lo → AH → Rs Bool} {body : Lo → AH → Fl} (I : Nat → Lo → AH → Prop)
    (go : ∀ m l h, I m l h → WR (cond l h) (fun b h => match b with
      | true => 0 < m ∧ WS (body l h) (I (m - 1)) R X N (I (m - 1))
      | false => N l h) (fun x h => X x l h)) :
    ∀ (m n : Nat) (l : Lo) (h : AH), m < n → I m l h → WS (loopW cond body n l h) N R X B C
  | m, n, l, h, hn, s => by
    obtain ⟨n, rfl⟩ : ∃ m, n = m + 1 := ⟨n - 1, by omega⟩
    unfold loopW
    have w := go m l h s
    generalize cond l h = r at w
    cases r with
    | bad => exact w.elim
    | ex x h2 => exact w
    | ok b h2 =>
      cases b with
      | false => exact w
      | true =>
        obtain ⟨p, w⟩ := w
        show WS (match body l h2 with
          | .nx l h => loopW cond body n l h
          | .ct l h => loopW cond body n l h
          | .bk l h => .nx l h
          | r => r) N R X B C
        generalize body l h2 = r at w
        cases r with
        | nx l2 h3 => exact loopW_ok I go (m - 1) n l2 h3 (by omega) w
        | ct l2 h3 => exact loopW_ok I go (m - 1) n l2 h3 (by omega) w
        | bk l2 h3 => exact w
        | rt v h3 => exact w
        | ex x l2 h3 => exact w
        | bad => exact w
termination_by m n => n
theorem s_whl {e : E} {b : S} (I : Nat → Lo → AH → Prop) (m : Nat) (hm : m < 2000000) (s : I m l h)
    (go : ∀ m l h, I m l h → WR (ev T G e l h) (fun x h => WT (truth h x) (0 < m ∧ WS (st T G b c l h) (I (m - 1)) R X N (I (m - 1))) (N l h)) (fun x h => X x l h)) :
    WS (st T G (.whl e b) c l h) N R X B C := by
  rw [st]
  refine loopW_ok I (fun m l h i => ?_) m WF l h hm s
  rw [WR_bind]
  refine WR_mono (go m l h i) (fun x h2 w => ?_) (fun _ _ w => w)
  cases z : truth h2 x with
  | none => rw [z] at w; exact w.elim
  | some t => rw [z] at w; cases t <;> exact w
end
/-! ### calls -/
theorem fin_w {r : Fl} {Q : AV → AH → Prop} {X : AX → AH → Prop} : WR (fin r) Q X = WS r (fun _ h => Q .non h) Q (fun x _ h => X x h) (fun _ _ => False) (fun _ _ => False) := by cases r <;> rfl
/-- a def with an argument of the heap, or a method -/
theorem r_imp {T : Tb} {d f : Nat} {F : Fn} {as : List AV} {h : AH} {Q : AV → AH → Prop} {X : AX → AH → Prop} (e : T.fns[f]? = some F) (n : as.length = F.np) (p : (F.pur && pureV.pureVs as) = false)
    (w : WS (st T (run T d) F.body none (start F.ns as) h) (fun _ h => Q .non h) Q (fun x _ h => X x h) (fun _ _ => False) (fun _ _ => False)) : WR (run T (d + 1) f as h) Q X := by
  have : run T (d + 1) f as h = fin (st T (run T d) F.body none (start F.ns as) h) := by
    unfold run
    rw [e]
    dsimp only
    rw [n, Nat.beq_refl]
    dsimp only
    rw [p]
  rw [this, fin_w]
  exact w
/-- what a def of plain values gives -/
def PureQ (h : AH) (Q : AV → AH → Prop) (v : AV) (h2 : AH) : Prop := match v with
  | .ref i => (match h2[i]? with
    | some (.lst xs) => pureV.pureVs xs = true ∧ Q (.ref h.length) (h ++ [.lst xs])
    | _ => False)
  | _ => pureV v = true ∧ Q v h
theorem PureQ_v {h h2 : AH} {Q : AV → AH → Prop} {v : AV} (p : pureV v = true) (q : Q v h) : PureQ h Q v h2 := by
  cases v <;> first | exact ⟨p, q⟩ | cases p
theorem PureQ_l {h h2 : AH} {Q : AV → AH → Prop} {i : Nat} {xs : List AV} (e : h2[i]? = some (.lst xs)) (p : pureV.pureVs xs = true) (q : Q (.ref h.length) (h ++ [.lst xs])) : PureQ h Q (.ref i) h2 := by
  unfold PureQ
  dsimp only
  rw [e]
  exact ⟨p, q⟩
def PureX (h : AH) (X : AX → AH → Prop) (x : AX) : Prop := pureV.pureVs (x.fs.map fun q => q.2) = true ∧ X x h
theorem r_pur {T : Tb} {d f : Nat} {F : Fn} {as : List AV} {h : AH} {Q : AV → AH → Prop} {X : AX → AH → Prop} (e : T.fns[f]? = some F) (n : as.length = F.np) (p : (F.pur && pureV.pureVs as) = true)
    (w : WS (st T (run T d) F.body none (start F.ns as) []) (fun _ _ => Q .non h) (PureQ h Q) (fun x _ _ => PureX h X x) (fun _ _ => False) (fun _ _ => False)) : WR (run T (d + 1) f as h) Q X := by
  unfold run
  rw [e]
  dsimp only
  rw [n, Nat.beq_refl]
  dsimp only
  rw [p]
  dsimp only
  generalize st T (run T d) F.body none (start F.ns as) [] = r at w
  cases r with
  | nx l h2 => exact w
  | bk l h2 => exact w.elim
  | ct l h2 => exact w.elim
  | bad => exact w.elim
  | ex x l h2 =>
    obtain ⟨a, b⟩ := (show PureX h X x from w)
    show WR (match pureV.pureVs (x.fs.map fun q => q.2) with
      | true => .ex x h
      | false => .bad) Q X
    rw [a]
    exact b
  | rt v h2 =>
    have w : PureQ h Q v h2 := w
    show WR (match pureV v with
      | true => Rs.ok v h
      | false => _) Q X
    unfold PureQ at w
    cases v with
    | ref i =>
      dsimp only [pureV] at w ⊢
      generalize h2[i]? = o at w
      cases o with
      | none => exact w.elim
      | some o =>
        cases o with
        | lst xs =>
          obtain ⟨a, b⟩ := w
          dsimp only
          rw [a]
          exact b
        | _ => exact w.elim
    | _ =>
      dsimp only at w
      obtain ⟨a, b⟩ := w
      rw [a]
      exact b
end Mm

set_option Elab.async false
set_option linter.all false
/-! The laws' bags of numbers, by the machine's logic. -/
namespace Mm
theorem setT_nm {i : Nat} {v : AV} {l : Lo} {h : AH} : setT (.nm i) v l h = some (l.set i (some v)) := by unfold setT; rfl
theorem tr_b {h : AH} {b : Bool} : truth h (.bl b) = some b := rfl
theorem tr_i {h : AH} {i : Int} : truth h (.int i) = some (i != 0) := rfl
theorem c_ltI {W : List (List (Tx × AV))} {h : AH} {i j : Int} : cmpA W h .lt (.int i) (.int j) = some (decide (i < j)) := rfl
theorem c_leI {W : List (List (Tx × AV))} {h : AH} {i j : Int} : cmpA W h .le (.int i) (.int j) = some (decide (i ≤ j)) := rfl
theorem c_gtI {W : List (List (Tx × AV))} {h : AH} {i j : Int} : cmpA W h .gt (.int i) (.int j) = some (decide (j < i)) := rfl
theorem c_eqI {W : List (List (Tx × AV))} {h : AH} {i j : Int} : cmpA W h .eq (.int i) (.int j) = some (decide (i = j)) := by
  show some (i == j) = _
  by_cases z : i = j
  · subst z; simp
  · simp [z]
theorem c_eqS {W : List (List (Tx × AV))} {h : AH} {i j : Tx} : cmpA W h .eq (.str i) (.str j) = some (eqX i j) := rfl
theorem c_neS {W : List (List (Tx × AV))} {h : AH} {i j : Tx} : cmpA W h .ne (.str i) (.str j) = some (!eqX i j) := rfl
theorem c_neI {W : List (List (Tx × AV))} {h : AH} {i j : Int} : cmpA W h .ne (.int i) (.int j) = some (!decide (i = j)) := by
  show notO (cmpA W h .eq (.int i) (.int j)) = _
  rw [c_eqI]
  rfl
/-- b is a bag -/
def Bg (b : Nat) (h : AH) : Prop := ∃ x y, h[b]? = some (.lst [.int x, .int y])
/-- the heap grows; of what stood, but the bag changes -/
structure Kp (b : Nat) (h h' : AH) : Prop where
  len : h.length ≤ h'.length
  old : ∀ i, i < h.length → i ≠ b → h'[i]? = h[i]?
  bag : Bg b h'
theorem Bg.lt {b : Nat} {h : AH} (g : Bg b h) : b < h.length := by
  obtain ⟨x, y, e⟩ := g
  exact (List.getElem?_eq_some_iff.mp e).1
theorem Kp.refl {b : Nat} {h : AH} (g : Bg b h) : Kp b h h := ⟨Nat.le_refl _, fun _ _ _ => rfl, g⟩
theorem Kp.trans {b : Nat} {h h1 h2 : AH} (k : Kp b h h1) (q : Kp b h1 h2) : Kp b h h2 :=
  ⟨Nat.le_trans k.len q.len, fun i a n => (q.old i (Nat.lt_of_lt_of_le a k.len) n).trans (k.old i a n), q.bag⟩
theorem Kp.get {b i : Nat} {h h' : AH} {o : AO} (k : Kp b h h') (e : h[i]? = some o) (n : i ≠ b) : h'[i]? = some o :=
  (k.old i (List.getElem?_eq_some_iff.mp e).1 n).trans e
theorem Bg.app {b : Nat} {h : AH} {o : AO} (g : Bg b h) : Bg b (h ++ [o]) := by
  obtain ⟨x, y, e⟩ := g
  exact ⟨x, y, (List.getElem?_append_left (List.getElem?_eq_some_iff.mp e).1).trans e⟩
theorem Kp.app {b : Nat} {h h' : AH} {o : AO} (k : Kp b h h') : Kp b h (h' ++ [o]) :=
  ⟨by rw [List.length_append]; have := k.len; omega, fun i a n => (List.getElem?_append_left (Nat.lt_of_lt_of_le a k.len)).trans (k.old i a n), k.bag.app⟩
theorem app_new {h : AH} {o : AO} : (h ++ [o])[h.length]? = some o := by simp
theorem Bg.ne {b : Nat} {h : AH} (g : Bg b h) : h.length ≠ b := by have := g.lt; omega
theorem Bg.set {b : Nat} {h : AH} (g : Bg b h) (x y : Int) : Kp b h (h.set b (.lst [.int x, .int y])) :=
  ⟨by rw [List.length_set]; exact Nat.le_refl _, fun i _ n => List.getElem?_set_ne (fun e => n e.symm), x, y, List.getElem?_set_self g.lt⟩
def takeB : Mm.S := (.seq (.ite (.cmp .gt (.idx (.var 0) (.cst (.int 0))) (.cst (.int 0))) (.seq (.asg (.nm 2) (.bin .mod (.idx (.var 0) (.cst (.int 0))) (.var 1)))
  (.seq (.setS (.var 0) (.cst (.int 0)) (.bin .fdiv (.idx (.var 0) (.cst (.int 0))) (.var 1)))
  (.seq (.ret (.var 2))
  .nil))) .nil)
  (.seq (.setS (.var 0) (.cst (.int 1)) (.bin .mod (.bin .mul (.idx (.var 0) (.cst (.int 1))) (.cst (.int 48271))) (.cst (.int 2147483647))))
  (.seq (.ret (.bin .mod (.bin .fdiv (.bin .mod (.bin .mul (.bin .fdiv (.idx (.var 0) (.cst (.int 1))) (.cst (.int 13))) (.bin .add (.bin .mod (.idx (.var 0) (.cst (.int 1))) (.cst (.int 32749))) (.cst (.int 17)))) (.cst (.int 2147483629))) (.cst (.int 32))) (.var 1)))
  .nil)))
def takeF : Fn := ⟨2, 3, takeB, true⟩
section
variable {W : List (List (Tx × AV))} {h : AH} {b : Nat} {Q : AV → AH → Prop} {X : AX → AH → Prop}
theorem g_l {i : Nat} {xs : List AV} {k : Int} (e : h[i]? = some (.lst xs)) : WR (getA W (.ref i) (.int k) h) Q X = WO ((ixA xs.length k).bind fun j => xs[j]?) (fun v => Q v h) := by
  unfold getA
  dsimp only
  rw [e]
  exact w_vO
theorem b_mod {i j : Int} (p : 0 < j) : WR (binA .mod (.int i) (.int j) h) Q X = Q (.int (i % j)) h := by
  show WR (match decide (0 < j) with
    | true => Rs.ok (AV.int (i % j)) h
    | false => .bad) Q X = _
  rw [decide_eq_true p]
  rfl
theorem b_div {i j : Int} (p : 0 < j) (q : j < 1073741824) : WR (binA .fdiv (.int i) (.int j) h) Q X = Q (.int (i / j)) h := by
  show WR (match decide (0 < j) && decide (j < 1073741824) with
    | true => Rs.ok (AV.int (i / j)) h
    | false => .bad) Q X = _
  rw [decide_eq_true p, decide_eq_true q]
  rfl
theorem b_add {i j : Int} : WR (binA .add (.int i) (.int j) h) Q X = Q (.int (i + j)) h := rfl
theorem b_sub {i j : Int} : WR (binA .sub (.int i) (.int j) h) Q X = Q (.int (i - j)) h := rfl
theorem b_mul {i j : Int} (p : (small i || small j) = true) : WR (binA .mul (.int i) (.int j) h) Q X = Q (.int (i * j)) h := by
  show WR (match small i || small j with
    | true => Rs.ok (AV.int (i * j)) h
    | false => .bad) Q X = _
  rw [p]
  rfl
theorem sm {j : Int} (p : -1000000000000000000 ≤ j) (q : j ≤ 1000000000000000000) : small j = true := by
  unfold small
  rw [decide_eq_true (by omega), decide_eq_true (by omega)]
  rfl
theorem sA_l {i j : Nat} {xs : List AV} {k : Int} {v : AV} {Q : Unit → AH → Prop} (e : h[i]? = some (.lst xs)) (z : ixA xs.length k = some j) : WR (setA (.ref i) (.int k) v h) Q X = Q () (h.set i (.lst (xs.set j v))) := by
  unfold setA
  dsimp only
  rw [e]
  dsimp only
  rw [z]
  rfl
theorem ix0 {n : Nat} : ixA (n + 1) 0 = some 0 := by
  unfold ixA
  rw [if_pos (by omega), if_pos (by omega)]
  rfl
theorem ixk {n j : Nat} (p : j < n) : ixA n j = some j := by
  unfold ixA
  rw [if_pos (by omega), if_pos (by omega)]
  rfl
theorem ixr {n : Nat} {r : Int} (p : 0 ≤ r) (q : r < n) : ∃ j, j < n ∧ r = j ∧ ixA n r = some j := by
  refine ⟨r.toNat, by omega, by omega, ?_⟩
  unfold ixA
  rw [if_pos p, if_pos q]
/-- an item is drawn -/
theorem take_w {T : Tb} {d f : Nat} {n : Int} (e : T.fns[f]? = some takeF) (B : Bg b h) (n0 : 0 < n) (n1 : n < 1073741824) (q : ∀ r h', Kp b h h' → h'.length = h.length → 0 ≤ r → r < n → Q (.int r) h') : WR (run T (d + 1) f [.ref b, .int n] h) Q X := by
  refine r_imp e rfl rfl ?_
  obtain ⟨x, y, hb⟩ := id B
  show WS (st T (run T d) takeB none [some (.ref b), some (.int n), none] h) _ _ _ _ _
  unfold takeB
  have i0 : ((ixA [AV.int x, AV.int y].length 0).bind fun j => [AV.int x, AV.int y][j]?) = some (.int x) := rfl
  have i1 : ((ixA [AV.int x, AV.int y].length 1).bind fun j => [AV.int x, AV.int y][j]?) = some (.int y) := rfl
  simp only [i0, i1, w_var, w_cst, w_no, w_bin, w_neg, WN_i, w_bO, w_vO, w_not, w_and, w_or, w_ite, w_cmp, WEq_i, WEq_s, WEq_o, WEq_b, WEq_t, w_chn, WK_t, w_tup, w_newL, w_newO, w_lst, w_idx, w_sl, w_fld, w_call, w_mth, w_blt, w_bm, w_isi, w_fmt, w_dct, ws_nil, ws_cons, s_nil, s_seq, s_ex, s_ret, s_asg, s_setF, s_setS, s_ite, s_brk, s_cnt, s_pas, s_star, WS_nx, WS_rt, WS_bk, WS_ct, WR_ok, WT_t, WT_f, WO_s, notO_s, List.getElem?_cons_zero, List.getElem?_cons_succ, Option.join_some, List.set_cons_zero, List.set_cons_succ, setT_nm, tr_b, tr_i, b_mod, b_div, b_add, b_sub, c_ltI, c_leI, c_gtI, c_eqI, c_eqS, Int.reduceLT, Int.reduceLE, decide_true, decide_false, Bool.not_true, Bool.not_false, g_l hb, n0, n1]
  refine WT_d (fun p => ?_) (fun p => ?_)
  · rw [sA_l hb (j := 0) rfl]
    exact q _ _ (B.set _ _) (List.length_set) (Int.emod_nonneg _ (by omega)) (Int.emod_lt_of_pos _ n0)
  · rw [b_mul (by rw [Bool.or_eq_true]; exact Or.inr rfl)]
    simp only [w_var, w_cst, w_no, w_bin, w_neg, WN_i, w_bO, w_vO, w_not, w_and, w_or, w_ite, w_cmp, WEq_i, WEq_s, WEq_o, WEq_b, WEq_t, w_chn, WK_t, w_tup, w_newL, w_newO, w_lst, w_idx, w_sl, w_fld, w_call, w_mth, w_blt, w_bm, w_isi, w_fmt, w_dct, ws_nil, ws_cons, s_nil, s_seq, s_ex, s_ret, s_asg, s_setF, s_setS, s_ite, s_brk, s_cnt, s_pas, s_star, WS_nx, WS_rt, WS_bk, WS_ct, WR_ok, WT_t, WT_f, WO_s, notO_s, List.getElem?_cons_zero, List.getElem?_cons_succ, Option.join_some, List.set_cons_zero, List.set_cons_succ, setT_nm, tr_b, tr_i, b_mod, b_div, b_add, b_sub, c_ltI, c_leI, c_gtI, c_eqI, c_eqS, Int.reduceLT, Int.reduceLE, decide_true, decide_false, Bool.not_true, Bool.not_false]
    rw [sA_l hb (j := 1) rfl]
    have k := B.set x (y * 48271 % 2147483647)
    have hb2 : (h.set b (.lst [AV.int x, .int (y * 48271 % 2147483647)]))[b]? = some (.lst [.int x, .int (y * 48271 % 2147483647)]) := List.getElem?_set_self B.lt
    generalize y * 48271 % 2147483647 = z at *
    have i2 : ((ixA [AV.int x, AV.int z].length 1).bind fun j => [AV.int x, AV.int z][j]?) = some (.int z) := rfl
    simp only [g_l hb2, i2, w_var, w_cst, w_no, w_bin, w_neg, WN_i, w_bO, w_vO, w_not, w_and, w_or, w_ite, w_cmp, WEq_i, WEq_s, WEq_o, WEq_b, WEq_t, w_chn, WK_t, w_tup, w_newL, w_newO, w_lst, w_idx, w_sl, w_fld, w_call, w_mth, w_blt, w_bm, w_isi, w_fmt, w_dct, ws_nil, ws_cons, s_nil, s_seq, s_ex, s_ret, s_asg, s_setF, s_setS, s_ite, s_brk, s_cnt, s_pas, s_star, WS_nx, WS_rt, WS_bk, WS_ct, WR_ok, WT_t, WT_f, WO_s, notO_s, List.getElem?_cons_zero, List.getElem?_cons_succ, Option.join_some, List.set_cons_zero, List.set_cons_succ, setT_nm, tr_b, tr_i, b_mod, b_div, b_add, b_sub, c_ltI, c_leI, c_gtI, c_eqI, c_eqS, Int.reduceLT, Int.reduceLE, decide_true, decide_false, Bool.not_true, Bool.not_false]
    have m1 := Int.emod_nonneg z (show (32749 : Int) ≠ 0 by omega)
    have m2 := Int.emod_lt_of_pos z (show (0 : Int) < 32749 by omega)
    rw [b_mul (by rw [Bool.or_eq_true]; exact Or.inr (sm (by omega) (by omega)))]
    simp only [w_var, w_cst, w_no, w_bin, w_neg, WN_i, w_bO, w_vO, w_not, w_and, w_or, w_ite, w_cmp, WEq_i, WEq_s, WEq_o, WEq_b, WEq_t, w_chn, WK_t, w_tup, w_newL, w_newO, w_lst, w_idx, w_sl, w_fld, w_call, w_mth, w_blt, w_bm, w_isi, w_fmt, w_dct, ws_nil, ws_cons, s_nil, s_seq, s_ex, s_ret, s_asg, s_setF, s_setS, s_ite, s_brk, s_cnt, s_pas, s_star, WS_nx, WS_rt, WS_bk, WS_ct, WR_ok, WT_t, WT_f, WO_s, notO_s, List.getElem?_cons_zero, List.getElem?_cons_succ, Option.join_some, List.set_cons_zero, List.set_cons_succ, setT_nm, tr_b, tr_i, b_mod, b_div, b_add, b_sub, c_ltI, c_leI, c_gtI, c_eqI, c_eqS, Int.reduceLT, Int.reduceLE, decide_true, decide_false, Bool.not_true, Bool.not_false, n0]
    exact q _ _ k (List.length_set) (Int.emod_nonneg _ (by omega)) (Int.emod_lt_of_pos _ n0)
def ofB (t : Nat) : Mm.S := (.seq (.ret (.idx (.var 1) (.call t (.cons (.var 0) (.cons (.blt .len (.cons (.var 1) .nil)) .nil)) []))) .nil)
def ofF (t : Nat) : Fn := ⟨2, 2, ofB t, true⟩
theorem of_l {T : Tb} {d f t i : Nat} {xs : List AV} (et : T.fns[t]? = some takeF) (e : T.fns[f]? = some (ofF t)) (B : Bg b h) (ne : i ≠ b) (hi : h[i]? = some (.lst xs)) (n0 : 0 < xs.length) (n1 : xs.length < 1000000)
    (q : ∀ v h', v ∈ xs → Kp b h h' → h'.length = h.length → Q v h') : WR (run T (d + 2) f [.ref b, .ref i] h) Q X := by
  refine r_imp e rfl rfl ?_
  show WS (st T (run T (d + 1)) (ofB t) none [some (.ref b), some (.ref i)] h) _ _ _ _ _
  unfold ofB
  have c : clsOf h (.ref i) = none := by unfold clsOf; dsimp only; rw [hi]
  have ln : lenA h (.ref i) = some xs.length := by unfold lenA; dsimp only; rw [hi]
  simp only [w_var, w_cst, w_no, w_bin, w_neg, WN_i, w_bO, w_vO, w_not, w_and, w_or, w_ite, w_cmp, WEq_i, WEq_s, WEq_o, WEq_b, WEq_t, w_chn, WK_t, w_tup, w_newL, w_newO, w_lst, w_idx, w_sl, w_fld, w_call, w_mth, w_blt, w_bm, w_isi, w_fmt, w_dct, ws_nil, ws_cons, s_nil, s_seq, s_ex, s_ret, s_asg, s_setF, s_setS, s_ite, s_brk, s_cnt, s_pas, s_star, WS_nx, WS_rt, WS_bk, WS_ct, WR_ok, WT_t, WT_f, WO_s, notO_s, List.getElem?_cons_zero, List.getElem?_cons_succ, Option.join_some, List.set_cons_zero, List.set_cons_succ, setT_nm, tr_b, tr_i, b_mod, b_div, b_add, b_sub, c_ltI, c_leI, c_gtI, c_eqI, c_eqS, Int.reduceLT, Int.reduceLE, decide_true, decide_false, Bool.not_true, Bool.not_false, WL_len c, ln]
  refine take_w et B (by omega) (by omega) fun r h' k kl r0 r1 => ?_
  obtain ⟨j, j1, rfl, j3⟩ := ixr r0 r1
  rw [g_l (k.get hi ne), j3]
  have e2 : xs[j]? = some (xs[j]'j1) := List.getElem?_eq_getElem j1
  show WO xs[j]? _
  rw [e2]
  exact q _ _ (List.getElem_mem _) k kl
theorem of_s {T : Tb} {d f t : Nat} {s : Tx} (et : T.fns[t]? = some takeF) (e : T.fns[f]? = some (ofF t)) (B : Bg b h) (n0 : 0 < s.length) (n1 : s.length < 1000000)
    (q : ∀ c h', c ∈ s → Kp b h h' → h'.length = h.length → Q (.str [c]) h') : WR (run T (d + 2) f [.ref b, .str s] h) Q X := by
  refine r_imp e rfl rfl ?_
  show WS (st T (run T (d + 1)) (ofB t) none [some (.ref b), some (.str s)] h) _ _ _ _ _
  unfold ofB
  have ok : okL s = true := Nat.ble_eq_true_of_le (by unfold SZ; omega)
  have ln : lenA h (.str s) = some s.length := by unfold lenA; dsimp only; rw [ok]
  simp only [w_var, w_cst, w_no, w_bin, w_neg, WN_i, w_bO, w_vO, w_not, w_and, w_or, w_ite, w_cmp, WEq_i, WEq_s, WEq_o, WEq_b, WEq_t, w_chn, WK_t, w_tup, w_newL, w_newO, w_lst, w_idx, w_sl, w_fld, w_call, w_mth, w_blt, w_bm, w_isi, w_fmt, w_dct, ws_nil, ws_cons, s_nil, s_seq, s_ex, s_ret, s_asg, s_setF, s_setS, s_ite, s_brk, s_cnt, s_pas, s_star, WS_nx, WS_rt, WS_bk, WS_ct, WR_ok, WT_t, WT_f, WO_s, notO_s, List.getElem?_cons_zero, List.getElem?_cons_succ, Option.join_some, List.set_cons_zero, List.set_cons_succ, setT_nm, tr_b, tr_i, b_mod, b_div, b_add, b_sub, c_ltI, c_leI, c_gtI, c_eqI, c_eqS, Int.reduceLT, Int.reduceLE, decide_true, decide_false, Bool.not_true, Bool.not_false, WL_len (show clsOf h (.str s) = none from rfl), ln]
  refine take_w et B (by omega) (by omega) fun r h' k kl r0 r1 => ?_
  obtain ⟨j, j1, rfl, j3⟩ := ixr r0 r1
  show WR (match okL s with
    | true => vO ((ixA s.length j).bind fun j => (s[j]?).map fun c => AV.str [c]) h'
    | false => .bad) Q _
  rw [ok, j3]
  have e2 : s[j]? = some (s[j]'j1) := List.getElem?_eq_getElem j1
  show WR (vO ((s[j]?).map fun c => AV.str [c]) h') Q _
  rw [e2]
  exact q _ _ (List.getElem_mem _) k kl
end
section
variable {T : Tb} {G : Ca} {h : AH} {W : List (List (Tx × AV))} {Q : AV → AH → Prop} {X : AX → AH → Prop}
theorem okL_le {α : Type} {xs : List α} (p : xs.length ≤ 16777216) : okL xs = true := Nat.ble_eq_true_of_le (by unfold SZ; omega)
theorem WL_s {s : Tx} (p : s.length ≤ 16777216) : WL T G .len [.str s] h Q X = Q (.int s.length) h := by
  rw [WL_len rfl]
  have ln : lenA h (.str s) = some s.length := by unfold lenA; dsimp only; rw [okL_le p]
  rw [ln]
  rfl
theorem WL_t {xs : List AV} : WL T G .len [.tup xs] h Q X = Q (.int xs.length) h := WL_len rfl
theorem WL_r {i : Nat} {xs : List AV} (e : h[i]? = some (.lst xs)) : WL T G .len [.ref i] h Q X = Q (.int xs.length) h := by
  have c : clsOf h (.ref i) = none := by unfold clsOf; dsimp only; rw [e]
  have ln : lenA h (.ref i) = some xs.length := by unfold lenA; dsimp only; rw [e]
  rw [WL_len c, ln]
  rfl
theorem b_pow {j : Int} (p : 0 ≤ j) (q : j ≤ 1000) : WR (binA .pow (.int 10) (.int j) h) Q X = Q (.int (10 ^ j.toNat)) h := by
  show WR (match decide (0 ≤ j) && (decide (j ≤ 1000000) && small 10) with
    | true => Rs.ok (AV.int (10 ^ j.toNat)) h
    | false => .bad) Q X = _
  rw [decide_eq_true p, decide_eq_true (show j ≤ 1000000 by omega)]
  rfl
theorem b_addS {s t : Tx} (p : s.length + t.length ≤ 1000000) : WR (binA .add (.str s) (.str t) h) Q X = Q (.str (s ++ t)) h := by
  show WR (match Nat.ble (s.length + t.length) SZ with
    | true => Rs.ok (AV.str (s ++ t)) h
    | false => .bad) Q X = _
  rw [Nat.ble_eq_true_of_le (by unfold SZ; omega)]
  rfl
theorem b_addL {i j : Nat} {xs ys : List AV} (ei : h[i]? = some (.lst xs)) (ej : h[j]? = some (.lst ys)) (p : (xs ++ ys).length ≤ 1000000) : WR (binA .add (.ref i) (.ref j) h) Q X = Q (.ref h.length) (h ++ [.lst (xs ++ ys)]) := by
  show WR (match h[i]?, h[j]? with
    | some (.lst xs), some (.lst ys) => newL (xs ++ ys) h
    | _, _ => .bad) Q X = _
  rw [ei, ej]
  dsimp only
  rw [w_newL, okL_le (by omega), WK_t]
/-- a word among a list's -/
theorem c_inL {i : Nat} {x : AV} {ys : List AV} (e : h[i]? = some (.lst ys)) (fx : flat x = true) (fy : ys.all flat = true) : cmpA W h .inn x (.ref i) = some (anyFl x ys) := by
  have e2 : inL h x ys = some (anyFl x ys) := by
    unfold inL
    rw [fx, fy]
    rfl
  show orO _ _ = _
  unfold inOf
  cases x <;> first | (dsimp only; rw [e]; dsimp only; rw [e2]; rfl) | cases fx
theorem c_inT {x : AV} {ys : List AV} (fx : flat x = true) (fy : ys.all flat = true) : cmpA W h .inn x (.tup ys) = some (anyFl x ys) := by
  have e : inTp x ys = some (anyFl x ys) := by
    unfold inTp
    rw [fx, fy]
    rfl
  cases x <;> first | (show orO _ _ = _; unfold inOf; dsimp only; rw [e]; rfl) | cases fx
theorem WT_to {t : Option Bool} {A B : Prop} (b : Bool) (e : t = some b) (w : match b with | true => A | false => B) : WT t A B := by rw [e]; cases b <;> exact w
theorem c_inTs {s : Tx} {ys : List AV} (fy : ys.all flat = true) : cmpA W h .inn (.str s) (.tup ys) = some (anyFl (.str s) ys) := c_inT rfl fy
theorem WT_ff {b : Bool} {A B : Prop} (e : b = false) (w : B) : WT (some b) A B := by rw [e]; exact w
theorem WT_tt {b : Bool} {A B : Prop} (e : b = true) (w : A) : WT (some b) A B := by rw [e]; exact w
/-- a two-place list -/
theorem src_rng {n : Int} (a : 0 ≤ n) (q : n < 1000000) : srcA .rng [.int n] h = some (.fix (rngL n.toNat 0)) := by
  show (match decide (-1000000 < n) && decide (n < 1000000) with
    | true => some (Src.fix (rngL n.toNat 0))
    | false => none) = _
  rw [decide_eq_true (by omega), decide_eq_true q]
  rfl
theorem rng_get : ∀ (n : Nat) (lo : Int) (i : Nat), (rngL n lo)[i]? = if i < n then some (.int (lo + i)) else none
  | 0, lo, i => by simp [rngL]
  | n + 1, lo, 0 => by simp [rngL]
  | n + 1, lo, i + 1 => by
    show (rngL n (lo + 1))[i]? = _
    rw [rng_get n (lo + 1) i]
    by_cases z : i < n
    · rw [if_pos z, if_pos (by omega)]
      congr 2
      push_cast
      omega
    · rw [if_neg z, if_neg (by omega)]
theorem rng_len : ∀ (n : Nat) (lo : Int), (rngL n lo).length = n
  | 0, _ => rfl
  | n + 1, lo => by
    show (rngL n (lo + 1)).length + 1 = _
    rw [rng_len n]
theorem ip_add {i j : Int} : WR (ipA .add (.int i) (.int j) h) Q X = Q (.int (i + j)) h := rfl
theorem ip_sub {i j : Int} : WR (ipA .sub (.int i) (.int j) h) Q X = Q (.int (i - j)) h := rfl
theorem posI_s {n : Nat} : posI (some n) = (n : Int) := rfl
theorem fl_s {s : Tx} : flat (.str s) = true := rfl
theorem fl_i {i : Int} : flat (.int i) = true := rfl
theorem any_c {x y : AV} {r : List AV} : anyFl x (y :: r) = (eqFl y x || anyFl x r) := rfl
theorem any_n {x : AV} : anyFl x [] = false := rfl
theorem eqf_s {a b : Tx} : eqFl (.str a) (.str b) = eqX a b := rfl
theorem eqX_cc {a b : Nat} {r q : Tx} : eqX (a :: r) (b :: q) = (a == b && eqX r q) := by
  show (Nat.beq a b && eqX r q) = _
  have : Nat.beq a b = (a == b) := Bool.eq_iff_iff.mpr (by simp [Nat.beq_eq])
  rw [this]
theorem eqX_nn : eqX [] [] = true := rfl
theorem eqX_nc {a : Nat} {r : Tx} : eqX [] (a :: r) = false := rfl
theorem eqX_cn {a : Nat} {r : Tx} : eqX (a :: r) [] = false := rfl
theorem eqX_t : ∀ {a b : Tx}, eqX a b = true → a = b
  | [], [], _ => rfl
  | [], _ :: _, h => nomatch h
  | _ :: _, [], h => nomatch h
  | a :: r, b :: q, h => by
    have h : (Nat.beq a b && eqX r q) = true := h
    rw [Bool.and_eq_true] at h
    rw [Nat.eq_of_beq_eq_true h.1, eqX_t h.2]
theorem eqX_r : ∀ (a : Tx), eqX a a = true
  | [] => rfl
  | a :: r => by
    show (Nat.beq a a && eqX r r) = true
    rw [Nat.beq_refl, eqX_r r]
    rfl
theorem c_inN {s : Tx} {ys : List AV} (fy : ys.all flat = true) : cmpA W (h ++ [.lst ys]) .inn (.str s) (.ref h.length) = some (anyFl (.str s) ys) := c_inL app_new rfl fy
theorem app_old {i : Nat} {o p : AO} (e : h[i]? = some o) : (h ++ [p])[i]? = some o := (List.getElem?_append_left (List.getElem?_eq_some_iff.mp e).1).trans e
theorem b_mulL {i : Nat} {xs : List AV} {k : Int} (e : h[i]? = some (.lst xs)) (k0 : 0 ≤ k) (k1 : k ≤ 1000) (n : xs.length ≤ 1000) : WR (binA .mul (.ref i) (.int k) h) Q X = Q (.ref h.length) (h ++ [.lst (List.replicate k.toNat xs).flatten]) := by
  have q : xs.length * k.toNat ≤ 1000000 := by
    have : k.toNat ≤ 1000 := by omega
    have := Nat.mul_le_mul n this
    omega
  show WR (match h[i]? with
      | some (.lst xs) => (match decide (-9223372036854775808 ≤ k) && (decide (k < 9223372036854775808) && Nat.ble (xs.length * k.toNat) SZ) with
        | true => newO (.lst (List.replicate k.toNat xs).flatten) h
        | false => .bad)
      | _ => .bad) Q X = _
  rw [e]
  dsimp only
  rw [decide_eq_true (by omega), decide_eq_true (by omega), Nat.ble_eq_true_of_le (by unfold SZ; omega)]
  rfl
theorem kd_s {s : Tx} : kd W h (.str s) = some 0 := rfl
theorem kd_l {i : Nat} {xs : List AV} (e : h[i]? = some (.lst xs)) : kd W h (.ref i) = some 1 := by unfold kd; dsimp only; rw [e]
theorem sup_find : supB .find 0 = true := rfl
theorem sup_sw : supB .startswith 0 = true := rfl
theorem sup_join : supB .join 0 = true := rfl
theorem sup_split : supB .split 0 = true := rfl
theorem sup_app : supB .append 1 = true := rfl
theorem sup_get3 : supB .get 3 = true := rfl
theorem bm_sw {s t : Tx} : WR (bmA W .startswith (.str s) [.str t] h) Q X = Q (.bl (preT t s)) h := rfl
theorem bm_find {s : Tx} {c : Nat} {i : Int} (p : 0 ≤ i) : WR (bmA W .find (.str s) [.str [c], .int i] h) Q X = Q (.int (posI (findC c i.toNat (s.drop i.toNat)))) h := by
  show WR (match decide (0 ≤ i) with
      | true => Rs.ok (AV.int (posI (findC c i.toNat (s.drop i.toNat)))) h
      | false => .bad) Q X = _
  rw [decide_eq_true p]
  rfl
theorem bm_app {i : Nat} {xs : List AV} {v : AV} (e : h[i]? = some (.lst xs)) (n : xs.length ≤ 1000000) : WR (bmA W .append (.ref i) [v] h) Q X = Q .non (h.set i (.lst (xs ++ [v]))) := by
  unfold bmA
  dsimp only
  rw [e]
  show WR (match Nat.blt xs.length SZ with
      | true => Rs.ok AV.non (h.set i (.lst (xs ++ [v])))
      | false => .bad) Q X = _
  rw [Nat.blt_eq.mpr (by unfold SZ; omega)]
  rfl
theorem bm_joinL {s : Tx} {i : Nat} {xs : List AV} {ss : List Tx} (e : h[i]? = some (.lst xs)) (z : strsA xs = some ss) (n : sumLen ss + ss.length * s.length ≤ 1000000) : WR (bmA W .join (.str s) [.ref i] h) Q X = Q (.str (joinT s ss)) h := by
  show WR (match itemsA h (.ref i) with
      | some xs => (match strsA xs with
        | some ss => (match Nat.ble (sumLen ss + ss.length * s.length) SZ with
          | true => Rs.ok (AV.str (joinT s ss)) h
          | false => .bad)
        | none => .bad)
      | none => .bad) Q X = _
  have i1 : itemsA h (.ref i) = some xs := by unfold itemsA; dsimp only; rw [e]
  rw [i1]
  dsimp only
  rw [z]
  dsimp only
  rw [Nat.ble_eq_true_of_le (by unfold SZ; omega)]
  rfl
theorem optP_b {o : Bop} {a b : E} {i : Int} : optP (.bin o a b) (.int i) = some (some i) := rfl
theorem optP_v {j : Nat} {i : Int} : optP (.var j) (.int i) = some (some i) := rfl
theorem optP_c {v : AV} {i : Int} : optP (.cst v) (.int i) = some (some i) := rfl
theorem optP_no {v : AV} : optP .no v = some none := rfl
theorem sl_s {s : Tx} {lo hi : Option Int} (n : s.length ≤ 1000000) : WR (sliceA (.str s) (some lo) (some hi) h) Q X = Q (.str (cutA s lo hi)) h := by
  show WR (match okL s with
      | true => Rs.ok (AV.str (cutA s lo hi)) h
      | false => .bad) Q X = _
  rw [okL_le (by omega)]
  rfl
theorem preT_cc {a b : Nat} {r q : Tx} : preT (a :: r) (b :: q) = (a == b && preT r q) := by
  show (Nat.beq a b && preT r q) = _
  have : Nat.beq a b = (a == b) := Bool.eq_iff_iff.mpr (by simp [Nat.beq_eq])
  rw [this]
theorem preT_n {a : Tx} : preT [] a = true := by cases a <;> rfl
theorem preT_c {a : Nat} {r : Tx} : preT (a :: r) [] = false := rfl
theorem tr_s0 : truth h (.str []) = some false := rfl
theorem tr_s1 {c : Nat} {s : Tx} (n : s.length ≤ 1000000) : truth h (.str (c :: s)) = some true := by
  show (match Nat.ble (c :: s).length 16777216 with
    | true => some (!(c :: s).isEmpty)
    | false => none) = _
  rw [Nat.ble_eq_true_of_le (by rw [List.length_cons]; omega)]
  rfl
theorem isI_s {C : List Cl} {s : Tx} : tyA C h (.str s) .str = some true := rfl
theorem isI_t {C : List Cl} {s : List AV} : tyA C h (.tup s) .tuple = some true := rfl
theorem isI_i {C : List Cl} {s : Int} : tyA C h (.int s) .int = some true := rfl
theorem g_s {s : Tx} {j c : Nat} (n : s.length ≤ 1000000) (e : s[j]? = some c) : WR (getA W (.str s) (.int j) h) Q X = Q (.str [c]) h := by
  show WR (match okL s with
    | true => vO ((ixA s.length j).bind fun j => (s[j]?).map fun c => AV.str [c]) h
    | false => .bad) Q X = _
  rw [okL_le (by omega), ixk (List.getElem?_eq_some_iff.mp e).1]
  show WR (vO ((s[j]?).map fun c => AV.str [c]) h) Q X = _
  rw [e]
  rfl
theorem g_t {xs : List AV} {j : Nat} {v : AV} (e : xs[j]? = some v) : WR (getA W (.tup xs) (.int j) h) Q X = Q v h := by
  show WR (vO ((ixA xs.length j).bind fun j => xs[j]?) h) Q X = _
  rw [ixk (List.getElem?_eq_some_iff.mp e).1]
  show WR (vO xs[j]? h) Q X = _
  rw [e]
  rfl
theorem g_t0 {x : AV} {r : List AV} : WR (getA W (.tup (x :: r)) (.int 0) h) Q X = Q x h := g_t (j := 0) rfl
theorem g_t1 {x y : AV} {r : List AV} : WR (getA W (.tup (x :: y :: r)) (.int 1) h) Q X = Q y h := g_t (j := 1) rfl
theorem g_t2 {x y z : AV} {r : List AV} : WR (getA W (.tup (x :: y :: z :: r)) (.int 2) h) Q X = Q z h := g_t (j := 2) rfl
theorem g_lj {i j : Nat} {xs : List AV} {v : AV} (e : h[i]? = some (.lst xs)) (z : xs[j]? = some v) : WR (getA W (.ref i) (.int j) h) Q X = Q v h := by
  rw [g_l e, ixk (List.getElem?_eq_some_iff.mp z).1]
  show WO xs[j]? _ = _
  rw [z]
  rfl
theorem g_l0 {i : Nat} {x : AV} {r : List AV} (e : h[i]? = some (.lst (x :: r))) : WR (getA W (.ref i) (.int 0) h) Q X = Q x h := g_lj (j := 0) e rfl
theorem g_l1 {i : Nat} {x y : AV} {r : List AV} (e : h[i]? = some (.lst (x :: y :: r))) : WR (getA W (.ref i) (.int 1) h) Q X = Q y h := g_lj (j := 1) e rfl
theorem w_lensetv {l : Lo} {i : Nat} {s : Tx} (e : l[i]? = some (some (.str s))) (k : (nodupT s && (s.all (fun c => Nat.blt c 128) && Nat.blt s.length 1000)) = true) : WR (ev T G (.lenset (.var i)) l h) Q X = Q (.int s.length) h := by
  rw [w_lenset, w_var, e]
  show WK _ _ = _
  rw [k, WK_t]
/-- a comprehension -/
theorem loopC_ok {q : Src} {xs : List AV} {step : AV → AH → List AV → Rs (List AV)} {N : List AV → AH → Prop} (I : Nat → List AV → AH → Prop)
    (it : ∀ i acc h, I i acc h → itemA q i h = some xs[i]?)
    (go : ∀ i v acc h, xs[i]? = some v → I i acc h → WR (step v h acc) (fun acc h => I (i + 1) acc h) (fun _ _ => False)) (out : ∀ acc h, I xs.length acc h → N acc h) :
    ∀ (k i n : Nat) (acc : List AV) (h : AH), i + k = xs.length → k < n → I i acc h → WR (loopC q step n i h acc) N (fun _ _ => False)
  | 0, i, n, acc, h, e, hn, s => by
    obtain ⟨n, rfl⟩ : ∃ m, n = m + 1 := ⟨n - 1, by omega⟩
    unfold loopC
    rw [it i acc h s]
    have : xs[i]? = none := List.getElem?_eq_none (by omega)
    rw [this]
    exact out acc h (by rw [show xs.length = i by omega]; exact s)
  | k + 1, i, n, acc, h, e, hn, s => by
    obtain ⟨n, rfl⟩ : ∃ m, n = m + 1 := ⟨n - 1, by omega⟩
    unfold loopC
    rw [it i acc h s]
    obtain ⟨v, hv⟩ : ∃ v, xs[i]? = some v := ⟨xs[i]'(by omega), List.getElem?_eq_getElem (by omega)⟩
    have w := go i v acc h hv s
    rw [hv]
    dsimp only
    generalize step v h acc = r at w
    cases r with
    | ok a2 h2 => exact loopC_ok I it go out k (i + 1) n a2 h2 (by omega) (by omega) w
    | ex x h2 => exact w.elim
    | bad => exact w.elim
theorem comp_of {k : Ik} {ys acc : List AV} {q : Src} {step : AV → AH → List AV → Rs (List AV)} {N : List AV → AH → Prop} (e1 : srcA k ys h = some q) (e2 : lockA q h = some (none, h)) (L : WR (loopC q step WF 0 h acc) N (fun _ _ => False)) : WR (comp k ys h step acc) N (fun _ _ => False) := by
  unfold comp
  rw [e1]
  dsimp only
  rw [e2]
  dsimp only
  generalize loopC q step WF 0 h acc = r at L
  cases r <;> first | exact L | exact L.elim
theorem w_lc {l : Lo} {t : Mm.T} {k : Ik} {as c e : E} {P : List AV → AH → Prop} (w : WR (evs T G as l h) P X)
    (I : List AV → Nat → List AV → AH → Prop)
    (src : ∀ ys h, P ys h → ∃ q xs, srcA k ys h = some q ∧ lockA q h = some (none, h) ∧ xs.length ≤ 1000000 ∧ I xs 0 [] h ∧ (∀ i acc h, I xs i acc h → itemA q i h = some xs[i]?)
      ∧ (∀ i v acc h, xs[i]? = some v → I xs i acc h → WO (setT t v (wipeA l (slots t)) h) fun l2 => WR (ev T G c l2 h) (fun x h => WT (truth h x) (WR (ev T G e l2 h) (fun y h => acc.length ≤ 1000000 ∧ I xs (i + 1) (acc ++ [y]) h) (fun _ _ => False)) (I xs (i + 1) acc h)) (fun _ _ => False))
      ∧ (∀ acc h, I xs xs.length acc h → acc.length ≤ 1000000 ∧ Q (.ref h.length) (h ++ [.lst acc]))) :
    WR (ev T G (.lc t k as c e) l h) Q X := by
  rw [ev, WR_bind]
  refine WR_mono w (fun ys h2 p => ?_) (fun _ _ x => x)
  obtain ⟨q, xs, e1, e2, hn, s, it, go, out⟩ := src ys h2 p
  rw [WR_bind]
  refine WR_mono (Q := fun acc h => acc.length ≤ 1000000 ∧ Q (.ref h.length) (h ++ [.lst acc])) (comp_of e1 e2 (loopC_ok (xs := xs) (I xs) it (fun i v acc h z1 z2 => ?_) out xs.length 0 WF [] h2 (by omega) (by unfold WF; omega) s)) (fun acc h3 z => ?_) (fun _ _ x => x.elim)
  · have g := go i v acc h z1 z2
    generalize setT t v (wipeA l (slots t)) h = o at g
    cases o with
    | none => exact g.elim
    | some l2 =>
      dsimp only
      rw [WR_bind, w_noEx]
      refine WR_mono g (fun x h3 w => ?_) (fun _ _ x => x)
      generalize truth h3 x = o at w
      cases o with
      | none => exact w.elim
      | some b =>
        cases b with
        | false => exact w
        | true =>
          dsimp only
          rw [WR_bind, w_noEx]
          refine WR_mono w (fun y h4 w => ?_) (fun _ _ x => x)
          unfold addA
          rw [Nat.blt_eq.mpr (by unfold SZ; have := w.1; omega)]
          exact w.2
  · rw [w_newL, okL_le (by have := z.1; omega), WK_t]
    exact z.2
end
end Mm

set_option Elab.async false
set_option linter.all false
set_option maxRecDepth 100000
/-! A heap that only grows; bags made; walks of lists; exceptions that stand. -/
namespace Mm
/-- the heap grows -/
def Gr (h h' : AH) : Prop := h.length ≤ h'.length ∧ ∀ (i : Nat) (o : AO), h[i]? = some o → h'[i]? = some o
theorem Gr.refl (h : AH) : Gr h h := ⟨Nat.le_refl _, fun _ _ e => e⟩
theorem Gr.trans {a b c : AH} (x : Gr a b) (y : Gr b c) : Gr a c := ⟨Nat.le_trans x.1 y.1, fun i o e => y.2 i o (x.2 i o e)⟩
theorem Gr.app {a b : AH} {o : AO} (x : Gr a b) : Gr a (b ++ [o]) := ⟨by rw [List.length_append]; have := x.1; omega, fun i p e => app_old (x.2 i p e)⟩
theorem Gr.one {a : AH} {o : AO} : Gr a (a ++ [o]) := (Gr.refl a).app
theorem Gr.kp {a b : AH} {i : Nat} (x : Gr a b) (g : Bg i a) : Kp i a b := by
  refine ⟨x.1, fun j lt _ => ?_, ?_⟩
  · obtain ⟨o, e⟩ : ∃ o, a[j]? = some o := ⟨_, List.getElem?_eq_getElem lt⟩
    rw [e, x.2 _ _ e]
  · obtain ⟨u, v, e⟩ := g
    exact ⟨u, v, x.2 _ _ e⟩
theorem Gr.ne {a b : AH} {i j : Nat} {o : AO} (x : Gr a b) (e : a[i]? = some o) (n : b.length ≤ j) : i ≠ j := by
  have := (List.getElem?_eq_some_iff.mp e).1
  have := x.1
  omega
theorem Gr.set {a b : AH} {p : Nat} {o : AO} (x : Gr a b) (n : a.length ≤ p) : Gr a (b.set p o) := ⟨by rw [List.length_set]; exact x.1, fun i u e => by
  have := (List.getElem?_eq_some_iff.mp e).1
  rw [List.getElem?_set_ne (by omega)]
  exact x.2 _ _ e⟩
section
variable {T : Tb} {d : Nat} {h : AH} {G : Ca} {l : Lo} {Q : AV → AH → Prop} {X : AX → AH → Prop} {QS : List AV → AH → Prop} {W : List (List (Tx × AV))}
theorem g_f {i j : Nat} {ns : List Int} (e : h[i]? = some (.flst (ns.map .int))) (z : j < ns.length) : ∃ x, ∀ (kk : Int) (Q : AV → AH → Prop) (X : AX → AH → Prop), kk = j → WR (getA W (.ref i) (.int kk) h) Q X = Q (.int x) h := by
  refine ⟨ns[j], fun kk Q X ek => ?_⟩
  subst ek
  unfold getA
  dsimp only
  rw [e]
  dsimp only
  rw [w_vO, ixk (by rw [List.length_map]; exact z)]
  show WO (ns.map AV.int)[j]? _ = _
  rw [List.getElem?_map, List.getElem?_eq_getElem z]
  rfl
theorem WL_f {i : Nat} {xs : List AV} (e : h[i]? = some (.flst xs)) : WL T G .len [.ref i] h Q X = Q (.int xs.length) h := by
  have c : clsOf h (.ref i) = none := by unfold clsOf; dsimp only; rw [e]
  have ln : lenA h (.ref i) = some xs.length := by unfold lenA; dsimp only; rw [e]
  rw [WL_len c, ln]
  rfl
theorem b_min {i j : Int} : WL T G .min2 [.int i, .int j] h Q X = Q (.int (if j < i then j else i)) h := by
  rw [WL_o (by decide)]
  rfl
def bagTail : Mm.S := (.seq (.asg (.nm 3) (.bin .add (.cst (.int 1)) (.bin .mod (.bin .add (.bin .add (.bin .add (.bin .mul (.bin .mod (.var 2) (.cst (.int 2147483629))) (.cst (.int 16807))) (.bin .mul (.bin .mul (.cst (.int 40009)) (.var 1)) (.var 1))) (.bin .mul (.cst (.int 7919)) (.var 1))) (.cst (.int 1009))) (.cst (.int 2147483645)))))
  (.seq (.ite (.cmp .lt (.var 2) (.bin .pow (.cst (.int 10)) (.cst (.int 18)))) (.seq (.ret (.lst (.cons (.cst (.int 0)) (.cons (.var 3) .nil))))
  .nil) .nil)
  (.seq (.ret (.lst (.cons (.var 2) (.cons (.var 3) .nil))))
  .nil)))
def bagB : Mm.S := (.seq (.asg (.nm 2) (.cst (.int 0)))
  (.seq (.ite (.cmp .lt (.var 1) (.blt .len (.cons (.var 0) .nil))) (.seq (.asg (.nm 2) (.bin .mod (.idx (.var 0) (.var 1)) (.bin .pow (.cst (.int 10)) (.cst (.int 60)))))
  .nil) .nil)
  bagTail))
def bagF : Fn := ⟨2, 4, bagB, false⟩
/-- a bag is made -/
theorem bag_w {f : Nat} {ns : List Int} {kk : Int} (ef : T.fns[f]? = some bagF) (e : h[0]? = some (.flst (ns.map .int))) (hk0 : 0 ≤ kk) (hk : kk ≤ 1000) (q : ∀ x y : Int, Q (.ref h.length) (h ++ [.lst [.int x, .int y]])) : WR (run T (d + 1) f [.ref 0, .int kk] h) Q X := by
  refine r_imp ef rfl rfl ?_
  show WS (st T (run T d) bagB none [some (.ref 0), some (.int kk), none, none] h) _ _ _ _ _
  unfold bagB
  have tail : ∀ cell : Int, WS (st T (run T d) bagTail none [some (.ref 0), some (.int kk), some (.int cell), none] h) (fun _ h => Q .non h) Q (fun x _ h => X x h) (fun _ _ => False) (fun _ _ => False) := by
    intro cell
    unfold bagTail
    simp only [w_var, w_cst, w_no, w_bin, w_neg, WN_i, w_bO, w_vO, w_not, w_and, w_or, w_ite, w_cmp, WEq_i, WEq_s, WEq_o, WEq_b, WEq_t, w_chn, WK_t, w_tup, w_newL, w_newO, w_lst, w_idx, w_sl, w_fld, w_call, w_mth, w_blt, w_bm, w_isi, w_fmt, w_dct, ws_nil, ws_cons, s_nil, s_seq, s_ex, s_ret, s_asg, s_setF, s_setS, s_ite, s_brk, s_cnt, s_pas, s_star, WS_nx, WS_rt, WS_bk, WS_ct, WR_ok, WT_t, WT_f, WO_s, notO_s, List.getElem?_cons_zero, List.getElem?_cons_succ, Option.join_some, List.set_cons_zero, List.set_cons_succ, setT_nm, tr_b, tr_i, b_mod, b_div, b_add, b_sub, c_ltI, c_leI, c_gtI, c_eqI, c_eqS, Int.reduceLT, Int.reduceLE, decide_true, decide_false, Bool.not_true, Bool.not_false, okL_le, List.length_cons, List.length_nil, Nat.reduceAdd, Nat.zero_add, Nat.reduceLeDiff, WL_s, WL_t, b_pow, Int.reducePow, Int.reduceToNat, Nat.reducePow, Int.reduceMul, Int.reduceAdd, Int.reduceSub, c_inN, List.all_cons, List.all_nil, fl_s, fl_i, any_c, any_n, eqf_s, eqX_cc, eqX_nn, eqX_nc, eqX_cn, Nat.reduceBEq, Bool.true_and, Bool.and_true, Bool.false_and, Bool.and_false, Bool.or_false, Bool.or_true, Bool.true_or, Bool.false_or, kd_s, sup_find, sup_sw, sup_join, sup_split, sup_app, sup_get3, Nat.beq_refl, bm_sw, optP_b, optP_v, optP_c, optP_no, preT_cc, preT_n, preT_c, tr_s0, tr_s1, s_aug, WAu_i, ip_add, ip_sub, forall_const, true_implies, posI_s, g_t0, g_t1, g_t2, c_neS, c_neI, c_inTs, isI_s, isI_t, isI_i]
    rw [b_mul (by rw [Bool.or_eq_true]; exact Or.inr rfl), b_mul (by rw [Bool.or_eq_true]; exact Or.inl rfl), b_mul (by rw [Bool.or_eq_true]; exact Or.inr (sm (by omega) (by omega)))]
    simp only [w_var, w_cst, w_no, w_bin, w_neg, WN_i, w_bO, w_vO, w_not, w_and, w_or, w_ite, w_cmp, WEq_i, WEq_s, WEq_o, WEq_b, WEq_t, w_chn, WK_t, w_tup, w_newL, w_newO, w_lst, w_idx, w_sl, w_fld, w_call, w_mth, w_blt, w_bm, w_isi, w_fmt, w_dct, ws_nil, ws_cons, s_nil, s_seq, s_ex, s_ret, s_asg, s_setF, s_setS, s_ite, s_brk, s_cnt, s_pas, s_star, WS_nx, WS_rt, WS_bk, WS_ct, WR_ok, WT_t, WT_f, WO_s, notO_s, List.getElem?_cons_zero, List.getElem?_cons_succ, Option.join_some, List.set_cons_zero, List.set_cons_succ, setT_nm, tr_b, tr_i, b_mod, b_div, b_add, b_sub, c_ltI, c_leI, c_gtI, c_eqI, c_eqS, Int.reduceLT, Int.reduceLE, decide_true, decide_false, Bool.not_true, Bool.not_false, okL_le, List.length_cons, List.length_nil, Nat.reduceAdd, Nat.zero_add, Nat.reduceLeDiff, WL_s, WL_t, b_pow, Int.reducePow, Int.reduceToNat, Nat.reducePow, Int.reduceMul, Int.reduceAdd, Int.reduceSub, c_inN, List.all_cons, List.all_nil, fl_s, fl_i, any_c, any_n, eqf_s, eqX_cc, eqX_nn, eqX_nc, eqX_cn, Nat.reduceBEq, Bool.true_and, Bool.and_true, Bool.false_and, Bool.and_false, Bool.or_false, Bool.or_true, Bool.true_or, Bool.false_or, kd_s, sup_find, sup_sw, sup_join, sup_split, sup_app, sup_get3, Nat.beq_refl, bm_sw, optP_b, optP_v, optP_c, optP_no, preT_cc, preT_n, preT_c, tr_s0, tr_s1, s_aug, WAu_i, ip_add, ip_sub, forall_const, true_implies, posI_s, g_t0, g_t1, g_t2, c_neS, c_neI, c_inTs, isI_s, isI_t, isI_i]
    rw [b_mul (by rw [Bool.or_eq_true]; exact Or.inl rfl)]
    simp only [w_var, w_cst, w_no, w_bin, w_neg, WN_i, w_bO, w_vO, w_not, w_and, w_or, w_ite, w_cmp, WEq_i, WEq_s, WEq_o, WEq_b, WEq_t, w_chn, WK_t, w_tup, w_newL, w_newO, w_lst, w_idx, w_sl, w_fld, w_call, w_mth, w_blt, w_bm, w_isi, w_fmt, w_dct, ws_nil, ws_cons, s_nil, s_seq, s_ex, s_ret, s_asg, s_setF, s_setS, s_ite, s_brk, s_cnt, s_pas, s_star, WS_nx, WS_rt, WS_bk, WS_ct, WR_ok, WT_t, WT_f, WO_s, notO_s, List.getElem?_cons_zero, List.getElem?_cons_succ, Option.join_some, List.set_cons_zero, List.set_cons_succ, setT_nm, tr_b, tr_i, b_mod, b_div, b_add, b_sub, c_ltI, c_leI, c_gtI, c_eqI, c_eqS, Int.reduceLT, Int.reduceLE, decide_true, decide_false, Bool.not_true, Bool.not_false, okL_le, List.length_cons, List.length_nil, Nat.reduceAdd, Nat.zero_add, Nat.reduceLeDiff, WL_s, WL_t, b_pow, Int.reducePow, Int.reduceToNat, Nat.reducePow, Int.reduceMul, Int.reduceAdd, Int.reduceSub, c_inN, List.all_cons, List.all_nil, fl_s, fl_i, any_c, any_n, eqf_s, eqX_cc, eqX_nn, eqX_nc, eqX_cn, Nat.reduceBEq, Bool.true_and, Bool.and_true, Bool.false_and, Bool.and_false, Bool.or_false, Bool.or_true, Bool.true_or, Bool.false_or, kd_s, sup_find, sup_sw, sup_join, sup_split, sup_app, sup_get3, Nat.beq_refl, bm_sw, optP_b, optP_v, optP_c, optP_no, preT_cc, preT_n, preT_c, tr_s0, tr_s1, s_aug, WAu_i, ip_add, ip_sub, forall_const, true_implies, posI_s, g_t0, g_t1, g_t2, c_neS, c_neI, c_inTs, isI_s, isI_t, isI_i]
    exact WT_d (fun _ => q _ _) (fun _ => q _ _)
  rw [s_seq]
  simp only [s_asg, w_cst, setT_nm, WO_s, List.set_cons_succ, List.set_cons_zero]
  rw [s_seq]
  simp only [s_ite, w_cmp, w_var, w_blt, ws_cons, ws_nil, WL_f e, List.getElem?_cons_zero, List.getElem?_cons_succ, Option.join_some, WO_s, WEq_i, c_ltI, tr_b]
  refine WT_d (fun c => ?_) (fun c => ?_)
  · rw [s_seq]
    obtain ⟨x, gx⟩ := g_f (W := T.wds) (j := kk.toNat) e (by rw [List.length_map] at c; omega)
    have gx := fun Q X => gx kk Q X (by omega)
    simp only [s_asg, w_bin, w_idx, w_var, w_cst, List.getElem?_cons_zero, List.getElem?_cons_succ, Option.join_some, WO_s, gx, s_nil, setT_nm, List.set_cons_succ, List.set_cons_zero]
    have p60 : (0 : Int) < 10 ^ Int.toNat 60 := Int.pow_pos (by decide)
    rw [b_pow (by decide) (by decide), b_mod p60]
    exact tail _
  · rw [s_nil]
    exact tail 0
/-- a for over what stands while it is walked -/
theorem loopF_any {q : Src} {xs : List AV} {step : AV → Lo → AH → Fl} {N B C : Lo → AH → Prop} {R : AV → AH → Prop} {X : AX → Lo → AH → Prop} (I : Nat → Lo → AH → Prop)
    (it : ∀ i l h, I i l h → itemA q i h = some xs[i]?)
    (go : ∀ i v l h, xs[i]? = some v → I i l h → WS (step v l h) (I (i + 1)) R X N (I (i + 1))) (out : ∀ l h, I xs.length l h → N l h) :
    ∀ (k i n : Nat) (l : Lo) (h : AH), i + k = xs.length → k < n → I i l h → WS (loopF q step n i l h) N R X B C
  | 0, i, n, l, h, e, hn, s => by
    obtain ⟨n, rfl⟩ : ∃ m, n = m + 1 := ⟨n - 1, by omega⟩
    unfold loopF
    rw [it i l h s]
    have : xs[i]? = none := List.getElem?_eq_none (by omega)
    rw [this]
    exact out l h (by rw [show xs.length = i by omega]; exact s)
  | k + 1, i, n, l, h, e, hn, s => by
    obtain ⟨n, rfl⟩ : ∃ m, n = m + 1 := ⟨n - 1, by omega⟩
    unfold loopF
    rw [it i l h s]
    obtain ⟨v, hv⟩ : ∃ v, xs[i]? = some v := ⟨xs[i]'(by omega), List.getElem?_eq_getElem (by omega)⟩
    have w := go i v l h hv s
    rw [hv]
    dsimp only
    generalize step v l h = r at w
    cases r with
    | nx l2 h2 => exact loopF_any I it go out k (i + 1) n l2 h2 (by omega) (by omega) w
    | ct l2 h2 => exact loopF_any I it go out k (i + 1) n l2 h2 (by omega) (by omega) w
    | bk l2 h2 => exact w
    | rt v h2 => exact w
    | ex x l2 h2 => exact w
    | bad => exact w
/-- a for over a list of the heap -/
theorem s_forL {c : Option AX} {N B C : Lo → AH → Prop} {R : AV → AH → Prop} {X : AX → Lo → AH → Prop} {t : Mm.T} {as : E} {b : S} {P : List AV → AH → Prop} (w : WR (evs T G as l h) P (fun x h => X x l h))
    (I : Nat → Nat → List AV → Lo → AH → Prop)
    (src : ∀ ys h, P ys h → ∃ a xs, ys = [.ref a] ∧ xs.length ≤ 1000000 ∧ I 0 a xs l h ∧ (∀ i l h, I i a xs l h → h[a]? = some (.lst xs))
      ∧ (∀ i v l h, xs[i]? = some v → I i a xs l h → WO (setT t v l h) fun l => WS (st T G b c l h) (I (i + 1) a xs) R X N (I (i + 1) a xs)) ∧ (∀ l h, I xs.length a xs l h → N l h)) :
    WS (st T G (.for_ t .val as b) c l h) N R X B C := by
  rw [st, w_onR]
  refine WR_mono w (fun ys h2 p => ?_) (fun _ _ x => x)
  obtain ⟨a, xs, rfl, hn, s, hl, go, out⟩ := src ys h2 p
  have e : srcA .val [.ref a] h2 = some (.lst a) := by
    show srcVal [.ref a] h2 = _
    unfold srcVal
    dsimp only
    rw [hl 0 l h2 s]
  rw [e]
  dsimp only [lockA]
  have L := loopF_any (q := .lst a) (xs := xs) (B := fun _ _ => False) (C := fun _ _ => False) (N := N) (R := R) (X := X) (step := fun v l h => match setT t v l h with
    | some l => st T G b c l h
    | none => .bad) (fun i => I i a xs) (fun i l h z => by
      show (match h[a]? with
        | some (.lst xs) => some xs[i]?
        | some (.flst xs) => some xs[i]?
        | _ => none) = _
      rw [hl i l h z]) (fun i v l h e1 e2 => by
      have := go i v l h e1 e2
      generalize setT t v l h = z at this
      cases z with
      | none => exact this.elim
      | some l2 => exact this) out xs.length 0 WF l h2 (by omega) (by unfold WF; omega) s
  generalize loopF _ _ _ _ _ _ = r at L
  cases r <;> first | exact L | exact L.elim
/-! ### data that are laid -/
theorem strOk_of {s : Tx} (h : ∀ c ∈ s, c < 1000) : PySem.PyData.strOk (toStr s) = true := by
  unfold PySem.PyData.strOk toStr
  dsimp only
  rw [← Array.all_toList]
  simp only [List.all_eq_true, decide_eq_true_eq]
  intro c m
  have := h c m
  omega
theorem av_s {h : AH} {n : Nat} {s : Tx} : toD h (n + 1) (.str s) = some (.str (toStr s)) := rfl
theorem av_t {h : AH} {n : Nat} {xs : List AV} : toD h (n + 1) (.tup xs) = (toD.toDs (toD h n) xs).map PySem.PyData.tuple := rfl
/-- a datum that can be laid -/
def Dt (h : AH) (n : Nat) (v : AV) : Prop := ∃ D, toD h n v = some D ∧ D.canLay0 = true ∧ D.depth ≤ n
theorem Dt.str {h : AH} {n : Nat} {s : Tx} (k : ∀ c ∈ s, c < 1000) : Dt h (n + 1) (.str s) := ⟨_, rfl, by unfold PySem.PyData.canLay0; exact strOk_of k, by unfold PySem.PyData.depth; omega⟩
theorem Dt.int {h : AH} {n : Nat} {i : Int} : Dt h (n + 1) (.int i) := ⟨_, rfl, by unfold PySem.PyData.canLay0; rfl, by unfold PySem.PyData.depth; omega⟩
theorem Dt.tup {h : AH} {n : Nat} : ∀ {xs : List AV}, (∀ x ∈ xs, Dt h n x) → Dt h (n + 1) (.tup xs) := by
  intro xs k
  have : ∃ ds, toD.toDs (toD h n) xs = some ds ∧ PySem.PyData.canLayAll0 ds = true ∧ PySem.PyData.depthAll ds ≤ n := by
    induction xs with
    | nil => exact ⟨[], rfl, by unfold PySem.PyData.canLayAll0; rfl, by unfold PySem.PyData.depthAll; omega⟩
    | cons x r ih =>
      obtain ⟨D, e, c, dp⟩ := k x (List.mem_cons_self ..)
      obtain ⟨ds, e2, c2, dp2⟩ := ih fun y m => k y (List.mem_cons_of_mem _ m)
      refine ⟨D :: ds, ?_, ?_, ?_⟩
      · show (match toD h n x with
          | some d => (match toD.toDs (toD h n) r with
            | some ds => some (d :: ds)
            | none => none)
          | none => none) = _
        rw [e, e2]
      · unfold PySem.PyData.canLayAll0
        rw [c, c2]
        rfl
      · unfold PySem.PyData.depthAll
        omega
  obtain ⟨ds, e, c, dp⟩ := this
  refine ⟨.tuple ds, by rw [av_t, e]; rfl, by unfold PySem.PyData.canLay0; exact c, by unfold PySem.PyData.depth; omega⟩
theorem eq_same {W : List (List (Tx × AV))} {h : AH} {xs : List AV} (k : Dt h DP (.tup xs)) : cmpA W h .ne (.tup xs) (.tup xs) = some false := by
  obtain ⟨D, e, c, dp⟩ := k
  show notO (eqB h (.tup xs) (.tup xs)) = _
  unfold eqB
  rw [e]
  have sh : PySem.SeqAt.shaped D = true := by
    unfold PySem.SeqAt.shaped
    rw [c, decide_eq_true (by have : DP = 40 := rfl; omega)]
    rfl
  dsimp only
  rw [sh]
  show notO (some (PySem.PyData.eqv D D)) = _
  rw [PySem.SeqAt.eqv_refl D c]
  rfl
theorem Dt.strk {h : AH} {n : Nat} {s : Tx} (k : PySem.PyData.strOk (toStr s) = true) : Dt h (n + 1) (.str s) := ⟨_, rfl, by unfold PySem.PyData.canLay0; exact k, by unfold PySem.PyData.depth; omega⟩
theorem Dt.lst {h : AH} {n i : Nat} {xs : List AV} (e : h[i]? = some (.lst xs)) (k : ∀ x ∈ xs, Dt h n x) : Dt h (n + 1) (.ref i) := by
  obtain ⟨D, e2, c, dp⟩ := Dt.tup k
  rw [av_t] at e2
  cases z : toD.toDs (toD h n) xs with
  | none => rw [z] at e2; cases e2
  | some ds =>
    rw [z] at e2
    cases e2
    refine ⟨.list ds, ?_, ?_, ?_⟩
    · show (match h[i]? with
        | some (.lst xs) => (toD.toDs (toD h n) xs).map PySem.PyData.list
        | some (.flst xs) => (toD.toDs (toD h n) xs).map PySem.PyData.list
        | _ => none) = _
      rw [e]
      dsimp only
      rw [z]
      rfl
    · unfold PySem.PyData.canLay0 at c ⊢
      exact c
    · unfold PySem.PyData.depth at dp ⊢
      exact dp
theorem eq_tt {h : AH} {xs : List AV} (k : Dt h DP (.tup xs)) : eqA h (.tup xs) (.tup xs) = some true := by
  have z : notO (eqA h (.tup xs) (.tup xs)) = some false := eq_same (W := []) k
  cases e : eqA h (.tup xs) (.tup xs) with
  | none => rw [e] at z; cases z
  | some b => rw [e] at z; cases b <;> first | rfl | cases z
/-- two lists of the same things -/
theorem eq_ll {h : AH} {i j : Nat} {xs : List AV} (ei : h[i]? = some (.lst xs)) (ej : h[j]? = some (.lst xs)) (k : ∀ x ∈ xs, Dt h 39 x) : eqA h (.ref i) (.ref j) = some true := by
  obtain ⟨D, e, c, dp⟩ := Dt.lst (n := 39) ei k
  have dj : toD h 40 (.ref j) = some D := by
    rw [← e]
    show (match h[j]? with
        | some (.lst xs) => (toD.toDs (toD h 39) xs).map PySem.PyData.list
        | some (.flst xs) => (toD.toDs (toD h 39) xs).map PySem.PyData.list
        | _ => none) = (match h[i]? with
        | some (.lst xs) => (toD.toDs (toD h 39) xs).map PySem.PyData.list
        | some (.flst xs) => (toD.toDs (toD h 39) xs).map PySem.PyData.list
        | _ => none)
    rw [ei, ej]
  have dc : dicS h i j = false := by
    unfold dicS
    rw [ei]
    simp
  show (match dicS h i j with
    | true => some true
    | false => eqB h (.ref i) (.ref j)) = _
  rw [dc]
  dsimp only
  unfold eqB
  rw [show DP = 40 from rfl, e, dj]
  have sh : PySem.SeqAt.shaped D = true := by
    unfold PySem.SeqAt.shaped
    rw [c, decide_eq_true (by omega)]
    rfl
  dsimp only
  rw [sh]
  show some (PySem.PyData.eqv D D) = _
  rw [PySem.SeqAt.eqv_refl D c]
/-- what is like itself, at any time -/
def Sv (h : AH) (a : AV) : Prop := ∀ h', Gr h h' → clsOf h' a = none ∧ eqA h' a a = some true
theorem Sv.gr {h h' : AH} {a : AV} (g : Gr h h') (s : Sv h a) : Sv h' a := fun h2 g2 => s h2 (g.trans g2)
theorem Sv.ne {T : Tb} {G : Ca} {h : AH} {a : AV} {Q : AV → AH → Prop} {X : AX → AH → Prop} (s : Sv h a) : WEq T G .ne a a h Q X = Q (.bl false) h := by
  obtain ⟨c, e⟩ := s h (Gr.refl h)
  rw [WEq_n c]
  show WO (notO (eqA h a a)) _ = _
  rw [e]
  rfl
theorem ne_ll {T : Tb} {G : Ca} {h : AH} {i j : Nat} {xs : List AV} {Q : AV → AH → Prop} {X : AX → AH → Prop} (ei : h[i]? = some (.lst xs)) (ej : h[j]? = some (.lst xs)) (k : ∀ x ∈ xs, Dt h 39 x) : WEq T G .ne (.ref i) (.ref j) h Q X = Q (.bl false) h := by
  have c : clsOf h (.ref i) = none := by unfold clsOf; dsimp only; rw [ei]
  rw [WEq_n c]
  show WO (notO (eqA h _ _)) _ = _
  rw [eq_ll ei ej k]
  rfl
/-! ### exceptions -/
/-- an exception stands here -/
def XA (h : AH) (r : Nat) (x : AX) : Prop := (x.fs = [] ∧ h[r]? = some (.exc x none)) ∨ ∃ j, h[r]? = some (.exc x (some j)) ∧ h[j]? = some (.xdo x.fs)
theorem XA.gr {h h' : AH} {r : Nat} {x : AX} (g : Gr h h') (a : XA h r x) : XA h' r x := by
  rcases a with ⟨e, a⟩ | ⟨j, a, b⟩
  · exact .inl ⟨e, g.2 _ _ a⟩
  · exact .inr ⟨j, g.2 _ _ a, g.2 _ _ b⟩
theorem ev_isx {i r : Nat} {x : AX} {t : Ty} {b : Bool} (lv : l[i]? = some (some (.ref r))) (a : XA h r x) (e : isxA T.cls x t = some b) : ev T G (.isx (.var i) t) l h = .ok (.bl b) h := by
  unfold ev ev
  rw [lv]
  dsimp only [Rs.bind]
  rcases a with ⟨_, a⟩ | ⟨j, a, c⟩
  · rw [a]
    dsimp only
    rw [e]
    rfl
  · rw [a]
    dsimp only
    rw [c]
    dsimp only
    rw [e]
    rfl
theorem ev_xfld {i r f : Nat} {x : AX} {v : AV} (lv : l[i]? = some (some (.ref r))) (a : XA h r x) (e : getF f x.fs = some v) : ev T G (.fld (.var i) f) l h = .ok v h := by
  unfold ev ev
  rw [lv]
  dsimp only [Rs.bind]
  unfold fldA
  rcases a with ⟨z, a⟩ | ⟨j, a, c⟩
  · rw [z] at e
    cases e
  · dsimp only
    rw [a]
    dsimp only
    rw [c]
    dsimp only
    rw [e]
    rfl
theorem w_xstr {i r : Nat} {x : AX} (lv : l[i]? = some (some (.ref r))) (a : XA h r x) : WR (ev T G (.blt .str (.cons (.var i) .nil)) l h) Q X = Q (.str x.msg) h := by
  rw [w_blt, ws_cons, w_var, lv, Option.join_some, WO_s, ws_nil, WL_o (by decide)]
  have : ∃ j, h[r]? = some (.exc x j) := by
    rcases a with ⟨z, a⟩ | ⟨j, a, c⟩
    · exact ⟨_, a⟩
    · exact ⟨_, a⟩
  obtain ⟨j, e⟩ := this
  unfold bltA
  dsimp only
  rw [e]
  rfl
/-- an exception is made -/
theorem w_newx {i c : Nat} {x : AX} {v : AV} (lv : l[i]? = some (some v)) (e : mkX T.cls c [v] = some x) (n : x.fs ≠ []) (q : ∀ r h', Gr h h' → XA h' r x → Q (.ref r) h') : WR (ev T G (.newx c (.cons (.var i) .nil)) l h) Q X := by
  rw [ev, WR_bind, ws_cons, w_var, lv, Option.join_some, WO_s, ws_nil, e]
  dsimp only
  cases z : x.fs with
  | nil => exact absurd z n
  | cons a b =>
    refine q _ _ Gr.one.app (.inr ⟨h.length, ?_, ?_⟩)
    · have := app_new (h := h ++ [.xdo (a :: b)]) (o := .exc x (some h.length))
      rw [List.length_append] at this
      exact this
    · rw [z]
      exact app_old app_new
theorem w_newx0 {c : Nat} {x : AX} (e : mkX T.cls c [] = some x) (n : x.fs = []) (q : ∀ r h', Gr h h' → XA h' r x → Q (.ref r) h') : WR (ev T G (.newx c .nil) l h) Q X := by
  rw [ev, WR_bind, ws_nil, e]
  dsimp only
  rw [n]
  exact q _ _ Gr.one (.inl ⟨n, app_new⟩)
/-- a list goes on -/
theorem cat_w {c : Option AX} {N B C : Lo → AH → Prop} {R : AV → AH → Prop} {X : AX → Lo → AH → Prop} {i p : Nat} {es : E} {rest : S} {xs ys : List AV} (lv : l[i]? = some (some (.ref p))) (e : h[p]? = some (.lst xs)) (he : evs T G es l h = .ok ys h) (n : (xs ++ ys).length ≤ 1000)
    (q : ∀ p' h', Gr h h' → h'[p']? = some (.lst (xs ++ ys)) → h.length ≤ p' → WS (st T G rest c (l.set i (some (.ref p'))) h') N R X B C) :
    WS (st T G (.seq (.asg (.nm i) (.bin .add (.var i) (.lst es))) rest) c l h) N R X B C := by
  rw [s_seq, s_asg, w_bin, w_var, lv, Option.join_some, WO_s]
  rw [List.length_append] at n
  rw [w_lst, he, WR_ok, w_newL, okL_le (by omega), WK_t, b_addL (xs := xs) (ys := ys) (app_old e) app_new (by rw [List.length_append]; omega), setT_nm, WO_s]
  exact q _ _ Gr.one.app app_new (by rw [List.length_append]; omega)
theorem new_w {c : Option AX} {N B C : Lo → AH → Prop} {R : AV → AH → Prop} {X : AX → Lo → AH → Prop} {i : Nat} {es : E} {rest : S} {ys : List AV} (he : evs T G es l h = .ok ys h) (n : ys.length ≤ 1000)
    (q : ∀ p' h', Gr h h' → h'[p']? = some (.lst ys) → h.length ≤ p' → WS (st T G rest c (l.set i (some (.ref p'))) h') N R X B C) :
    WS (st T G (.seq (.asg (.nm i) (.lst es)) rest) c l h) N R X B C := by
  rw [s_seq, s_asg, w_lst, he, WR_ok, w_newL, okL_le (by omega), WK_t, setT_nm, WO_s]
  exact q _ _ Gr.one app_new (Nat.le_refl _)
theorem evs_1 {a b : E} {x : AV} {xs : List AV} (e : ev T G a l h = .ok x h) (f : evs T G b l h = .ok xs h) : evs T G (.cons a b) l h = .ok (x :: xs) h := by
  rw [evs, e]
  show (evs T G b l h).bind _ = _
  rw [f]
  rfl
theorem evs_0 : evs T G .nil l h = .ok [] h := by rw [evs]
theorem ev_c {v : AV} : ev T G (.cst v) l h = .ok v h := by rw [ev]
theorem ev_v {i : Nat} {v : AV} (lv : l[i]? = some (some v)) : ev T G (.var i) l h = .ok v h := by rw [ev, lv]
theorem ev_t {es : E} {xs : List AV} (e : evs T G es l h = .ok xs h) (n : xs.length ≤ 1000) : ev T G (.tup es) l h = .ok (.tup xs) h := by
  rw [ev, e]
  show (match okL xs with
    | true => Rs.ok (AV.tup xs) h
    | false => .bad) = _
  rw [okL_le (by omega)]
/-- zip of two lists -/
def selA : List AV → List Bool → List AV
  | x :: r, b :: q => (match b with
    | true => x :: selA r q
    | false => selA r q)
  | _, _ => []
/-- [x for x, y in zip(xs, ys) if y] -/
theorem zip_w {i j p q : Nat} {xs : List AV} {bs : List Bool} {u v : Nat} (lu : l[u]? = some (some (.ref p))) (lv : l[v]? = some (some (.ref q))) (ep : h[p]? = some (.lst xs)) (eq : h[q]? = some (.lst (bs.map .bl))) (n : xs.length = bs.length) (n1 : xs.length ≤ 1000) (hi : i < l.length) (hj : j < l.length) (ij : i ≠ j)
    (w : Q (.ref h.length) (h ++ [.lst (selA xs bs)])) : WR (ev T G (.lc (.tp (.cons (.nm i) (.cons (.nm j) .nil))) .zip (.cons (.var u) (.cons (.var v) .nil)) (.var j) (.var i)) l h) Q X := by
  refine w_lc (P := fun ys h2 => ys = [.ref p, .ref q] ∧ h2 = h) ?_ (fun zs k acc h2 => zs = (xs.zip bs).map (fun z => AV.tup [z.1, .bl z.2]) ∧ h2 = h ∧ ∃ a, acc = a ∧ a ++ selA (xs.drop k) (bs.drop k) = selA xs bs ∧ a.length ≤ k) ?_
  · rw [ws_cons, w_var, lu, Option.join_some, WO_s, ws_cons, w_var, lv, Option.join_some, WO_s, ws_nil]
    exact ⟨rfl, rfl⟩
  · rintro ys h2 ⟨rfl, rfl⟩
    have zl : (xs.zip bs).length = xs.length := by rw [List.length_zip]; omega
    refine ⟨.zip p q, (xs.zip bs).map (fun z => .tup [z.1, .bl z.2]), ?_, rfl, by rw [List.length_map, zl]; omega, ⟨rfl, rfl, [], rfl, by simp, by simp⟩, ?_, ?_, ?_⟩
    · show (match h2[p]?, h2[q]? with
        | some (.lst _), some (.lst _) => some (Src.zip p q)
        | _, _ => none) = _
      rw [ep, eq]
    · rintro k acc h3 ⟨_, rfl, _⟩
      show (match h3[p]?, h3[q]? with
        | some (.lst xs), some (.lst ys) => (match Nat.beq xs.length ys.length with
          | true => some (match xs[k]?, ys[k]? with
            | some x, some y => some (AV.tup [x, y])
            | _, _ => none)
          | false => none)
        | _, _ => none) = _
      rw [ep, eq]
      dsimp only
      rw [List.length_map, n, Nat.beq_refl]
      dsimp only
      rw [List.getElem?_map, List.getElem?_map]
      by_cases z : k < xs.length
      · rw [List.getElem?_eq_getElem z, List.getElem?_eq_getElem (show k < bs.length by omega), List.getElem?_eq_getElem (show k < (xs.zip bs).length by omega), List.getElem_zip]
        rfl
      · rw [List.getElem?_eq_none (by omega), List.getElem?_eq_none (show bs.length ≤ k by omega), List.getElem?_eq_none (show (xs.zip bs).length ≤ k by omega)]
        rfl
    · rintro k v acc h3 ev ⟨_, rfl, a, rfl, ea, al⟩
      rw [List.getElem?_map] at ev
      by_cases z : k < xs.length
      · rw [List.getElem?_eq_getElem (show k < (xs.zip bs).length by omega), List.getElem_zip] at ev
        cases ev
        dsimp only
        have es : setT (.tp (.cons (.nm i) (.cons (.nm j) .nil))) (.tup [xs[k], .bl (bs[k]'(by omega))]) (wipeA l (slots (.tp (.cons (.nm i) (.cons (.nm j) .nil))))) h3 = some (((wipeA l [i, j]).set i (some xs[k])).set j (some (.bl (bs[k]'(by omega))))) := rfl
        rw [es]
        have wl : (wipeA l [i, j]).length = l.length := by
          show ((l.set j none).set i none).length = _
          simp
        have gj : (((wipeA l [i, j]).set i (some xs[k])).set j (some (.bl (bs[k]'(by omega)))))[j]? = some (some (.bl (bs[k]'(by omega)))) := List.getElem?_set_self (by simp [wl, hj])
        have gi : (((wipeA l [i, j]).set i (some xs[k])).set j (some (.bl (bs[k]'(by omega)))))[i]? = some (some xs[k]) := by
          rw [List.getElem?_set_ne (Ne.symm ij)]
          exact List.getElem?_set_self (by rw [wl]; exact hi)
        rw [WO_s, w_var, gj]
        show WT (some (bs[k]'(by omega))) _ _
        rw [List.drop_eq_getElem_cons z, List.drop_eq_getElem_cons (show k < bs.length by omega)] at ea
        cases zb : bs[k]'(by omega) with
        | true =>
          rw [zb] at ea gi
          rw [WT_t, w_var, gi]
          refine ⟨by omega, rfl, rfl, _, rfl, ?_, by simp; omega⟩
          rw [List.append_assoc]
          exact ea
        | false =>
          rw [zb] at ea
          rw [WT_f]
          exact ⟨rfl, rfl, _, rfl, ea, by omega⟩
      · rw [List.getElem?_eq_none (by omega)] at ev
        cases ev
    · rintro acc h3 ⟨_, rfl, a, rfl, ea, al⟩
      rw [List.length_map, zl] at ea al
      refine ⟨by omega, ?_⟩
      rw [List.drop_eq_nil_of_le (Nat.le_refl _)] at ea
      have : acc = selA xs bs := by
        rw [← ea]
        show acc = acc ++ []
        simp
      rw [this]
      exact w
end
end Mm

set_option linter.all false
set_option maxRecDepth 100000
namespace Pk49
open Mm
/-- NoPath.__init__: self=0 path=1 -/
def b0 : S := (.seq (.ex .nil)
  (.seq (.setF (.var 0) 2 (.var 1))
  .nil))
def f0 : Fn := ⟨2, 2, b0, false⟩
/-- NoNumber.__init__: self=0 number=1 -/
def b1 : S := (.seq (.ex .nil)
  (.seq (.setF (.var 0) 3 (.var 1))
  .nil))
def f1 : Fn := ⟨2, 2, b1, false⟩
/-- NoOwner.__init__: self=0 owner=1 -/
def b2 : S := (.seq (.ex .nil)
  (.seq (.setF (.var 0) 4 (.var 1))
  .nil))
def f2 : Fn := ⟨2, 2, b2, false⟩
/-- NoSaying.__init__: self=0 saying=1 -/
def b3 : S := (.seq (.ex .nil)
  (.seq (.setF (.var 0) 5 (.var 1))
  .nil))
def f3 : Fn := ⟨2, 2, b3, false⟩
/-- NoPattern.__init__: self=0 pattern=1 -/
def b4 : S := (.seq (.ex .nil)
  (.seq (.setF (.var 0) 6 (.var 1))
  .nil))
def f4 : Fn := ⟨2, 2, b4, false⟩
/-- NoRoot.__init__: self=0 path=1 -/
def b5 : S := (.seq (.ex .nil)
  (.seq (.setF (.var 0) 2 (.var 1))
  .nil))
def f5 : Fn := ⟨2, 2, b5, false⟩
/-- NoFile.__init__: self=0 path=1 -/
def b6 : S := (.seq (.ex .nil)
  (.seq (.setF (.var 0) 2 (.var 1))
  .nil))
def f6 : Fn := ⟨2, 2, b6, false⟩
/-- Taken.__init__: self=0 path=1 -/
def b7 : S := (.seq (.ex .nil)
  (.seq (.setF (.var 0) 2 (.var 1))
  .nil))
def f7 : Fn := ⟨2, 2, b7, false⟩
/-- Full.__init__: self=0 path=1 -/
def b8 : S := (.seq (.ex .nil)
  (.seq (.setF (.var 0) 2 (.var 1))
  .nil))
def f8 : Fn := ⟨2, 2, b8, false⟩
/-- Ring.__init__: self=0 path=1 -/
def b9 : S := (.seq (.ex .nil)
  (.seq (.setF (.var 0) 2 (.var 1))
  .nil))
def f9 : Fn := ⟨2, 2, b9, false⟩
/-- TooDeep.__init__: self=0 path=1 -/
def b10 : S := (.seq (.ex .nil)
  (.seq (.setF (.var 0) 2 (.var 1))
  .nil))
def f10 : Fn := ⟨2, 2, b10, false⟩
/-- NoRoom.__init__: self=0 path=1 -/
def b11 : S := (.seq (.ex .nil)
  (.seq (.setF (.var 0) 2 (.var 1))
  .nil))
def f11 : Fn := ⟨2, 2, b11, false⟩
/-- NoRow.__init__: self=0 row=1 -/
def b12 : S := (.seq (.ex .nil)
  (.seq (.setF (.var 0) 7 (.var 1))
  .nil))
def f12 : Fn := ⟨2, 2, b12, false⟩
/-- NoText.__init__: self=0 at=1 -/
def b13 : S := (.seq (.ex .nil)
  (.seq (.setF (.var 0) 8 (.var 1))
  .nil))
def f13 : Fn := ⟨2, 2, b13, false⟩
/-- Missing.__init__: self=0 path=1 -/
def b14 : S := (.seq (.ex .nil)
  (.seq (.setF (.var 0) 2 (.var 1))
  .nil))
def f14 : Fn := ⟨2, 2, b14, false⟩
/-- NoDir.__init__: self=0 path=1 -/
def b15 : S := (.seq (.ex .nil)
  (.seq (.setF (.var 0) 2 (.var 1))
  .nil))
def f15 : Fn := ⟨2, 2, b15, false⟩
/-- NothingLeft.__init__: self=0 -/
def b16 : S := (.seq (.ex .nil)
  .nil)
def f16 : Fn := ⟨1, 1, b16, false⟩
/-- _law_bag: script=0 k=1 cell=2 seed=3 -/
def b17 : S := (.seq (.asg (.nm 2) (.cst (.int 0)))
  (.seq (.ite (.cmp .lt (.var 1) (.blt .len (.cons (.var 0) .nil))) (.seq (.asg (.nm 2) (.bin .mod (.idx (.var 0) (.var 1)) (.bin .pow (.cst (.int 10)) (.cst (.int 60)))))
  .nil) .nil)
  (.seq (.asg (.nm 3) (.bin .add (.cst (.int 1)) (.bin .mod (.bin .add (.bin .add (.bin .add (.bin .mul (.bin .mod (.var 2) (.cst (.int 2147483629))) (.cst (.int 16807))) (.bin .mul (.bin .mul (.cst (.int 40009)) (.var 1)) (.var 1))) (.bin .mul (.cst (.int 7919)) (.var 1))) (.cst (.int 1009))) (.cst (.int 2147483645)))))
  (.seq (.ite (.cmp .lt (.var 2) (.bin .pow (.cst (.int 10)) (.cst (.int 18)))) (.seq (.ret (.lst (.cons (.cst (.int 0)) (.cons (.var 3) .nil))))
  .nil) .nil)
  (.seq (.ret (.lst (.cons (.var 2) (.cons (.var 3) .nil))))
  .nil)))))
def f17 : Fn := ⟨2, 4, b17, false⟩
/-- _law_take: bag=0 count=1 found=2 -/
def b18 : S := (.seq (.ite (.cmp .gt (.idx (.var 0) (.cst (.int 0))) (.cst (.int 0))) (.seq (.asg (.nm 2) (.bin .mod (.idx (.var 0) (.cst (.int 0))) (.var 1)))
  (.seq (.setS (.var 0) (.cst (.int 0)) (.bin .fdiv (.idx (.var 0) (.cst (.int 0))) (.var 1)))
  (.seq (.ret (.var 2))
  .nil))) .nil)
  (.seq (.setS (.var 0) (.cst (.int 1)) (.bin .mod (.bin .mul (.idx (.var 0) (.cst (.int 1))) (.cst (.int 48271))) (.cst (.int 2147483647))))
  (.seq (.ret (.bin .mod (.bin .fdiv (.bin .mod (.bin .mul (.bin .fdiv (.idx (.var 0) (.cst (.int 1))) (.cst (.int 13))) (.bin .add (.bin .mod (.idx (.var 0) (.cst (.int 1))) (.cst (.int 32749))) (.cst (.int 17)))) (.cst (.int 2147483629))) (.cst (.int 32))) (.var 1)))
  .nil)))
def f18 : Fn := ⟨2, 3, b18, true⟩
/-- _law_of: bag=0 some=1 -/
def b19 : S := (.seq (.ret (.idx (.var 1) (.call 18 (.cons (.var 0) (.cons (.blt .len (.cons (.var 1) .nil)) .nil)) [])))
  .nil)
def f19 : Fn := ⟨2, 2, b19, true⟩
/-- _law_classes: e=0 found=1 names=2 name=3 is_it=4 -/
def b20 : S := (.seq (.asg (.nm 1) (.lst (.cons (.isx (.var 0) .exv) (.cons (.isx (.var 0) .exl) .nil))))
  (.seq (.asg (.nm 1) (.bin .add (.var 1) (.lst (.cons (.isx (.var 0) (.own 0)) (.cons (.isx (.var 0) (.own 1)) .nil)))))
  (.seq (.asg (.nm 1) (.bin .add (.var 1) (.lst (.cons (.isx (.var 0) (.own 2)) (.cons (.isx (.var 0) (.own 3)) (.cons (.isx (.var 0) (.own 4)) (.cons (.isx (.var 0) (.own 5)) .nil)))))))
  (.seq (.asg (.nm 1) (.bin .add (.var 1) (.lst (.cons (.isx (.var 0) (.own 6)) (.cons (.isx (.var 0) (.own 7)) (.cons (.isx (.var 0) (.own 8)) (.cons (.isx (.var 0) (.own 9)) .nil)))))))
  (.seq (.asg (.nm 1) (.bin .add (.var 1) (.lst (.cons (.isx (.var 0) (.own 10)) (.cons (.isx (.var 0) (.own 11)) (.cons (.isx (.var 0) (.own 12)) (.cons (.isx (.var 0) (.own 13)) .nil)))))))
  (.seq (.asg (.nm 1) (.bin .add (.var 1) (.lst (.cons (.isx (.var 0) (.own 14)) (.cons (.isx (.var 0) (.own 15)) (.cons (.isx (.var 0) (.own 16)) (.cons (.isx (.var 0) (.own 17)) .nil)))))))
  (.seq (.ex (.bm (.var 1) .append (.cons (.isx (.var 0) (.own 18)) .nil)))
  (.seq (.asg (.nm 2) (.lst (.cons (.cst (.str [86, 97, 108, 117, 101, 69, 114, 114, 111, 114])) (.cons (.cst (.str [76, 111, 111, 107, 117, 112, 69, 114, 114, 111, 114])) (.cons (.cst (.str [116, 111, 108, 100])) (.cons (.cst (.str [108, 111, 115, 116])) (.cons (.cst (.str [110, 111, 32, 112, 97, 116, 104])) (.cons (.cst (.str [110, 111, 32, 110, 117, 109, 98, 101, 114])) (.cons (.cst (.str [110, 111, 32, 111, 119, 110, 101, 114])) (.cons (.cst (.str [110, 111, 32, 115, 97, 121, 105, 110, 103])) (.cons (.cst (.str [110, 111, 32, 112, 97, 116, 116, 101, 114, 110])) .nil)))))))))))
  (.seq (.asg (.nm 2) (.bin .add (.var 2) (.lst (.cons (.cst (.str [110, 111, 116, 32, 116, 104, 101, 32, 114, 111, 111, 116])) (.cons (.cst (.str [110, 111, 32, 102, 105, 108, 101])) (.cons (.cst (.str [116, 97, 107, 101, 110])) (.cons (.cst (.str [110, 111, 116, 32, 101, 109, 112, 116, 121])) (.cons (.cst (.str [119, 105, 116, 104, 105, 110, 32, 105, 116, 115, 101, 108, 102])) (.cons (.cst (.str [116, 111, 111, 32, 100, 101, 101, 112])) (.cons (.cst (.str [110, 111, 32, 114, 111, 111, 109])) (.cons (.cst (.str [110, 111, 32, 114, 111, 119])) .nil)))))))))))
  (.seq (.asg (.nm 2) (.bin .add (.var 2) (.lst (.cons (.cst (.str [110, 111, 32, 116, 101, 120, 116])) (.cons (.cst (.str [109, 105, 115, 115, 105, 110, 103])) (.cons (.cst (.str [110, 111, 32, 100, 105, 114])) (.cons (.cst (.str [110, 111, 116, 104, 105, 110, 103, 32, 108, 101, 102, 116])) .nil)))))))
  (.seq (.ret (.bin .add (.lst (.cons (.blt .str (.cons (.var 0) .nil)) .nil)) (.lc (.tp (.cons (.nm 3) (.cons (.nm 4) .nil))) .zip (.cons (.var 2) (.cons (.var 1) .nil)) (.var 4) (.var 3))))
  .nil)))))))))))
def f20 : Fn := ⟨1, 5, b20, true⟩
/-- _law_made: a=0 path=1 number=2 owner=3 saying=4 pattern=5 root=6 file=7 taken=8 full=9 ring=10 deep=11 space=12 row=13 text=14 found=15 -/
def b21 : S := (.seq (.asg (.tp (.cons (.nm 1) (.cons (.nm 2) .nil))) (.tup (.cons (.newx 2 (.cons (.var 0) .nil)) (.cons (.newx 3 (.cons (.var 0) .nil)) .nil))))
  (.seq (.asg (.tp (.cons (.nm 3) (.cons (.nm 4) .nil))) (.tup (.cons (.newx 4 (.cons (.var 0) .nil)) (.cons (.newx 5 (.cons (.var 0) .nil)) .nil))))
  (.seq (.asg (.tp (.cons (.nm 5) (.cons (.nm 6) .nil))) (.tup (.cons (.newx 6 (.cons (.var 0) .nil)) (.cons (.newx 7 (.cons (.var 0) .nil)) .nil))))
  (.seq (.asg (.tp (.cons (.nm 7) (.cons (.nm 8) .nil))) (.tup (.cons (.newx 8 (.cons (.var 0) .nil)) (.cons (.newx 9 (.cons (.var 0) .nil)) .nil))))
  (.seq (.asg (.tp (.cons (.nm 9) (.cons (.nm 10) (.cons (.nm 11) .nil)))) (.tup (.cons (.newx 10 (.cons (.var 0) .nil)) (.cons (.newx 11 (.cons (.var 0) .nil)) (.cons (.newx 12 (.cons (.var 0) .nil)) .nil)))))
  (.seq (.asg (.tp (.cons (.nm 12) (.cons (.nm 13) (.cons (.nm 14) .nil)))) (.tup (.cons (.newx 13 (.cons (.var 0) .nil)) (.cons (.newx 14 (.cons (.var 0) .nil)) (.cons (.newx 15 (.cons (.var 0) .nil)) .nil)))))
  (.seq (.asg (.nm 15) (.lst (.cons (.tup (.cons (.var 1) (.cons (.fld (.var 1) 2) (.cons (.cst (.str [110, 111, 32, 112, 97, 116, 104])) .nil)))) (.cons (.tup (.cons (.var 2) (.cons (.fld (.var 2) 3) (.cons (.cst (.str [110, 111, 32, 110, 117, 109, 98, 101, 114])) .nil)))) (.cons (.tup (.cons (.var 3) (.cons (.fld (.var 3) 4) (.cons (.cst (.str [110, 111, 32, 111, 119, 110, 101, 114])) .nil)))) .nil)))))
  (.seq (.asg (.nm 15) (.bin .add (.var 15) (.lst (.cons (.tup (.cons (.var 4) (.cons (.fld (.var 4) 5) (.cons (.cst (.str [110, 111, 32, 115, 97, 121, 105, 110, 103])) .nil)))) (.cons (.tup (.cons (.var 5) (.cons (.fld (.var 5) 6) (.cons (.cst (.str [110, 111, 32, 112, 97, 116, 116, 101, 114, 110])) .nil)))) .nil)))))
  (.seq (.asg (.nm 15) (.bin .add (.var 15) (.lst (.cons (.tup (.cons (.var 6) (.cons (.fld (.var 6) 2) (.cons (.cst (.str [110, 111, 116, 32, 116, 104, 101, 32, 114, 111, 111, 116])) .nil)))) (.cons (.tup (.cons (.var 7) (.cons (.fld (.var 7) 2) (.cons (.cst (.str [110, 111, 32, 102, 105, 108, 101])) .nil)))) (.cons (.tup (.cons (.var 8) (.cons (.fld (.var 8) 2) (.cons (.cst (.str [116, 97, 107, 101, 110])) .nil)))) .nil))))))
  (.seq (.asg (.nm 15) (.bin .add (.var 15) (.lst (.cons (.tup (.cons (.var 9) (.cons (.fld (.var 9) 2) (.cons (.cst (.str [110, 111, 116, 32, 101, 109, 112, 116, 121])) .nil)))) (.cons (.tup (.cons (.var 10) (.cons (.fld (.var 10) 2) (.cons (.cst (.str [119, 105, 116, 104, 105, 110, 32, 105, 116, 115, 101, 108, 102])) .nil)))) .nil)))))
  (.seq (.asg (.nm 15) (.bin .add (.var 15) (.lst (.cons (.tup (.cons (.var 11) (.cons (.fld (.var 11) 2) (.cons (.cst (.str [116, 111, 111, 32, 100, 101, 101, 112])) .nil)))) (.cons (.tup (.cons (.var 12) (.cons (.fld (.var 12) 2) (.cons (.cst (.str [110, 111, 32, 114, 111, 111, 109])) .nil)))) (.cons (.tup (.cons (.var 13) (.cons (.fld (.var 13) 7) (.cons (.cst (.str [110, 111, 32, 114, 111, 119])) .nil)))) .nil))))))
  (.seq (.ret (.bin .add (.var 15) (.lst (.cons (.tup (.cons (.var 14) (.cons (.fld (.var 14) 8) (.cons (.cst (.str [110, 111, 32, 116, 101, 120, 116])) .nil)))) .nil))))
  .nil))))))))))))
def f21 : Fn := ⟨1, 16, b21, false⟩
/-- law: script=0 k=1 bag=2 a=3 e=4 thing=5 word=6 missing=7 way=8 left=9 -/
def b22 : S := (.seq (.for_ (.nm 1) .rng (.cons (.bin .add (.blt .min2 (.cons (.blt .len (.cons (.var 0) .nil)) (.cons (.cst (.int 10)) .nil))) (.cst (.int 2))) .nil) (.seq (.asg (.nm 2) (.call 17 (.cons (.var 0) (.cons (.var 1) .nil)) []))
  (.seq (.asg (.nm 3) (.call 19 (.cons (.var 2) (.cons (.lst (.cons (.cst .non) (.cons (.cst (.int 7)) (.cons (.cst (.str [119, 111, 114, 100])) (.cons (.tup (.cons (.cst (.int 1)) (.cons (.cst (.int 2)) .nil))) (.cons (.cst (.bl true)) (.cons (.lst (.cons (.cst (.int 3)) .nil)) (.cons (.dct (.cons (.cst (.str [97])) (.cons (.cst (.int 1)) .nil))) (.cons (.cst (.str [])) (.cons (.neg (.bin .pow (.cst (.int 10)) (.cst (.int 40)))) (.cons (.tup (.cons (.tup (.cons (.cst (.int 0)) (.cons (.cst (.int 1)) .nil))) .nil)) .nil))))))))))) .nil)) []))
  (.seq (.for_ (.tp (.cons (.nm 4) (.cons (.nm 5) (.cons (.nm 6) .nil)))) .val (.cons (.call 21 (.cons (.var 3) .nil) []) .nil) (.seq (.ite (.or (.cmp .ne (.var 5) (.var 3)) (.cmp .ne (.call 20 (.cons (.var 4) .nil) []) (.lst (.cons (.var 6) (.cons (.cst (.str [86, 97, 108, 117, 101, 69, 114, 114, 111, 114])) (.cons (.cst (.str [116, 111, 108, 100])) (.cons (.var 6) .nil))))))) (.seq (.ret (.cst (.bl false)))
  .nil) .nil)
  .nil))
  (.seq (.asg (.tp (.cons (.nm 7) (.cons (.nm 8) (.cons (.nm 9) .nil)))) (.tup (.cons (.newx 16 (.cons (.var 3) .nil)) (.cons (.newx 17 (.cons (.var 3) .nil)) (.cons (.newx 18 .nil) .nil)))))
  (.seq (.ite (.or (.cmp .ne (.fld (.var 7) 2) (.var 3)) (.cmp .ne (.fld (.var 8) 2) (.var 3))) (.seq (.ret (.cst (.bl false)))
  .nil) .nil)
  (.seq (.for_ (.tp (.cons (.nm 4) (.cons (.nm 6) .nil))) .val (.cons (.lst (.cons (.tup (.cons (.var 7) (.cons (.cst (.str [109, 105, 115, 115, 105, 110, 103])) .nil))) (.cons (.tup (.cons (.var 8) (.cons (.cst (.str [110, 111, 32, 100, 105, 114])) .nil))) (.cons (.tup (.cons (.var 9) (.cons (.cst (.str [110, 111, 116, 104, 105, 110, 103, 32, 108, 101, 102, 116])) .nil))) .nil)))) .nil) (.seq (.ite (.cmp .ne (.call 20 (.cons (.var 4) .nil) []) (.lst (.cons (.var 6) (.cons (.cst (.str [76, 111, 111, 107, 117, 112, 69, 114, 114, 111, 114])) (.cons (.cst (.str [108, 111, 115, 116])) (.cons (.var 6) .nil)))))) (.seq (.ret (.cst (.bl false)))
  .nil) .nil)
  .nil))
  .nil)))))))
  (.seq (.ret (.cst (.bl true)))
  .nil))
def f22 : Fn := ⟨1, 10, b22, true⟩
def fns : List Fn := [f0, f1, f2, f3, f4, f5, f6, f7, f8, f9, f10, f11, f12, f13, f14, f15, f16, f17, f18, f19, f20, f21, f22]
def cls : List Cl := [⟨none, [], none, true, [0]⟩, ⟨none, [], none, false, [1]⟩, ⟨some 0, [], some ([110, 111, 32, 112, 97, 116, 104], [2]), true, [2, 0]⟩, ⟨some 1, [], some ([110, 111, 32, 110, 117, 109, 98, 101, 114], [3]), true, [3, 0]⟩, ⟨some 2, [], some ([110, 111, 32, 111, 119, 110, 101, 114], [4]), true, [4, 0]⟩, ⟨some 3, [], some ([110, 111, 32, 115, 97, 121, 105, 110, 103], [5]), true, [5, 0]⟩, ⟨some 4, [], some ([110, 111, 32, 112, 97, 116, 116, 101, 114, 110], [6]), true, [6, 0]⟩, ⟨some 5, [], some ([110, 111, 116, 32, 116, 104, 101, 32, 114, 111, 111, 116], [2]), true, [7, 0]⟩, ⟨some 6, [], some ([110, 111, 32, 102, 105, 108, 101], [2]), true, [8, 0]⟩, ⟨some 7, [], some ([116, 97, 107, 101, 110], [2]), true, [9, 0]⟩, ⟨some 8, [], some ([110, 111, 116, 32, 101, 109, 112, 116, 121], [2]), true, [10, 0]⟩, ⟨some 9, [], some ([119, 105, 116, 104, 105, 110, 32, 105, 116, 115, 101, 108, 102], [2]), true, [11, 0]⟩, ⟨some 10, [], some ([116, 111, 111, 32, 100, 101, 101, 112], [2]), true, [12, 0]⟩, ⟨some 11, [], some ([110, 111, 32, 114, 111, 111, 109], [2]), true, [13, 0]⟩, ⟨some 12, [], some ([110, 111, 32, 114, 111, 119], [7]), true, [14, 0]⟩, ⟨some 13, [], some ([110, 111, 32, 116, 101, 120, 116], [8]), true, [15, 0]⟩, ⟨some 14, [], some ([109, 105, 115, 115, 105, 110, 103], [2]), false, [16, 1]⟩, ⟨some 15, [], some ([110, 111, 32, 100, 105, 114], [2]), false, [17, 1]⟩, ⟨some 16, [], some ([110, 111, 116, 104, 105, 110, 103, 32, 108, 101, 102, 116], []), false, [18, 1]⟩]
def wds : List (List (Tx × AV)) := []
def tb : Tb := ⟨fns, cls, wds⟩
/- names: __eq__=0 __len__=1 path=2 number=3 owner=4 saying=5 pattern=6 row=7 at=8 -/
/- fns: NoPath.__init__=0 NoNumber.__init__=1 NoOwner.__init__=2 NoSaying.__init__=3 NoPattern.__init__=4 NoRoot.__init__=5 NoFile.__init__=6 Taken.__init__=7 Full.__init__=8 Ring.__init__=9 TooDeep.__init__=10 NoRoom.__init__=11 NoRow.__init__=12 NoText.__init__=13 Missing.__init__=14 NoDir.__init__=15 NothingLeft.__init__=16 _law_bag=17 _law_take=18 _law_of=19 _law_classes=20 _law_made=21 law=22 -/
end Pk49

set_option Elab.async false
set_option linter.all false
set_option maxRecDepth 100000
set_option maxHeartbeats 0
/-! Law k49: each refusal's text, field, family and no other class. -/
namespace R49
open Mm Pk49

def NM : List AV := [.str [86, 97, 108, 117, 101, 69, 114, 114, 111, 114], .str [76, 111, 111, 107, 117, 112, 69, 114, 114, 111, 114], .str [116, 111, 108, 100], .str [108, 111, 115, 116], .str [110, 111, 32, 112, 97, 116, 104], .str [110, 111, 32, 110, 117, 109, 98, 101, 114], .str [110, 111, 32, 111, 119, 110, 101, 114], .str [110, 111, 32, 115, 97, 121, 105, 110, 103], .str [110, 111, 32, 112, 97, 116, 116, 101, 114, 110], .str [110, 111, 116, 32, 116, 104, 101, 32, 114, 111, 111, 116], .str [110, 111, 32, 102, 105, 108, 101], .str [116, 97, 107, 101, 110], .str [110, 111, 116, 32, 101, 109, 112, 116, 121], .str [119, 105, 116, 104, 105, 110, 32, 105, 116, 115, 101, 108, 102], .str [116, 111, 111, 32, 100, 101, 101, 112], .str [110, 111, 32, 114, 111, 111, 109], .str [110, 111, 32, 114, 111, 119], .str [110, 111, 32, 116, 101, 120, 116], .str [109, 105, 115, 115, 105, 110, 103], .str [110, 111, 32, 100, 105, 114], .str [110, 111, 116, 104, 105, 110, 103, 32, 108, 101, 102, 116]]
/-- what is asked of a class, and what is due -/
structure CX (x : AX) (k1 k2 w : Tx) : Prop where
  msg : x.msg = w
  ok : PySem.PyData.strOk (toStr w) = true ∧ PySem.PyData.strOk (toStr k1) = true ∧ PySem.PyData.strOk (toStr k2) = true
  cls : ∃ (bv bl : Bool) (bo : Nat → Bool), isxA tb.cls x .exv = some bv ∧ isxA tb.cls x .exl = some bl ∧ (∀ e, isxA tb.cls x (.own e) = some (bo e)) ∧ selA NM [bv, bl, bo 0, bo 1, bo 2, bo 3, bo 4, bo 5, bo 6, bo 7, bo 8, bo 9, bo 10, bo 11, bo 12, bo 13, bo 14, bo 15, bo 16, bo 17, bo 18] = [.str k1, .str k2, .str w]

section
variable {T : Tb} {d : Nat} {h : AH} {Q : AV → AH → Prop} {X : AX → AH → Prop}
theorem cl_w (hT : T = tb) {r : Nat} {x : AX} {k1 k2 w : Tx} (a : XA h r x) (c : CX x k1 k2 w) (q : ∀ p h', Gr h h' → h'[p]? = some (.lst [.str w, .str k1, .str k2, .str w]) → h.length ≤ p → Q (.ref p) h') : WR (run T (d + 1) 20 [.ref r] h) Q X := by
  obtain ⟨bv, bl, bo, ev, el, eo, es⟩ := c.cls
  rw [← hT] at ev el
  simp only [← hT] at eo
  refine r_imp (F := f20) (by rw [hT]; rfl) rfl rfl ?_
  show WS (st T (run T d) b20 none [some (.ref r), none, none, none, none] h) _ _ _ _ _
  unfold b20
  refine new_w (ys := [.bl bv, .bl bl]) (evs_1 (ev_isx rfl a ev) (evs_1 (ev_isx rfl a el) evs_0)) (by simp) fun p1 h1 g1 e1 n1 => ?_
  have G := g1
  refine cat_w (p := p1) (xs := [.bl bv, .bl bl]) (ys := [.bl (bo 0), .bl (bo 1)]) rfl e1 (evs_1 (ev_isx rfl (a.gr G) (eo 0)) (evs_1 (ev_isx rfl (a.gr G) (eo 1)) evs_0)) (by simp) fun p2 h2 g2 e2 n2 => ?_
  have G := G.trans g2
  refine cat_w (p := p2) (xs := [.bl bv, .bl bl, .bl (bo 0), .bl (bo 1)]) (ys := [.bl (bo 2), .bl (bo 3), .bl (bo 4), .bl (bo 5)]) rfl e2 (evs_1 (ev_isx rfl (a.gr G) (eo 2)) (evs_1 (ev_isx rfl (a.gr G) (eo 3)) (evs_1 (ev_isx rfl (a.gr G) (eo 4)) (evs_1 (ev_isx rfl (a.gr G) (eo 5)) evs_0)))) (by simp) fun p3 h3 g3 e3 n3 => ?_
  have G := G.trans g3
  refine cat_w (p := p3) (xs := [.bl bv, .bl bl, .bl (bo 0), .bl (bo 1), .bl (bo 2), .bl (bo 3), .bl (bo 4), .bl (bo 5)]) (ys := [.bl (bo 6), .bl (bo 7), .bl (bo 8), .bl (bo 9)]) rfl e3 (evs_1 (ev_isx rfl (a.gr G) (eo 6)) (evs_1 (ev_isx rfl (a.gr G) (eo 7)) (evs_1 (ev_isx rfl (a.gr G) (eo 8)) (evs_1 (ev_isx rfl (a.gr G) (eo 9)) evs_0)))) (by simp) fun p4 h4 g4 e4 n4 => ?_
  have G := G.trans g4
  refine cat_w (p := p4) (xs := [.bl bv, .bl bl, .bl (bo 0), .bl (bo 1), .bl (bo 2), .bl (bo 3), .bl (bo 4), .bl (bo 5), .bl (bo 6), .bl (bo 7), .bl (bo 8), .bl (bo 9)]) (ys := [.bl (bo 10), .bl (bo 11), .bl (bo 12), .bl (bo 13)]) rfl e4 (evs_1 (ev_isx rfl (a.gr G) (eo 10)) (evs_1 (ev_isx rfl (a.gr G) (eo 11)) (evs_1 (ev_isx rfl (a.gr G) (eo 12)) (evs_1 (ev_isx rfl (a.gr G) (eo 13)) evs_0)))) (by simp) fun p5 h5 g5 e5 n5 => ?_
  have G := G.trans g5
  refine cat_w (p := p5) (xs := [.bl bv, .bl bl, .bl (bo 0), .bl (bo 1), .bl (bo 2), .bl (bo 3), .bl (bo 4), .bl (bo 5), .bl (bo 6), .bl (bo 7), .bl (bo 8), .bl (bo 9), .bl (bo 10), .bl (bo 11), .bl (bo 12), .bl (bo 13)]) (ys := [.bl (bo 14), .bl (bo 15), .bl (bo 16), .bl (bo 17)]) rfl e5 (evs_1 (ev_isx rfl (a.gr G) (eo 14)) (evs_1 (ev_isx rfl (a.gr G) (eo 15)) (evs_1 (ev_isx rfl (a.gr G) (eo 16)) (evs_1 (ev_isx rfl (a.gr G) (eo 17)) evs_0)))) (by simp) fun p6 h6 g6 e6 n6 => ?_
  have G := G.trans g6
  have e6 : h6[p6]? = some (.lst [.bl bv, .bl bl, .bl (bo 0), .bl (bo 1), .bl (bo 2), .bl (bo 3), .bl (bo 4), .bl (bo 5), .bl (bo 6), .bl (bo 7), .bl (bo 8), .bl (bo 9), .bl (bo 10), .bl (bo 11), .bl (bo 12), .bl (bo 13), .bl (bo 14), .bl (bo 15), .bl (bo 16), .bl (bo 17)]) := e6
  rw [s_seq, s_ex, w_bm, w_var]
  show WO (kd T.wds h6 (.ref p6)) _
  rw [kd_l e6, WO_s, sup_app, WK_t, ws_cons]
  refine WR_of (ev_isx rfl (a.gr G) (eo 18)) ?_
  rw [ws_nil, kd_l e6, WO_s, Nat.beq_refl, WK_t, bm_app e6 (by simp)]
  have lp : h.length ≤ p6 := Nat.le_trans (Nat.le_trans (Nat.le_trans (Nat.le_trans (Nat.le_trans g1.1 g2.1) g3.1) g4.1) g5.1) n6
  have e7 : (h6.set p6 (.lst ([.bl bv, .bl bl, .bl (bo 0), .bl (bo 1), .bl (bo 2), .bl (bo 3), .bl (bo 4), .bl (bo 5), .bl (bo 6), .bl (bo 7), .bl (bo 8), .bl (bo 9), .bl (bo 10), .bl (bo 11), .bl (bo 12), .bl (bo 13), .bl (bo 14), .bl (bo 15), .bl (bo 16), .bl (bo 17)] ++ [.bl (bo 18)])))[p6]? = some (.lst ([.bl bv, .bl bl, .bl (bo 0), .bl (bo 1), .bl (bo 2), .bl (bo 3), .bl (bo 4), .bl (bo 5), .bl (bo 6), .bl (bo 7), .bl (bo 8), .bl (bo 9), .bl (bo 10), .bl (bo 11), .bl (bo 12), .bl (bo 13), .bl (bo 14), .bl (bo 15), .bl (bo 16), .bl (bo 17)] ++ [.bl (bo 18)])) := List.getElem?_set_self (List.getElem?_eq_some_iff.mp e6).1
  have G := G.set (o := .lst ([.bl bv, .bl bl, .bl (bo 0), .bl (bo 1), .bl (bo 2), .bl (bo 3), .bl (bo 4), .bl (bo 5), .bl (bo 6), .bl (bo 7), .bl (bo 8), .bl (bo 9), .bl (bo 10), .bl (bo 11), .bl (bo 12), .bl (bo 13), .bl (bo 14), .bl (bo 15), .bl (bo 16), .bl (bo 17)] ++ [.bl (bo 18)])) lp
  generalize h6.set p6 _ = h7 at *
  refine new_w (ys := [.str [86, 97, 108, 117, 101, 69, 114, 114, 111, 114], .str [76, 111, 111, 107, 117, 112, 69, 114, 114, 111, 114], .str [116, 111, 108, 100], .str [108, 111, 115, 116], .str [110, 111, 32, 112, 97, 116, 104], .str [110, 111, 32, 110, 117, 109, 98, 101, 114], .str [110, 111, 32, 111, 119, 110, 101, 114], .str [110, 111, 32, 115, 97, 121, 105, 110, 103], .str [110, 111, 32, 112, 97, 116, 116, 101, 114, 110]]) (evs_1 ev_c (evs_1 ev_c (evs_1 ev_c (evs_1 ev_c (evs_1 ev_c (evs_1 ev_c (evs_1 ev_c (evs_1 ev_c (evs_1 ev_c evs_0))))))))) (by simp) fun p8 h8 g8 e8 n8 => ?_
  have G := G.trans g8
  refine cat_w (p := p8) (ys := [.str [110, 111, 116, 32, 116, 104, 101, 32, 114, 111, 111, 116], .str [110, 111, 32, 102, 105, 108, 101], .str [116, 97, 107, 101, 110], .str [110, 111, 116, 32, 101, 109, 112, 116, 121], .str [119, 105, 116, 104, 105, 110, 32, 105, 116, 115, 101, 108, 102], .str [116, 111, 111, 32, 100, 101, 101, 112], .str [110, 111, 32, 114, 111, 111, 109], .str [110, 111, 32, 114, 111, 119]]) rfl e8 (evs_1 ev_c (evs_1 ev_c (evs_1 ev_c (evs_1 ev_c (evs_1 ev_c (evs_1 ev_c (evs_1 ev_c (evs_1 ev_c evs_0)))))))) (by simp) fun p9 h9 g9 e9 n9 => ?_
  have G := G.trans g9
  refine cat_w (p := p9) (ys := [.str [110, 111, 32, 116, 101, 120, 116], .str [109, 105, 115, 115, 105, 110, 103], .str [110, 111, 32, 100, 105, 114], .str [110, 111, 116, 104, 105, 110, 103, 32, 108, 101, 102, 116]]) rfl e9 (evs_1 ev_c (evs_1 ev_c (evs_1 ev_c (evs_1 ev_c evs_0)))) (by simp) fun p10 h10 g10 e10 n10 => ?_
  have G := G.trans g10
  have f7 := g10.2 _ _ (g9.2 _ _ (g8.2 _ _ e7))
  rw [s_seq, s_ret, w_bin, w_lst, ws_cons]
  rw [w_xstr (r := r) rfl (a.gr G), ws_nil, w_newL, okL_le (by simp), WK_t]
  refine zip_w (p := p10) (q := p6) (xs := NM) (bs := [bv, bl, bo 0, bo 1, bo 2, bo 3, bo 4, bo 5, bo 6, bo 7, bo 8, bo 9, bo 10, bo 11, bo 12, bo 13, bo 14, bo 15, bo 16, bo 17, bo 18]) rfl rfl (app_old e10) (app_old f7) rfl (by decide) (by simp) (by simp) (by decide) ?_
  rw [es, c.msg, b_addL (xs := [.str w]) (ys := [.str k1, .str k2, .str w]) (app_old app_new) app_new (by simp)]
  refine q _ _ (G.app.app.app) app_new ?_
  have := G.1
  simp only [List.length_append]
  omega

def xo (c f : Nat) (m : Tx) (a : AV) : AX := ⟨c, m, [(f, a)]⟩
theorem cx2 {a : AV} : CX (xo 2 2 [110, 111, 32, 112, 97, 116, 104] a) [86, 97, 108, 117, 101, 69, 114, 114, 111, 114] [116, 111, 108, 100] [110, 111, 32, 112, 97, 116, 104] := ⟨rfl, ⟨strOk_of (by decide), strOk_of (by decide), strOk_of (by decide)⟩, true, false, fun e => ([2, 0] : List Nat).any (Nat.beq e), rfl, rfl, fun _ => rfl, rfl⟩
theorem cx3 {a : AV} : CX (xo 3 3 [110, 111, 32, 110, 117, 109, 98, 101, 114] a) [86, 97, 108, 117, 101, 69, 114, 114, 111, 114] [116, 111, 108, 100] [110, 111, 32, 110, 117, 109, 98, 101, 114] := ⟨rfl, ⟨strOk_of (by decide), strOk_of (by decide), strOk_of (by decide)⟩, true, false, fun e => ([3, 0] : List Nat).any (Nat.beq e), rfl, rfl, fun _ => rfl, rfl⟩
theorem cx4 {a : AV} : CX (xo 4 4 [110, 111, 32, 111, 119, 110, 101, 114] a) [86, 97, 108, 117, 101, 69, 114, 114, 111, 114] [116, 111, 108, 100] [110, 111, 32, 111, 119, 110, 101, 114] := ⟨rfl, ⟨strOk_of (by decide), strOk_of (by decide), strOk_of (by decide)⟩, true, false, fun e => ([4, 0] : List Nat).any (Nat.beq e), rfl, rfl, fun _ => rfl, rfl⟩
theorem cx5 {a : AV} : CX (xo 5 5 [110, 111, 32, 115, 97, 121, 105, 110, 103] a) [86, 97, 108, 117, 101, 69, 114, 114, 111, 114] [116, 111, 108, 100] [110, 111, 32, 115, 97, 121, 105, 110, 103] := ⟨rfl, ⟨strOk_of (by decide), strOk_of (by decide), strOk_of (by decide)⟩, true, false, fun e => ([5, 0] : List Nat).any (Nat.beq e), rfl, rfl, fun _ => rfl, rfl⟩
theorem cx6 {a : AV} : CX (xo 6 6 [110, 111, 32, 112, 97, 116, 116, 101, 114, 110] a) [86, 97, 108, 117, 101, 69, 114, 114, 111, 114] [116, 111, 108, 100] [110, 111, 32, 112, 97, 116, 116, 101, 114, 110] := ⟨rfl, ⟨strOk_of (by decide), strOk_of (by decide), strOk_of (by decide)⟩, true, false, fun e => ([6, 0] : List Nat).any (Nat.beq e), rfl, rfl, fun _ => rfl, rfl⟩
theorem cx7 {a : AV} : CX (xo 7 2 [110, 111, 116, 32, 116, 104, 101, 32, 114, 111, 111, 116] a) [86, 97, 108, 117, 101, 69, 114, 114, 111, 114] [116, 111, 108, 100] [110, 111, 116, 32, 116, 104, 101, 32, 114, 111, 111, 116] := ⟨rfl, ⟨strOk_of (by decide), strOk_of (by decide), strOk_of (by decide)⟩, true, false, fun e => ([7, 0] : List Nat).any (Nat.beq e), rfl, rfl, fun _ => rfl, rfl⟩
theorem cx8 {a : AV} : CX (xo 8 2 [110, 111, 32, 102, 105, 108, 101] a) [86, 97, 108, 117, 101, 69, 114, 114, 111, 114] [116, 111, 108, 100] [110, 111, 32, 102, 105, 108, 101] := ⟨rfl, ⟨strOk_of (by decide), strOk_of (by decide), strOk_of (by decide)⟩, true, false, fun e => ([8, 0] : List Nat).any (Nat.beq e), rfl, rfl, fun _ => rfl, rfl⟩
theorem cx9 {a : AV} : CX (xo 9 2 [116, 97, 107, 101, 110] a) [86, 97, 108, 117, 101, 69, 114, 114, 111, 114] [116, 111, 108, 100] [116, 97, 107, 101, 110] := ⟨rfl, ⟨strOk_of (by decide), strOk_of (by decide), strOk_of (by decide)⟩, true, false, fun e => ([9, 0] : List Nat).any (Nat.beq e), rfl, rfl, fun _ => rfl, rfl⟩
theorem cx10 {a : AV} : CX (xo 10 2 [110, 111, 116, 32, 101, 109, 112, 116, 121] a) [86, 97, 108, 117, 101, 69, 114, 114, 111, 114] [116, 111, 108, 100] [110, 111, 116, 32, 101, 109, 112, 116, 121] := ⟨rfl, ⟨strOk_of (by decide), strOk_of (by decide), strOk_of (by decide)⟩, true, false, fun e => ([10, 0] : List Nat).any (Nat.beq e), rfl, rfl, fun _ => rfl, rfl⟩
theorem cx11 {a : AV} : CX (xo 11 2 [119, 105, 116, 104, 105, 110, 32, 105, 116, 115, 101, 108, 102] a) [86, 97, 108, 117, 101, 69, 114, 114, 111, 114] [116, 111, 108, 100] [119, 105, 116, 104, 105, 110, 32, 105, 116, 115, 101, 108, 102] := ⟨rfl, ⟨strOk_of (by decide), strOk_of (by decide), strOk_of (by decide)⟩, true, false, fun e => ([11, 0] : List Nat).any (Nat.beq e), rfl, rfl, fun _ => rfl, rfl⟩
theorem cx12 {a : AV} : CX (xo 12 2 [116, 111, 111, 32, 100, 101, 101, 112] a) [86, 97, 108, 117, 101, 69, 114, 114, 111, 114] [116, 111, 108, 100] [116, 111, 111, 32, 100, 101, 101, 112] := ⟨rfl, ⟨strOk_of (by decide), strOk_of (by decide), strOk_of (by decide)⟩, true, false, fun e => ([12, 0] : List Nat).any (Nat.beq e), rfl, rfl, fun _ => rfl, rfl⟩
theorem cx13 {a : AV} : CX (xo 13 2 [110, 111, 32, 114, 111, 111, 109] a) [86, 97, 108, 117, 101, 69, 114, 114, 111, 114] [116, 111, 108, 100] [110, 111, 32, 114, 111, 111, 109] := ⟨rfl, ⟨strOk_of (by decide), strOk_of (by decide), strOk_of (by decide)⟩, true, false, fun e => ([13, 0] : List Nat).any (Nat.beq e), rfl, rfl, fun _ => rfl, rfl⟩
theorem cx14 {a : AV} : CX (xo 14 7 [110, 111, 32, 114, 111, 119] a) [86, 97, 108, 117, 101, 69, 114, 114, 111, 114] [116, 111, 108, 100] [110, 111, 32, 114, 111, 119] := ⟨rfl, ⟨strOk_of (by decide), strOk_of (by decide), strOk_of (by decide)⟩, true, false, fun e => ([14, 0] : List Nat).any (Nat.beq e), rfl, rfl, fun _ => rfl, rfl⟩
theorem cx15 {a : AV} : CX (xo 15 8 [110, 111, 32, 116, 101, 120, 116] a) [86, 97, 108, 117, 101, 69, 114, 114, 111, 114] [116, 111, 108, 100] [110, 111, 32, 116, 101, 120, 116] := ⟨rfl, ⟨strOk_of (by decide), strOk_of (by decide), strOk_of (by decide)⟩, true, false, fun e => ([15, 0] : List Nat).any (Nat.beq e), rfl, rfl, fun _ => rfl, rfl⟩
theorem cx16 {a : AV} : CX (xo 16 2 [109, 105, 115, 115, 105, 110, 103] a) [76, 111, 111, 107, 117, 112, 69, 114, 114, 111, 114] [108, 111, 115, 116] [109, 105, 115, 115, 105, 110, 103] := ⟨rfl, ⟨strOk_of (by decide), strOk_of (by decide), strOk_of (by decide)⟩, false, true, fun e => ([16, 1] : List Nat).any (Nat.beq e), rfl, rfl, fun _ => rfl, rfl⟩
theorem cx17 {a : AV} : CX (xo 17 2 [110, 111, 32, 100, 105, 114] a) [76, 111, 111, 107, 117, 112, 69, 114, 114, 111, 114] [108, 111, 115, 116] [110, 111, 32, 100, 105, 114] := ⟨rfl, ⟨strOk_of (by decide), strOk_of (by decide), strOk_of (by decide)⟩, false, true, fun e => ([17, 1] : List Nat).any (Nat.beq e), rfl, rfl, fun _ => rfl, rfl⟩
theorem cx18 {a : AV} : CX ⟨18, [110, 111, 116, 104, 105, 110, 103, 32, 108, 101, 102, 116], []⟩ [76, 111, 111, 107, 117, 112, 69, 114, 114, 111, 114] [108, 111, 115, 116] [110, 111, 116, 104, 105, 110, 103, 32, 108, 101, 102, 116] := ⟨rfl, ⟨strOk_of (by decide), strOk_of (by decide), strOk_of (by decide)⟩, false, true, fun e => ([18, 1] : List Nat).any (Nat.beq e), rfl, rfl, fun _ => rfl, rfl⟩
theorem made_w (hT : T = tb) {a : AV} (q : ∀ p h' xs, Gr h h' → h'[p]? = some (.lst xs) → xs.length ≤ 1000 → (∀ v ∈ xs, ∃ r x w, v = .tup [.ref r, a, .str w] ∧ XA h' r x ∧ CX x [86, 97, 108, 117, 101, 69, 114, 114, 111, 114] [116, 111, 108, 100] w) → Q (.ref p) h') : WR (run T (d + 1) 21 [a] h) Q X := by
  refine r_imp (F := f21) (by rw [hT]; rfl) rfl rfl ?_
  show WS (st T (run T d) b21 none [some a, none, none, none, none, none, none, none, none, none, none, none, none, none, none, none] h) _ _ _ _ _
  unfold b21
  rw [s_seq, s_asg, w_tup]
  rw [ws_cons]
  refine w_newx (v := a) (x := xo 2 2 [110, 111, 32, 112, 97, 116, 104] a) rfl (by rw [hT]; rfl) (fun z => nomatch z) fun r1 h1 g1 a1 => ?_
  have G := g1
  rw [ws_cons]
  refine w_newx (v := a) (x := xo 3 3 [110, 111, 32, 110, 117, 109, 98, 101, 114] a) rfl (by rw [hT]; rfl) (fun z => nomatch z) fun r2 h2 g2 a2 => ?_
  have G := G.trans g2
  have a1 := a1.gr g2
  rw [ws_nil, okL_le (by simp), WK_t]
  show WS (st T (run T d) _ none [some a, some (.ref r1), some (.ref r2), none, none, none, none, none, none, none, none, none, none, none, none, none] h2) _ _ _ _ _
  rw [s_seq, s_asg, w_tup]
  rw [ws_cons]
  refine w_newx (v := a) (x := xo 4 4 [110, 111, 32, 111, 119, 110, 101, 114] a) rfl (by rw [hT]; rfl) (fun z => nomatch z) fun r3 h3 g3 a3 => ?_
  have G := G.trans g3
  have a1 := a1.gr g3
  have a2 := a2.gr g3
  rw [ws_cons]
  refine w_newx (v := a) (x := xo 5 5 [110, 111, 32, 115, 97, 121, 105, 110, 103] a) rfl (by rw [hT]; rfl) (fun z => nomatch z) fun r4 h4 g4 a4 => ?_
  have G := G.trans g4
  have a1 := a1.gr g4
  have a2 := a2.gr g4
  have a3 := a3.gr g4
  rw [ws_nil, okL_le (by simp), WK_t]
  show WS (st T (run T d) _ none [some a, some (.ref r1), some (.ref r2), some (.ref r3), some (.ref r4), none, none, none, none, none, none, none, none, none, none, none] h4) _ _ _ _ _
  rw [s_seq, s_asg, w_tup]
  rw [ws_cons]
  refine w_newx (v := a) (x := xo 6 6 [110, 111, 32, 112, 97, 116, 116, 101, 114, 110] a) rfl (by rw [hT]; rfl) (fun z => nomatch z) fun r5 h5 g5 a5 => ?_
  have G := G.trans g5
  have a1 := a1.gr g5
  have a2 := a2.gr g5
  have a3 := a3.gr g5
  have a4 := a4.gr g5
  rw [ws_cons]
  refine w_newx (v := a) (x := xo 7 2 [110, 111, 116, 32, 116, 104, 101, 32, 114, 111, 111, 116] a) rfl (by rw [hT]; rfl) (fun z => nomatch z) fun r6 h6 g6 a6 => ?_
  have G := G.trans g6
  have a1 := a1.gr g6
  have a2 := a2.gr g6
  have a3 := a3.gr g6
  have a4 := a4.gr g6
  have a5 := a5.gr g6
  rw [ws_nil, okL_le (by simp), WK_t]
  show WS (st T (run T d) _ none [some a, some (.ref r1), some (.ref r2), some (.ref r3), some (.ref r4), some (.ref r5), some (.ref r6), none, none, none, none, none, none, none, none, none] h6) _ _ _ _ _
  rw [s_seq, s_asg, w_tup]
  rw [ws_cons]
  refine w_newx (v := a) (x := xo 8 2 [110, 111, 32, 102, 105, 108, 101] a) rfl (by rw [hT]; rfl) (fun z => nomatch z) fun r7 h7 g7 a7 => ?_
  have G := G.trans g7
  have a1 := a1.gr g7
  have a2 := a2.gr g7
  have a3 := a3.gr g7
  have a4 := a4.gr g7
  have a5 := a5.gr g7
  have a6 := a6.gr g7
  rw [ws_cons]
  refine w_newx (v := a) (x := xo 9 2 [116, 97, 107, 101, 110] a) rfl (by rw [hT]; rfl) (fun z => nomatch z) fun r8 h8 g8 a8 => ?_
  have G := G.trans g8
  have a1 := a1.gr g8
  have a2 := a2.gr g8
  have a3 := a3.gr g8
  have a4 := a4.gr g8
  have a5 := a5.gr g8
  have a6 := a6.gr g8
  have a7 := a7.gr g8
  rw [ws_nil, okL_le (by simp), WK_t]
  show WS (st T (run T d) _ none [some a, some (.ref r1), some (.ref r2), some (.ref r3), some (.ref r4), some (.ref r5), some (.ref r6), some (.ref r7), some (.ref r8), none, none, none, none, none, none, none] h8) _ _ _ _ _
  rw [s_seq, s_asg, w_tup]
  rw [ws_cons]
  refine w_newx (v := a) (x := xo 10 2 [110, 111, 116, 32, 101, 109, 112, 116, 121] a) rfl (by rw [hT]; rfl) (fun z => nomatch z) fun r9 h9 g9 a9 => ?_
  have G := G.trans g9
  have a1 := a1.gr g9
  have a2 := a2.gr g9
  have a3 := a3.gr g9
  have a4 := a4.gr g9
  have a5 := a5.gr g9
  have a6 := a6.gr g9
  have a7 := a7.gr g9
  have a8 := a8.gr g9
  rw [ws_cons]
  refine w_newx (v := a) (x := xo 11 2 [119, 105, 116, 104, 105, 110, 32, 105, 116, 115, 101, 108, 102] a) rfl (by rw [hT]; rfl) (fun z => nomatch z) fun r10 h10 g10 a10 => ?_
  have G := G.trans g10
  have a1 := a1.gr g10
  have a2 := a2.gr g10
  have a3 := a3.gr g10
  have a4 := a4.gr g10
  have a5 := a5.gr g10
  have a6 := a6.gr g10
  have a7 := a7.gr g10
  have a8 := a8.gr g10
  have a9 := a9.gr g10
  rw [ws_cons]
  refine w_newx (v := a) (x := xo 12 2 [116, 111, 111, 32, 100, 101, 101, 112] a) rfl (by rw [hT]; rfl) (fun z => nomatch z) fun r11 h11 g11 a11 => ?_
  have G := G.trans g11
  have a1 := a1.gr g11
  have a2 := a2.gr g11
  have a3 := a3.gr g11
  have a4 := a4.gr g11
  have a5 := a5.gr g11
  have a6 := a6.gr g11
  have a7 := a7.gr g11
  have a8 := a8.gr g11
  have a9 := a9.gr g11
  have a10 := a10.gr g11
  rw [ws_nil, okL_le (by simp), WK_t]
  show WS (st T (run T d) _ none [some a, some (.ref r1), some (.ref r2), some (.ref r3), some (.ref r4), some (.ref r5), some (.ref r6), some (.ref r7), some (.ref r8), some (.ref r9), some (.ref r10), some (.ref r11), none, none, none, none] h11) _ _ _ _ _
  rw [s_seq, s_asg, w_tup]
  rw [ws_cons]
  refine w_newx (v := a) (x := xo 13 2 [110, 111, 32, 114, 111, 111, 109] a) rfl (by rw [hT]; rfl) (fun z => nomatch z) fun r12 h12 g12 a12 => ?_
  have G := G.trans g12
  have a1 := a1.gr g12
  have a2 := a2.gr g12
  have a3 := a3.gr g12
  have a4 := a4.gr g12
  have a5 := a5.gr g12
  have a6 := a6.gr g12
  have a7 := a7.gr g12
  have a8 := a8.gr g12
  have a9 := a9.gr g12
  have a10 := a10.gr g12
  have a11 := a11.gr g12
  rw [ws_cons]
  refine w_newx (v := a) (x := xo 14 7 [110, 111, 32, 114, 111, 119] a) rfl (by rw [hT]; rfl) (fun z => nomatch z) fun r13 h13 g13 a13 => ?_
  have G := G.trans g13
  have a1 := a1.gr g13
  have a2 := a2.gr g13
  have a3 := a3.gr g13
  have a4 := a4.gr g13
  have a5 := a5.gr g13
  have a6 := a6.gr g13
  have a7 := a7.gr g13
  have a8 := a8.gr g13
  have a9 := a9.gr g13
  have a10 := a10.gr g13
  have a11 := a11.gr g13
  have a12 := a12.gr g13
  rw [ws_cons]
  refine w_newx (v := a) (x := xo 15 8 [110, 111, 32, 116, 101, 120, 116] a) rfl (by rw [hT]; rfl) (fun z => nomatch z) fun r14 h14 g14 a14 => ?_
  have G := G.trans g14
  have a1 := a1.gr g14
  have a2 := a2.gr g14
  have a3 := a3.gr g14
  have a4 := a4.gr g14
  have a5 := a5.gr g14
  have a6 := a6.gr g14
  have a7 := a7.gr g14
  have a8 := a8.gr g14
  have a9 := a9.gr g14
  have a10 := a10.gr g14
  have a11 := a11.gr g14
  have a12 := a12.gr g14
  have a13 := a13.gr g14
  rw [ws_nil, okL_le (by simp), WK_t]
  show WS (st T (run T d) _ none [some a, some (.ref r1), some (.ref r2), some (.ref r3), some (.ref r4), some (.ref r5), some (.ref r6), some (.ref r7), some (.ref r8), some (.ref r9), some (.ref r10), some (.ref r11), some (.ref r12), some (.ref r13), some (.ref r14), none] h14) _ _ _ _ _
  refine new_w (ys := [.tup [.ref r1, a, .str [110, 111, 32, 112, 97, 116, 104]], .tup [.ref r2, a, .str [110, 111, 32, 110, 117, 109, 98, 101, 114]], .tup [.ref r3, a, .str [110, 111, 32, 111, 119, 110, 101, 114]]]) (evs_1 (ev_t (evs_1 (ev_v rfl) (evs_1 (ev_xfld rfl a1 rfl) (evs_1 ev_c evs_0))) (by simp)) (evs_1 (ev_t (evs_1 (ev_v rfl) (evs_1 (ev_xfld rfl a2 rfl) (evs_1 ev_c evs_0))) (by simp)) (evs_1 (ev_t (evs_1 (ev_v rfl) (evs_1 (ev_xfld rfl a3 rfl) (evs_1 ev_c evs_0))) (by simp)) evs_0))) (by simp) fun p1 t1 u1 e1 n1 => ?_
  have G := G.trans u1
  have a1 := a1.gr u1
  have a2 := a2.gr u1
  have a3 := a3.gr u1
  have a4 := a4.gr u1
  have a5 := a5.gr u1
  have a6 := a6.gr u1
  have a7 := a7.gr u1
  have a8 := a8.gr u1
  have a9 := a9.gr u1
  have a10 := a10.gr u1
  have a11 := a11.gr u1
  have a12 := a12.gr u1
  have a13 := a13.gr u1
  have a14 := a14.gr u1
  refine cat_w (p := p1) (xs := [.tup [.ref r1, a, .str [110, 111, 32, 112, 97, 116, 104]], .tup [.ref r2, a, .str [110, 111, 32, 110, 117, 109, 98, 101, 114]], .tup [.ref r3, a, .str [110, 111, 32, 111, 119, 110, 101, 114]]]) (ys := [.tup [.ref r4, a, .str [110, 111, 32, 115, 97, 121, 105, 110, 103]], .tup [.ref r5, a, .str [110, 111, 32, 112, 97, 116, 116, 101, 114, 110]]]) rfl e1 (evs_1 (ev_t (evs_1 (ev_v rfl) (evs_1 (ev_xfld rfl a4 rfl) (evs_1 ev_c evs_0))) (by simp)) (evs_1 (ev_t (evs_1 (ev_v rfl) (evs_1 (ev_xfld rfl a5 rfl) (evs_1 ev_c evs_0))) (by simp)) evs_0)) (by simp) fun p2 t2 u2 e2 n2 => ?_
  have G := G.trans u2
  have a1 := a1.gr u2
  have a2 := a2.gr u2
  have a3 := a3.gr u2
  have a4 := a4.gr u2
  have a5 := a5.gr u2
  have a6 := a6.gr u2
  have a7 := a7.gr u2
  have a8 := a8.gr u2
  have a9 := a9.gr u2
  have a10 := a10.gr u2
  have a11 := a11.gr u2
  have a12 := a12.gr u2
  have a13 := a13.gr u2
  have a14 := a14.gr u2
  refine cat_w (p := p2) (xs := [.tup [.ref r1, a, .str [110, 111, 32, 112, 97, 116, 104]], .tup [.ref r2, a, .str [110, 111, 32, 110, 117, 109, 98, 101, 114]], .tup [.ref r3, a, .str [110, 111, 32, 111, 119, 110, 101, 114]], .tup [.ref r4, a, .str [110, 111, 32, 115, 97, 121, 105, 110, 103]], .tup [.ref r5, a, .str [110, 111, 32, 112, 97, 116, 116, 101, 114, 110]]]) (ys := [.tup [.ref r6, a, .str [110, 111, 116, 32, 116, 104, 101, 32, 114, 111, 111, 116]], .tup [.ref r7, a, .str [110, 111, 32, 102, 105, 108, 101]], .tup [.ref r8, a, .str [116, 97, 107, 101, 110]]]) rfl e2 (evs_1 (ev_t (evs_1 (ev_v rfl) (evs_1 (ev_xfld rfl a6 rfl) (evs_1 ev_c evs_0))) (by simp)) (evs_1 (ev_t (evs_1 (ev_v rfl) (evs_1 (ev_xfld rfl a7 rfl) (evs_1 ev_c evs_0))) (by simp)) (evs_1 (ev_t (evs_1 (ev_v rfl) (evs_1 (ev_xfld rfl a8 rfl) (evs_1 ev_c evs_0))) (by simp)) evs_0))) (by simp) fun p3 t3 u3 e3 n3 => ?_
  have G := G.trans u3
  have a1 := a1.gr u3
  have a2 := a2.gr u3
  have a3 := a3.gr u3
  have a4 := a4.gr u3
  have a5 := a5.gr u3
  have a6 := a6.gr u3
  have a7 := a7.gr u3
  have a8 := a8.gr u3
  have a9 := a9.gr u3
  have a10 := a10.gr u3
  have a11 := a11.gr u3
  have a12 := a12.gr u3
  have a13 := a13.gr u3
  have a14 := a14.gr u3
  refine cat_w (p := p3) (xs := [.tup [.ref r1, a, .str [110, 111, 32, 112, 97, 116, 104]], .tup [.ref r2, a, .str [110, 111, 32, 110, 117, 109, 98, 101, 114]], .tup [.ref r3, a, .str [110, 111, 32, 111, 119, 110, 101, 114]], .tup [.ref r4, a, .str [110, 111, 32, 115, 97, 121, 105, 110, 103]], .tup [.ref r5, a, .str [110, 111, 32, 112, 97, 116, 116, 101, 114, 110]], .tup [.ref r6, a, .str [110, 111, 116, 32, 116, 104, 101, 32, 114, 111, 111, 116]], .tup [.ref r7, a, .str [110, 111, 32, 102, 105, 108, 101]], .tup [.ref r8, a, .str [116, 97, 107, 101, 110]]]) (ys := [.tup [.ref r9, a, .str [110, 111, 116, 32, 101, 109, 112, 116, 121]], .tup [.ref r10, a, .str [119, 105, 116, 104, 105, 110, 32, 105, 116, 115, 101, 108, 102]]]) rfl e3 (evs_1 (ev_t (evs_1 (ev_v rfl) (evs_1 (ev_xfld rfl a9 rfl) (evs_1 ev_c evs_0))) (by simp)) (evs_1 (ev_t (evs_1 (ev_v rfl) (evs_1 (ev_xfld rfl a10 rfl) (evs_1 ev_c evs_0))) (by simp)) evs_0)) (by simp) fun p4 t4 u4 e4 n4 => ?_
  have G := G.trans u4
  have a1 := a1.gr u4
  have a2 := a2.gr u4
  have a3 := a3.gr u4
  have a4 := a4.gr u4
  have a5 := a5.gr u4
  have a6 := a6.gr u4
  have a7 := a7.gr u4
  have a8 := a8.gr u4
  have a9 := a9.gr u4
  have a10 := a10.gr u4
  have a11 := a11.gr u4
  have a12 := a12.gr u4
  have a13 := a13.gr u4
  have a14 := a14.gr u4
  refine cat_w (p := p4) (xs := [.tup [.ref r1, a, .str [110, 111, 32, 112, 97, 116, 104]], .tup [.ref r2, a, .str [110, 111, 32, 110, 117, 109, 98, 101, 114]], .tup [.ref r3, a, .str [110, 111, 32, 111, 119, 110, 101, 114]], .tup [.ref r4, a, .str [110, 111, 32, 115, 97, 121, 105, 110, 103]], .tup [.ref r5, a, .str [110, 111, 32, 112, 97, 116, 116, 101, 114, 110]], .tup [.ref r6, a, .str [110, 111, 116, 32, 116, 104, 101, 32, 114, 111, 111, 116]], .tup [.ref r7, a, .str [110, 111, 32, 102, 105, 108, 101]], .tup [.ref r8, a, .str [116, 97, 107, 101, 110]], .tup [.ref r9, a, .str [110, 111, 116, 32, 101, 109, 112, 116, 121]], .tup [.ref r10, a, .str [119, 105, 116, 104, 105, 110, 32, 105, 116, 115, 101, 108, 102]]]) (ys := [.tup [.ref r11, a, .str [116, 111, 111, 32, 100, 101, 101, 112]], .tup [.ref r12, a, .str [110, 111, 32, 114, 111, 111, 109]], .tup [.ref r13, a, .str [110, 111, 32, 114, 111, 119]]]) rfl e4 (evs_1 (ev_t (evs_1 (ev_v rfl) (evs_1 (ev_xfld rfl a11 rfl) (evs_1 ev_c evs_0))) (by simp)) (evs_1 (ev_t (evs_1 (ev_v rfl) (evs_1 (ev_xfld rfl a12 rfl) (evs_1 ev_c evs_0))) (by simp)) (evs_1 (ev_t (evs_1 (ev_v rfl) (evs_1 (ev_xfld rfl a13 rfl) (evs_1 ev_c evs_0))) (by simp)) evs_0))) (by simp) fun p5 t5 u5 e5 n5 => ?_
  have G := G.trans u5
  have a1 := a1.gr u5
  have a2 := a2.gr u5
  have a3 := a3.gr u5
  have a4 := a4.gr u5
  have a5 := a5.gr u5
  have a6 := a6.gr u5
  have a7 := a7.gr u5
  have a8 := a8.gr u5
  have a9 := a9.gr u5
  have a10 := a10.gr u5
  have a11 := a11.gr u5
  have a12 := a12.gr u5
  have a13 := a13.gr u5
  have a14 := a14.gr u5
  rw [s_seq, s_ret, w_bin, w_var]
  show WR (ev T _ _ _ _) _ _
  rw [w_lst]
  refine WR_of ((evs_1 (ev_t (evs_1 (ev_v rfl) (evs_1 (ev_xfld rfl a14 rfl) (evs_1 ev_c evs_0))) (by simp)) evs_0) : evs T _ _ _ _ = .ok [.tup [.ref r14, a, .str [110, 111, 32, 116, 101, 120, 116]]] _) ?_
  rw [w_newL, okL_le (by simp), WK_t, b_addL (xs := [.tup [.ref r1, a, .str [110, 111, 32, 112, 97, 116, 104]], .tup [.ref r2, a, .str [110, 111, 32, 110, 117, 109, 98, 101, 114]], .tup [.ref r3, a, .str [110, 111, 32, 111, 119, 110, 101, 114]], .tup [.ref r4, a, .str [110, 111, 32, 115, 97, 121, 105, 110, 103]], .tup [.ref r5, a, .str [110, 111, 32, 112, 97, 116, 116, 101, 114, 110]], .tup [.ref r6, a, .str [110, 111, 116, 32, 116, 104, 101, 32, 114, 111, 111, 116]], .tup [.ref r7, a, .str [110, 111, 32, 102, 105, 108, 101]], .tup [.ref r8, a, .str [116, 97, 107, 101, 110]], .tup [.ref r9, a, .str [110, 111, 116, 32, 101, 109, 112, 116, 121]], .tup [.ref r10, a, .str [119, 105, 116, 104, 105, 110, 32, 105, 116, 115, 101, 108, 102]], .tup [.ref r11, a, .str [116, 111, 111, 32, 100, 101, 101, 112]], .tup [.ref r12, a, .str [110, 111, 32, 114, 111, 111, 109]], .tup [.ref r13, a, .str [110, 111, 32, 114, 111, 119]]]) (ys := [.tup [.ref r14, a, .str [110, 111, 32, 116, 101, 120, 116]]]) (app_old e5) app_new (by simp)]
  refine q _ _ _ G.app.app app_new (by simp) fun v m => ?_
  simp only [List.cons_append, List.nil_append, List.mem_cons, List.not_mem_nil, or_false] at m
  rcases m with rfl | rfl | rfl | rfl | rfl | rfl | rfl | rfl | rfl | rfl | rfl | rfl | rfl | rfl
  · exact ⟨_, _, _, rfl, (a1.gr Gr.one).gr Gr.one, cx2⟩
  · exact ⟨_, _, _, rfl, (a2.gr Gr.one).gr Gr.one, cx3⟩
  · exact ⟨_, _, _, rfl, (a3.gr Gr.one).gr Gr.one, cx4⟩
  · exact ⟨_, _, _, rfl, (a4.gr Gr.one).gr Gr.one, cx5⟩
  · exact ⟨_, _, _, rfl, (a5.gr Gr.one).gr Gr.one, cx6⟩
  · exact ⟨_, _, _, rfl, (a6.gr Gr.one).gr Gr.one, cx7⟩
  · exact ⟨_, _, _, rfl, (a7.gr Gr.one).gr Gr.one, cx8⟩
  · exact ⟨_, _, _, rfl, (a8.gr Gr.one).gr Gr.one, cx9⟩
  · exact ⟨_, _, _, rfl, (a9.gr Gr.one).gr Gr.one, cx10⟩
  · exact ⟨_, _, _, rfl, (a10.gr Gr.one).gr Gr.one, cx11⟩
  · exact ⟨_, _, _, rfl, (a11.gr Gr.one).gr Gr.one, cx12⟩
  · exact ⟨_, _, _, rfl, (a12.gr Gr.one).gr Gr.one, cx13⟩
  · exact ⟨_, _, _, rfl, (a13.gr Gr.one).gr Gr.one, cx14⟩
  · exact ⟨_, _, _, rfl, (a14.gr Gr.one).gr Gr.one, cx15⟩

def TEN (i j : Nat) : List AV := [.non, .int 7, .str [119, 111, 114, 100], .tup [.int 1, .int 2], .bl true, .ref i, .ref j, .str [], .int (-(10 ^ Int.toNat 40)), .tup [.tup [.int 0, .int 1]]]
theorem ten_sv {a : AV} {i j : Nat} (m : a ∈ TEN i j) (ei : h[i]? = some (.lst [.int 3])) (ej : h[j]? = some (.dic false [(.inr [97], .int 1)])) : Sv h a := by
  intro h' g
  simp only [TEN, List.mem_cons, List.not_mem_nil, or_false] at m
  rcases m with rfl | rfl | rfl | rfl | rfl | rfl | rfl | rfl | rfl | rfl
  · exact ⟨rfl, rfl⟩
  · exact ⟨rfl, rfl⟩
  · exact ⟨rfl, rfl⟩
  · refine ⟨rfl, eq_tt (Dt.tup (n := 39) fun x mx => ?_)⟩
    simp only [List.mem_cons, List.not_mem_nil, or_false] at mx
    rcases mx with rfl | rfl <;> exact Dt.int
  · exact ⟨rfl, rfl⟩
  · have e := g.2 _ _ ei
    refine ⟨by unfold clsOf; dsimp only; rw [e], eq_ll e e fun x mx => ?_⟩
    obtain rfl := List.mem_singleton.mp mx
    exact Dt.int
  · have e := g.2 _ _ ej
    refine ⟨by unfold clsOf; dsimp only; rw [e], ?_⟩
    have dc : dicS h' j j = true := by
      unfold dicS
      rw [e, Nat.beq_refl]
      rfl
    show (match dicS h' j j with
      | true => some true
      | false => eqB h' (.ref j) (.ref j)) = _
    rw [dc]
  · exact ⟨rfl, rfl⟩
  · refine ⟨rfl, ?_⟩
    generalize (-(10 ^ Int.toNat 40) : Int) = z
    show some (z == z) = _
    rw [beq_self_eq_true]
  · refine ⟨rfl, eq_tt (Dt.tup (n := 39) fun x mx => ?_)⟩
    obtain rfl := List.mem_singleton.mp mx
    refine Dt.tup (n := 38) fun x mx => ?_
    simp only [List.mem_cons, List.not_mem_nil, or_false] at mx
    rcases mx with rfl | rfl <;> exact Dt.int
theorem dt4 {k1 k2 w : Tx} {x : AX} (c : CX x k1 k2 w) : ∀ v ∈ ([.str w, .str k1, .str k2, .str w] : List AV), Dt h 39 v := by
  intro v m
  simp only [List.mem_cons, List.not_mem_nil, or_false] at m
  rcases m with rfl | rfl | rfl | rfl
  · exact Dt.strk c.ok.1
  · exact Dt.strk c.ok.2.1
  · exact Dt.strk c.ok.2.2
  · exact Dt.strk c.ok.1
theorem e17 (hT : T = tb) : T.fns[17]? = some bagF := by rw [hT]; rfl
theorem e18 (hT : T = tb) : T.fns[18]? = some takeF := by rw [hT]; rfl
theorem e19 (hT : T = tb) : T.fns[19]? = some (ofF 18) := by rw [hT]; rfl
end
theorem law_ok (ns : List Int) (hn : ns.length ≤ 63) : ∃ h', run tb 20 22 [.ref 0] [.flst (ns.map .int)] = .ok (.bl true) h' := by
  obtain ⟨T, hT⟩ : ∃ T, T = tb := ⟨_, rfl⟩
  rw [← hT]
  have w : WR (run T 20 22 [.ref 0] [.flst (ns.map .int)]) (fun v _ => v = .bl true) (fun _ _ => False) := by
    refine r_imp (F := f22) (by rw [hT]; rfl) rfl rfl ?_
    show WS (st T (run T 19) b22 none [some (.ref 0), none, none, none, none, none, none, none, none, none] [.flst (ns.map .int)]) _ _ _ _ _
    unfold b22
    rw [s_seq]
    have e0 : ([.flst (ns.map .int)] : AH)[0]? = some (.flst (ns.map .int)) := rfl
    refine s_for (P := fun ys h2 => h2 = [.flst (ns.map .int)] ∧ ∃ n : Int, 0 ≤ n ∧ n ≤ 12 ∧ ys = [AV.int n]) ?_ (fun xs i l h2 => (∃ o1 o2 o3 o4 o5 o6 o7 o8 o9, l = [some (.ref 0), o1, o2, o3, o4, o5, o6, o7, o8, o9]) ∧ h2[0]? = some (.flst (ns.map .int)) ∧ xs.length ≤ 12 ∧ ∀ (i : Nat) (v : AV), xs[i]? = some v → ∃ k : Int, v = AV.int k ∧ 0 ≤ k ∧ k ≤ 1000) ?_
    · simp only [ws_cons, ws_nil, w_bin, w_blt, w_var, w_cst, List.getElem?_cons_zero, Option.join_some, WO_s]
      refine (WL_f e0).mpr ?_
      rw [b_min, b_add]
      refine ⟨rfl, _, ?_, ?_, rfl⟩
      · split <;> omega
      · split <;> omega
    · rintro ys h2 ⟨rfl, n, n0, n1, rfl⟩
      refine ⟨rngL n.toNat 0, src_rng n0 (by omega), by rw [rng_len]; omega, ⟨⟨none, none, none, none, none, none, none, none, none, rfl⟩, e0, by rw [rng_len]; omega, ?_⟩, ?_, ?_⟩
      · intro i v ev
        rw [rng_get] at ev
        split at ev
        · cases ev
          exact ⟨_, rfl, by omega, by omega⟩
        · cases ev
      · rintro i v l h3 ev ⟨⟨o1, o2, o3, o4, o5, o6, o7, o8, o9, rfl⟩, h0, xl, xv⟩
        obtain ⟨k, rfl, k0, k1⟩ := xv i v ev
        simp only [setT_nm, WO_s, List.set_cons_zero, List.set_cons_succ]
        rw [s_seq]
        simp only [s_asg, w_call, ws_cons, ws_nil, w_var, List.getElem?_cons_zero, List.getElem?_cons_succ, Option.join_some, WO_s]
        refine bag_w (e17 hT) h0 k0 k1 fun x y => ?_
        simp only [setT_nm, WO_s, List.set_cons_zero, List.set_cons_succ]
        have l1 : 1 ≤ h3.length := by have := (List.getElem?_eq_some_iff.mp h0).1; omega
        have Bb : Bg h3.length (h3 ++ [AO.lst [.int x, .int y]]) := ⟨x, y, app_new⟩
        have d0 : (h3 ++ [AO.lst [.int x, .int y]])[0]? = some (.flst (ns.map .int)) := app_old h0
        generalize h3.length = b at *
        generalize h3 ++ [AO.lst [.int x, .int y]] = h4 at *
        rw [s_seq]
        simp only [s_asg, w_call, ws_cons, ws_nil, w_var, w_cst, w_tup, w_lst, w_dct, w_neg, w_bin, List.getElem?_cons_zero, List.getElem?_cons_succ, Option.join_some, WO_s, okL_le, List.length_cons, List.length_nil, Nat.reduceAdd, Nat.zero_add, Nat.reduceLeDiff, WK_t, w_newL]
        refine ⟨rfl, ?_⟩
        rw [show dctA [AV.str [97], AV.int 1] [] = some [(.inr [97], .int 1)] from rfl, WO_s]
        dsimp only
        rw [b_pow (by decide) (by decide), WN_i]
        have n3 : h4.length ≠ b := Bb.ne
        have n4 : (h4 ++ [AO.lst [.int 3]]).length ≠ b := Bb.app.ne
        have n5 : (h4 ++ [AO.lst [.int 3]] ++ [AO.dic false [(.inr [97], .int 1)]]).length ≠ b := Bb.app.app.ne
        have e4 : (h4 ++ [AO.lst [.int 3]] ++ [AO.dic false [(.inr [97], .int 1)]])[h4.length]? = some (.lst [.int 3]) := app_old app_new
        have e5 : (h4 ++ [AO.lst [.int 3]] ++ [AO.dic false [(.inr [97], .int 1)]])[(h4 ++ [AO.lst [.int 3]]).length]? = some (.dic false [(.inr [97], .int 1)]) := app_new
        have d1 : (h4 ++ [AO.lst [.int 3]] ++ [AO.dic false [(.inr [97], .int 1)]])[0]? = some (.flst (ns.map .int)) := app_old (app_old d0)
        have B5 := Bb.app (o := AO.lst [.int 3]) |>.app (o := AO.dic false [(.inr [97], .int 1)])
        show WR (run T 19 19 [.ref b, .ref (h4 ++ [AO.lst [.int 3]] ++ [AO.dic false [(.inr [97], .int 1)]]).length] (h4 ++ [AO.lst [.int 3]] ++ [AO.dic false [(.inr [97], .int 1)]] ++ [AO.lst (TEN h4.length (h4 ++ [AO.lst [.int 3]]).length)])) _ _
        generalize h4 ++ [AO.lst [.int 3]] ++ [AO.dic false [(.inr [97], .int 1)]] = h5 at *
        generalize (h4 ++ [AO.lst [.int 3]]).length = p4 at *
        generalize h4.length = p3 at *
        refine of_l (xs := TEN p3 p4) (e18 hT) (e19 hT) B5.app n5 app_new (show 0 < 10 by omega) (show 10 < 1000000 by omega) fun a h6 ma kp _ => ?_
        have sv : Sv h6 a := ten_sv ma (kp.get (app_old e4) n3) (kp.get (app_old e5) n4)
        have d6 : h6[0]? = some (.flst (ns.map .int)) := kp.get (app_old d1) (by omega)
        clear kp ma e4 e5 d1 B5 Bb
        rw [setT_nm, WO_s]
        simp only [List.set_cons_zero, List.set_cons_succ]
        rw [s_seq]
        refine s_forL (P := fun ys h2 => ∃ p xs, ys = [AV.ref p] ∧ Gr h6 h2 ∧ h2[p]? = some (.lst xs) ∧ xs.length ≤ 1000 ∧ ∀ v ∈ xs, ∃ r x w, v = .tup [.ref r, a, .str w] ∧ XA h2 r x ∧ CX x [86, 97, 108, 117, 101, 69, 114, 114, 111, 114] [116, 111, 108, 100] w) ?_
          (fun i p xs l h2 => (∃ o4 o5 o6, l = [some (.ref 0), some (.int k), some (.ref b), some a, o4, o5, o6, o7, o8, o9]) ∧ Gr h6 h2 ∧ h2[p]? = some (.lst xs) ∧ ∀ v ∈ xs, ∃ r x w, v = .tup [.ref r, a, .str w] ∧ XA h2 r x ∧ CX x [86, 97, 108, 117, 101, 69, 114, 114, 111, 114] [116, 111, 108, 100] w) ?_
        · simp only [ws_cons, ws_nil, w_call, w_var, List.getElem?_cons_zero, List.getElem?_cons_succ, Option.join_some, WO_s]
          exact made_w hT fun p h' xs g e n1 k1 => ⟨p, xs, rfl, g, e, n1, k1⟩
        · rintro ys h7 ⟨p, xs, rfl, g7, e7, n7, k7⟩
          refine ⟨p, xs, rfl, by omega, ⟨⟨_, _, _, rfl⟩, g7, e7, k7⟩, fun i l h z => z.2.2.1, ?_, ?_⟩
          · rintro i2 v l h8 ev8 ⟨⟨o4, o5, o6, rfl⟩, g8, e8, k8⟩
            obtain ⟨r, x, w, rfl, xa, cx⟩ := k8 v (List.mem_of_getElem? ev8)
            show WS (st T (run T 19) _ none [some (.ref 0), some (.int k), some (.ref b), some a, some (.ref r), some a, some (.str w), o7, o8, o9] h8) _ _ _ _ _
            rw [s_seq]
            simp only [s_ite, w_or, w_cmp, w_call, ws_cons, ws_nil, w_var, w_cst, w_lst, List.getElem?_cons_zero, List.getElem?_cons_succ, Option.join_some, WO_s]
            rw [(sv.gr g8).ne, tr_b, WT_f]
            refine cl_w hT xa cx fun p9 h9 g9 e9 _ => ?_
            rw [w_newL, okL_le (by simp), WK_t, ne_ll (app_old e9) app_new (dt4 cx), tr_b, WT_f, s_nil, s_nil]
            have G := g9.trans (Gr.one (o := .lst [.str w, .str [86, 97, 108, 117, 101, 69, 114, 114, 111, 114], .str [116, 111, 108, 100], .str w]))
            refine ⟨⟨_, _, _, rfl⟩, g8.trans G, G.2 _ _ e8, fun v m => ?_⟩
            obtain ⟨r, x, w, e1, e2, e3⟩ := k8 v m
            exact ⟨r, x, w, e1, e2.gr G, e3⟩
          · rintro l h8 ⟨⟨o4, o5, o6, rfl⟩, g8, e8, k8⟩
            have sv := sv.gr g8
            have d8 := g8.2 _ _ d6
            clear e8 k8 g8 g7 e7 k7 d6
            rw [s_seq, s_asg, w_tup, ws_cons]
            refine w_newx (v := a) (x := xo 16 2 [109, 105, 115, 115, 105, 110, 103] a) rfl (by rw [hT]; rfl) (fun z => nomatch z) fun r1 t1 g1 a1 => ?_
            rw [ws_cons]
            refine w_newx (v := a) (x := xo 17 2 [110, 111, 32, 100, 105, 114] a) rfl (by rw [hT]; rfl) (fun z => nomatch z) fun r2 t2 g2 a2 => ?_
            rw [ws_cons]
            refine w_newx0 (x := ⟨18, [110, 111, 116, 104, 105, 110, 103, 32, 108, 101, 102, 116], []⟩) (by rw [hT]; rfl) rfl fun r3 t3 g3 a3 => ?_
            have a2 := a2.gr g3
            have a1 := (a1.gr g2).gr g3
            have sv := ((sv.gr g1).gr g2).gr g3
            have d9 := g3.2 _ _ (g2.2 _ _ (g1.2 _ _ d8))
            rw [ws_nil, okL_le (by simp), WK_t]
            show WS (st T (run T 19) _ none [some (.ref 0), some (.int k), some (.ref b), some a, o4, o5, o6, some (.ref r1), some (.ref r2), some (.ref r3)] t3) _ _ _ _ _
            clear d8 g3 g2 g1
            rw [s_seq, s_ite, w_or, w_cmp]
            refine WR_of (ev_xfld rfl a1 rfl) ?_
            rw [w_var]
            show WEq T _ .ne a a t3 _ _
            rw [sv.ne, tr_b, WT_f, w_cmp]
            refine WR_of (ev_xfld rfl a2 rfl) ?_
            rw [w_var]
            show WEq T _ .ne a a t3 _ _
            rw [sv.ne, tr_b, WT_f, s_nil, s_seq]
            refine s_forL (P := fun ys h2 => ∃ p xs, ys = [AV.ref p] ∧ Gr t3 h2 ∧ h2[p]? = some (.lst xs) ∧ xs.length ≤ 1000 ∧ ∀ v ∈ xs, ∃ r x w, v = .tup [.ref r, .str w] ∧ XA h2 r x ∧ CX x [76, 111, 111, 107, 117, 112, 69, 114, 114, 111, 114] [108, 111, 115, 116] w) ?_
              (fun i p xs l h2 => (∃ o4 o6, l = [some (.ref 0), some (.int k), some (.ref b), some a, o4, o5, o6, some (.ref r1), some (.ref r2), some (.ref r3)]) ∧ Gr t3 h2 ∧ h2[p]? = some (.lst xs) ∧ ∀ v ∈ xs, ∃ r x w, v = .tup [.ref r, .str w] ∧ XA h2 r x ∧ CX x [76, 111, 111, 107, 117, 112, 69, 114, 114, 111, 114] [108, 111, 115, 116] w) ?_
            · rw [ws_cons, w_lst]
              refine WR_of (evs_1 (ev_t (evs_1 (ev_v rfl) (evs_1 ev_c evs_0)) (by simp)) (evs_1 (ev_t (evs_1 (ev_v rfl) (evs_1 ev_c evs_0)) (by simp)) (evs_1 (ev_t (evs_1 (ev_v rfl) (evs_1 ev_c evs_0)) (by simp)) evs_0))) ?_
              rw [w_newL, okL_le (by simp), WK_t, ws_nil]
              refine ⟨_, _, rfl, Gr.one, app_new, by simp, fun v m => ?_⟩
              simp only [List.mem_cons, List.not_mem_nil, or_false] at m
              rcases m with rfl | rfl | rfl
              · exact ⟨_, _, _, rfl, a1.gr Gr.one, cx16⟩
              · exact ⟨_, _, _, rfl, a2.gr Gr.one, cx17⟩
              · exact ⟨_, _, _, rfl, a3.gr Gr.one, cx18 (a := .non)⟩
            · rintro ys t7 ⟨p, xs, rfl, g7, e7, n7, k7⟩
              refine ⟨p, xs, rfl, by omega, ⟨⟨_, _, rfl⟩, g7, e7, k7⟩, fun i l h z => z.2.2.1, ?_, ?_⟩
              · rintro i2 v l h8 ev8 ⟨⟨o4, o6, rfl⟩, g8, e8, k8⟩
                obtain ⟨r, x, w, rfl, xa, cx⟩ := k8 v (List.mem_of_getElem? ev8)
                show WS (st T (run T 19) _ none [some (.ref 0), some (.int k), some (.ref b), some a, some (.ref r), o5, some (.str w), some (.ref r1), some (.ref r2), some (.ref r3)] h8) _ _ _ _ _
                rw [s_seq]
                simp only [s_ite, w_or, w_cmp, w_call, ws_cons, ws_nil, w_var, w_cst, w_lst, List.getElem?_cons_zero, List.getElem?_cons_succ, Option.join_some, WO_s]
                refine cl_w hT xa cx fun p9 h9 g9 e9 _ => ?_
                rw [w_newL, okL_le (by simp), WK_t, ne_ll (app_old e9) app_new (dt4 cx), tr_b, WT_f, s_nil, s_nil]
                have G := g9.trans (Gr.one (o := .lst [.str w, .str [76, 111, 111, 107, 117, 112, 69, 114, 114, 111, 114], .str [108, 111, 115, 116], .str w]))
                refine ⟨⟨_, _, rfl⟩, g8.trans G, G.2 _ _ e8, fun v m => ?_⟩
                obtain ⟨r, x, w, e1, e2, e3⟩ := k8 v m
                exact ⟨r, x, w, e1, e2.gr G, e3⟩
              · rintro l h8 ⟨⟨o4, o6, rfl⟩, g8, e8, k8⟩
                rw [s_nil]
                exact ⟨⟨_, _, _, _, _, _, _, _, _, rfl⟩, g8.2 _ _ d9, xl, xv⟩
      · rintro l h3 ⟨⟨o1, o2, o3, o4, o5, o6, o7, o8, o9, rfl⟩, h0, xl, xv⟩
        rw [s_seq, s_ret, w_cst]
  obtain ⟨a, h', e, rfl⟩ := WR_get w
  exact ⟨h', e⟩
end R49
set_option Elab.async false
set_option linter.all false
set_option maxRecDepth 100000
set_option maxHeartbeats 0
namespace Lk49
open PySem PySem.Spec L2 Mm Ms
open PyProof.Rows hiding St
def top (i : Nat) : Stmt := PySem.Challenge.pw_twigseek_k49_refusals_and_their_fields.main.body.getD i (.Pass ⟨0, 0, 0, 0⟩)
def d0 : Dd := ⟨⟨("NoPath", some "__init__"), "__init__", "NoPath.__init__", defArgs (L2.inClass (top 3) 0), defBody (L2.inClass (top 3) 0), defScope (L2.inClass (top 3) 0), [], []⟩, ["self", "path"], ["self", "path"]⟩
def d1 : Dd := ⟨⟨("NoNumber", some "__init__"), "__init__", "NoNumber.__init__", defArgs (L2.inClass (top 4) 0), defBody (L2.inClass (top 4) 0), defScope (L2.inClass (top 4) 0), [], []⟩, ["self", "number"], ["self", "number"]⟩
def d2 : Dd := ⟨⟨("NoOwner", some "__init__"), "__init__", "NoOwner.__init__", defArgs (L2.inClass (top 5) 0), defBody (L2.inClass (top 5) 0), defScope (L2.inClass (top 5) 0), [], []⟩, ["self", "owner"], ["self", "owner"]⟩
def d3 : Dd := ⟨⟨("NoSaying", some "__init__"), "__init__", "NoSaying.__init__", defArgs (L2.inClass (top 6) 0), defBody (L2.inClass (top 6) 0), defScope (L2.inClass (top 6) 0), [], []⟩, ["self", "saying"], ["self", "saying"]⟩
def d4 : Dd := ⟨⟨("NoPattern", some "__init__"), "__init__", "NoPattern.__init__", defArgs (L2.inClass (top 7) 0), defBody (L2.inClass (top 7) 0), defScope (L2.inClass (top 7) 0), [], []⟩, ["self", "pattern"], ["self", "pattern"]⟩
def d5 : Dd := ⟨⟨("NoRoot", some "__init__"), "__init__", "NoRoot.__init__", defArgs (L2.inClass (top 8) 0), defBody (L2.inClass (top 8) 0), defScope (L2.inClass (top 8) 0), [], []⟩, ["self", "path"], ["self", "path"]⟩
def d6 : Dd := ⟨⟨("NoFile", some "__init__"), "__init__", "NoFile.__init__", defArgs (L2.inClass (top 9) 0), defBody (L2.inClass (top 9) 0), defScope (L2.inClass (top 9) 0), [], []⟩, ["self", "path"], ["self", "path"]⟩
def d7 : Dd := ⟨⟨("Taken", some "__init__"), "__init__", "Taken.__init__", defArgs (L2.inClass (top 10) 0), defBody (L2.inClass (top 10) 0), defScope (L2.inClass (top 10) 0), [], []⟩, ["self", "path"], ["self", "path"]⟩
def d8 : Dd := ⟨⟨("Full", some "__init__"), "__init__", "Full.__init__", defArgs (L2.inClass (top 11) 0), defBody (L2.inClass (top 11) 0), defScope (L2.inClass (top 11) 0), [], []⟩, ["self", "path"], ["self", "path"]⟩
def d9 : Dd := ⟨⟨("Ring", some "__init__"), "__init__", "Ring.__init__", defArgs (L2.inClass (top 12) 0), defBody (L2.inClass (top 12) 0), defScope (L2.inClass (top 12) 0), [], []⟩, ["self", "path"], ["self", "path"]⟩
def d10 : Dd := ⟨⟨("TooDeep", some "__init__"), "__init__", "TooDeep.__init__", defArgs (L2.inClass (top 13) 0), defBody (L2.inClass (top 13) 0), defScope (L2.inClass (top 13) 0), [], []⟩, ["self", "path"], ["self", "path"]⟩
def d11 : Dd := ⟨⟨("NoRoom", some "__init__"), "__init__", "NoRoom.__init__", defArgs (L2.inClass (top 14) 0), defBody (L2.inClass (top 14) 0), defScope (L2.inClass (top 14) 0), [], []⟩, ["self", "path"], ["self", "path"]⟩
def d12 : Dd := ⟨⟨("NoRow", some "__init__"), "__init__", "NoRow.__init__", defArgs (L2.inClass (top 15) 0), defBody (L2.inClass (top 15) 0), defScope (L2.inClass (top 15) 0), [], []⟩, ["self", "row"], ["self", "row"]⟩
def d13 : Dd := ⟨⟨("NoText", some "__init__"), "__init__", "NoText.__init__", defArgs (L2.inClass (top 16) 0), defBody (L2.inClass (top 16) 0), defScope (L2.inClass (top 16) 0), [], []⟩, ["self", "at"], ["self", "at"]⟩
def d14 : Dd := ⟨⟨("Missing", some "__init__"), "__init__", "Missing.__init__", defArgs (L2.inClass (top 17) 0), defBody (L2.inClass (top 17) 0), defScope (L2.inClass (top 17) 0), [], []⟩, ["self", "path"], ["self", "path"]⟩
def d15 : Dd := ⟨⟨("NoDir", some "__init__"), "__init__", "NoDir.__init__", defArgs (L2.inClass (top 18) 0), defBody (L2.inClass (top 18) 0), defScope (L2.inClass (top 18) 0), [], []⟩, ["self", "path"], ["self", "path"]⟩
def d16 : Dd := ⟨⟨("NothingLeft", some "__init__"), "__init__", "NothingLeft.__init__", defArgs (L2.inClass (top 19) 0), defBody (L2.inClass (top 19) 0), defScope (L2.inClass (top 19) 0), [], []⟩, ["self"], ["self"]⟩
def d17 : Dd := ⟨⟨("_law_bag", none), "_law_bag", "_law_bag", defArgs (top 21), defBody (top 21), defScope (top 21), [], []⟩, ["script", "k", "cell", "seed"], ["script", "k"]⟩
def d18 : Dd := ⟨⟨("_law_take", none), "_law_take", "_law_take", defArgs (top 22), defBody (top 22), defScope (top 22), [], []⟩, ["bag", "count", "found"], ["bag", "count"]⟩
def d19 : Dd := ⟨⟨("_law_of", none), "_law_of", "_law_of", defArgs (top 23), defBody (top 23), defScope (top 23), [], []⟩, ["bag", "some"], ["bag", "some"]⟩
def d20 : Dd := ⟨⟨("_law_classes", none), "_law_classes", "_law_classes", defArgs (top 24), defBody (top 24), defScope (top 24), [], []⟩, ["e", "found", "names", "name", "is_it"], ["e"]⟩
def d21 : Dd := ⟨⟨("_law_made", none), "_law_made", "_law_made", defArgs (top 25), defBody (top 25), defScope (top 25), [], []⟩, ["a", "path", "number", "owner", "saying", "pattern", "root", "file", "taken", "full", "ring", "deep", "space", "row", "text", "found"], ["a"]⟩
def d22 : Dd := ⟨⟨("law", none), "law", "law", defArgs (top 26), defBody (top 26), defScope (top 26), [], []⟩, ["script", "k", "bag", "a", "e", "thing", "word", "missing", "way", "left"], ["script"]⟩
def ds : List (Option Dd) := [some d0, some d1, some d2, some d3, some d4, some d5, some d6, some d7, some d8, some d9, some d10, some d11, some d12, some d13, some d14, some d15, some d16, some d17, some d18, some d19, some d20, some d21, some d22]
def gl0 : List (Str × Gk) := [(("_law_bag" : Str), Gk.fn 17), (("_law_take" : Str), Gk.fn 18), (("_law_of" : Str), Gk.fn 19), (("_law_classes" : Str), Gk.fn 20), (("_law_made" : Str), Gk.fn 21), (("law" : Str), Gk.fn 22), (("ToldError" : Str), Gk.xb 0), (("LostError" : Str), Gk.xb 1), (("NoPath" : Str), Gk.xcls 2), (("NoNumber" : Str), Gk.xcls 3), (("NoOwner" : Str), Gk.xcls 4), (("NoSaying" : Str), Gk.xcls 5)]
def gl1 : List (Str × Gk) := [(("NoPattern" : Str), Gk.xcls 6), (("NoRoot" : Str), Gk.xcls 7), (("NoFile" : Str), Gk.xcls 8), (("Taken" : Str), Gk.xcls 9), (("Full" : Str), Gk.xcls 10), (("Ring" : Str), Gk.xcls 11), (("TooDeep" : Str), Gk.xcls 12), (("NoRoom" : Str), Gk.xcls 13), (("NoRow" : Str), Gk.xcls 14), (("NoText" : Str), Gk.xcls 15), (("Missing" : Str), Gk.xcls 16), (("NoDir" : Str), Gk.xcls 17)]
def gl2 : List (Str × Gk) := [(("NothingLeft" : Str), Gk.xcls 18)]
def gl : List (Str × Gk) := gl0 ++ gl1 ++ gl2
def g : Gm := ⟨["__eq__", "__len__", "path", "number", "owner", "saying", "pattern", "row", "at"], [2, 3, 4, 5, 6, 7, 8], [], gl, ["len", "range", "min", "isinstance", "str", "zip", "ValueError", "LookupError"]⟩
def lw : Lw := ⟨Pk49.tb, g, ds, ["ToldError", "LostError", "NoPath", "NoNumber", "NoOwner", "NoSaying", "NoPattern", "NoRoot", "NoFile", "Taken", "Full", "Ring", "TooDeep", "NoRoom", "NoRow", "NoText", "Missing", "NoDir", "NothingLeft"], []⟩
theorem hb0 : Pk49.b0 = trB (trS FU ⟨d0.N, d0.d.scope, true, g⟩) d0.d.body := by kernel_rfl
theorem hb1 : Pk49.b1 = trB (trS FU ⟨d1.N, d1.d.scope, true, g⟩) d1.d.body := by kernel_rfl
theorem hb2 : Pk49.b2 = trB (trS FU ⟨d2.N, d2.d.scope, true, g⟩) d2.d.body := by kernel_rfl
theorem hb3 : Pk49.b3 = trB (trS FU ⟨d3.N, d3.d.scope, true, g⟩) d3.d.body := by kernel_rfl
theorem hb4 : Pk49.b4 = trB (trS FU ⟨d4.N, d4.d.scope, true, g⟩) d4.d.body := by kernel_rfl
theorem hb5 : Pk49.b5 = trB (trS FU ⟨d5.N, d5.d.scope, true, g⟩) d5.d.body := by kernel_rfl
theorem hb6 : Pk49.b6 = trB (trS FU ⟨d6.N, d6.d.scope, true, g⟩) d6.d.body := by kernel_rfl
theorem hb7 : Pk49.b7 = trB (trS FU ⟨d7.N, d7.d.scope, true, g⟩) d7.d.body := by kernel_rfl
theorem hb8 : Pk49.b8 = trB (trS FU ⟨d8.N, d8.d.scope, true, g⟩) d8.d.body := by kernel_rfl
theorem hb9 : Pk49.b9 = trB (trS FU ⟨d9.N, d9.d.scope, true, g⟩) d9.d.body := by kernel_rfl
theorem hb10 : Pk49.b10 = trB (trS FU ⟨d10.N, d10.d.scope, true, g⟩) d10.d.body := by kernel_rfl
theorem hb11 : Pk49.b11 = trB (trS FU ⟨d11.N, d11.d.scope, true, g⟩) d11.d.body := by kernel_rfl
theorem hb12 : Pk49.b12 = trB (trS FU ⟨d12.N, d12.d.scope, true, g⟩) d12.d.body := by kernel_rfl
theorem hb13 : Pk49.b13 = trB (trS FU ⟨d13.N, d13.d.scope, true, g⟩) d13.d.body := by kernel_rfl
theorem hb14 : Pk49.b14 = trB (trS FU ⟨d14.N, d14.d.scope, true, g⟩) d14.d.body := by kernel_rfl
theorem hb15 : Pk49.b15 = trB (trS FU ⟨d15.N, d15.d.scope, true, g⟩) d15.d.body := by kernel_rfl
theorem hb16 : Pk49.b16 = trB (trS FU ⟨d16.N, d16.d.scope, true, g⟩) d16.d.body := by kernel_rfl
theorem hb17 : Pk49.b17 = trB (trS FU ⟨d17.N, d17.d.scope, true, g⟩) d17.d.body := by kernel_rfl
theorem hb18 : Pk49.b18 = trB (trS FU ⟨d18.N, d18.d.scope, true, g⟩) d18.d.body := by kernel_rfl
theorem hb19 : Pk49.b19 = trB (trS FU ⟨d19.N, d19.d.scope, true, g⟩) d19.d.body := by kernel_rfl
theorem hb20 : Pk49.b20 = trB (trS FU ⟨d20.N, d20.d.scope, true, g⟩) d20.d.body := by kernel_rfl
theorem hb21 : Pk49.b21 = trB (trS FU ⟨d21.N, d21.d.scope, true, g⟩) d21.d.body := by kernel_rfl
theorem hb22 : Pk49.b22 = trB (trS FU ⟨d22.N, d22.d.scope, true, g⟩) d22.d.body := by kernel_rfl
theorem hB : ∀ (f : Nat) (d : Dd) (F : Fn), lw.D f = some d → lw.T.fns[f]? = some F → F.body = trB (trS FU ⟨d.N, d.d.scope, true, lw.G⟩) d.d.body := by
  intro f d F e1 e2
  have z : f < 23 := (List.getElem?_eq_some_iff.mp (Lw.D_at e1)).1
  by_cases y0 : f = 0
  · subst y0; cases e1; cases e2; exact hb0
  by_cases y1 : f = 1
  · subst y1; cases e1; cases e2; exact hb1
  by_cases y2 : f = 2
  · subst y2; cases e1; cases e2; exact hb2
  by_cases y3 : f = 3
  · subst y3; cases e1; cases e2; exact hb3
  by_cases y4 : f = 4
  · subst y4; cases e1; cases e2; exact hb4
  by_cases y5 : f = 5
  · subst y5; cases e1; cases e2; exact hb5
  by_cases y6 : f = 6
  · subst y6; cases e1; cases e2; exact hb6
  by_cases y7 : f = 7
  · subst y7; cases e1; cases e2; exact hb7
  by_cases y8 : f = 8
  · subst y8; cases e1; cases e2; exact hb8
  by_cases y9 : f = 9
  · subst y9; cases e1; cases e2; exact hb9
  by_cases y10 : f = 10
  · subst y10; cases e1; cases e2; exact hb10
  by_cases y11 : f = 11
  · subst y11; cases e1; cases e2; exact hb11
  by_cases y12 : f = 12
  · subst y12; cases e1; cases e2; exact hb12
  by_cases y13 : f = 13
  · subst y13; cases e1; cases e2; exact hb13
  by_cases y14 : f = 14
  · subst y14; cases e1; cases e2; exact hb14
  by_cases y15 : f = 15
  · subst y15; cases e1; cases e2; exact hb15
  by_cases y16 : f = 16
  · subst y16; cases e1; cases e2; exact hb16
  by_cases y17 : f = 17
  · subst y17; cases e1; cases e2; exact hb17
  by_cases y18 : f = 18
  · subst y18; cases e1; cases e2; exact hb18
  by_cases y19 : f = 19
  · subst y19; cases e1; cases e2; exact hb19
  by_cases y20 : f = 20
  · subst y20; cases e1; cases e2; exact hb20
  by_cases y21 : f = 21
  · subst y21; cases e1; cases e2; exact hb21
  by_cases y22 : f = 22
  · subst y22; cases e1; cases e2; exact hb22
  omega
theorem hBi : ∀ (K : PySem.W.Frag) (f : Nat) (d : Dd) (fd : FuncData), lw.D f = some d → FunD K d.d.name d.d.qual d.d.params d.d.body d.d.scope [] [] (lw.fadr K f) fd → Binds K fd d.ps [] := by
  intro K f d fd e1 h
  have z : f < 23 := (List.getElem?_eq_some_iff.mp (Lw.D_at e1)).1
  by_cases y0 : f = 0
  · subst y0; cases e1; exact h.bindsN fun _ _ _ _ _ _ us hl => match us, hl with | [_, _], _ => rfl
  by_cases y1 : f = 1
  · subst y1; cases e1; exact h.bindsN fun _ _ _ _ _ _ us hl => match us, hl with | [_, _], _ => rfl
  by_cases y2 : f = 2
  · subst y2; cases e1; exact h.bindsN fun _ _ _ _ _ _ us hl => match us, hl with | [_, _], _ => rfl
  by_cases y3 : f = 3
  · subst y3; cases e1; exact h.bindsN fun _ _ _ _ _ _ us hl => match us, hl with | [_, _], _ => rfl
  by_cases y4 : f = 4
  · subst y4; cases e1; exact h.bindsN fun _ _ _ _ _ _ us hl => match us, hl with | [_, _], _ => rfl
  by_cases y5 : f = 5
  · subst y5; cases e1; exact h.bindsN fun _ _ _ _ _ _ us hl => match us, hl with | [_, _], _ => rfl
  by_cases y6 : f = 6
  · subst y6; cases e1; exact h.bindsN fun _ _ _ _ _ _ us hl => match us, hl with | [_, _], _ => rfl
  by_cases y7 : f = 7
  · subst y7; cases e1; exact h.bindsN fun _ _ _ _ _ _ us hl => match us, hl with | [_, _], _ => rfl
  by_cases y8 : f = 8
  · subst y8; cases e1; exact h.bindsN fun _ _ _ _ _ _ us hl => match us, hl with | [_, _], _ => rfl
  by_cases y9 : f = 9
  · subst y9; cases e1; exact h.bindsN fun _ _ _ _ _ _ us hl => match us, hl with | [_, _], _ => rfl
  by_cases y10 : f = 10
  · subst y10; cases e1; exact h.bindsN fun _ _ _ _ _ _ us hl => match us, hl with | [_, _], _ => rfl
  by_cases y11 : f = 11
  · subst y11; cases e1; exact h.bindsN fun _ _ _ _ _ _ us hl => match us, hl with | [_, _], _ => rfl
  by_cases y12 : f = 12
  · subst y12; cases e1; exact h.bindsN fun _ _ _ _ _ _ us hl => match us, hl with | [_, _], _ => rfl
  by_cases y13 : f = 13
  · subst y13; cases e1; exact h.bindsN fun _ _ _ _ _ _ us hl => match us, hl with | [_, _], _ => rfl
  by_cases y14 : f = 14
  · subst y14; cases e1; exact h.bindsN fun _ _ _ _ _ _ us hl => match us, hl with | [_, _], _ => rfl
  by_cases y15 : f = 15
  · subst y15; cases e1; exact h.bindsN fun _ _ _ _ _ _ us hl => match us, hl with | [_, _], _ => rfl
  by_cases y16 : f = 16
  · subst y16; cases e1; exact h.bindsN fun _ _ _ _ _ _ us hl => match us, hl with | [_], _ => rfl
  by_cases y17 : f = 17
  · subst y17; cases e1; exact h.bindsN fun _ _ _ _ _ _ us hl => match us, hl with | [_, _], _ => rfl
  by_cases y18 : f = 18
  · subst y18; cases e1; exact h.bindsN fun _ _ _ _ _ _ us hl => match us, hl with | [_, _], _ => rfl
  by_cases y19 : f = 19
  · subst y19; cases e1; exact h.bindsN fun _ _ _ _ _ _ us hl => match us, hl with | [_, _], _ => rfl
  by_cases y20 : f = 20
  · subst y20; cases e1; exact h.bindsN fun _ _ _ _ _ _ us hl => match us, hl with | [_], _ => rfl
  by_cases y21 : f = 21
  · subst y21; cases e1; exact h.bindsN fun _ _ _ _ _ _ us hl => match us, hl with | [_], _ => rfl
  by_cases y22 : f = 22
  · subst y22; cases e1; exact h.bindsN fun _ _ _ _ _ _ us hl => match us, hl with | [_], _ => rfl
  omega
end Lk49

set_option Elab.async false
set_option linter.all false
set_option maxRecDepth 100000
set_option maxHeartbeats 0
namespace Lk49
open PySem PySem.Spec L2 Mm Ms
open PyProof.Rows hiding St
theorem so (K : PySem.W.Frag) : Sok (lw.sg K) := Ms.sok_of (by kernel_rfl) K
end Lk49
open PySem PySem.W PySem.Calls PyProof.Rows in
set_option maxRecDepth 100000 in
set_option maxHeartbeats 0 in
theorem PySem.Challenge.cw_twigseek_k49_refusals_and_their_fields_holds : PySem.Challenge.rw_twigseek_k49_refusals_and_their_fields.Holds := by
  w_on; o_law; k_head; (case hw => w_witness2)
  k_fill
  refine Ms.walk_all (l := PySem.Challenge.rw_twigseek_k49_refusals_and_their_fields) (L := Lk49.lw) (dl := 20) (fl := 22) (dd := Lk49.d22) rfl rfl (fun w h Y => PySem.W.kIn_of Y) ⟨rfl, by decide, by decide⟩ rfl rfl ?hnm ?hb ?F ?hK R49.law_ok
  case hnm =>
    intro w h mg fa KX G hm
    exact Value.ref.inj (Option.some.inj (hm.symm.trans (PySem.W.mg_of KX G (by kernel_rfl))))
  case hb =>
    intro fd K F s u
    exact F.bindsA (ps := ["script"]) (fun _ _ _ _ _ _ us hl => match us, hl with | [_], _ => rfl) s [u] rfl
  case F =>
    intro w mg h KX G
    exact Ms.law_of KX G (by kernel_rfl) (by kernel_rfl) (by kernel_rfl) Lk49.hB (Lk49.hBi _) (Lk49.so _)
  case hK =>
    intro w
    kernel_rfl
