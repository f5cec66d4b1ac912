import PyProof.Rows.All
import Wide.All
import OpenK.AllK
import Wide.FinOn
import PySem.Str
import PyProof.P3Statements
import HandS.ForMost
import HandS.ForExc
import HandS.Star
import HandS.Wide
import KE.KDictKeyed
import HandS.Lambda
import HandS.TupAny
import HandS.TupMul
import HandS.TupLe
import HandS.Deep
import HandS.Style
import HandS.Conv
import HandS.SortInts
import HandS.SortRule
import HandS.TupLen
import PyProof.MaxThree
import KE.KTupSum
import KE.SortData
import KE.KDictCopyH
import KE.KDictSum
import HandS.ExcValue
import HandS.Defaults
import HandS.Words
import HandS.CallRecv
import HandS.Comp
import HandS.Zip
import HandS.Iter
import HandS.SortKw
import KE.DataMinMax
import KE.KExcSuper
import KE.KSuper
import HandS.Small
import KE.GoesZip
import KE.GoesEnum
import KE.GoesMore
import PyProof.EnumMake
import HandS.Zip0
import HandS.IsInst
import HandS.OwnEq
import HandS.NamedTupSort
import PyProof.InstEq
import KE.KDictDisplayH
import HandS.DictComp
import KE.KItemsList
import KE.KStar
import HandS.Strs
import HandS.SetBool
import KE.KExcIs
import PyProof.ReprRoads
import PyProof.ReprLen
import PyProof.FitsInt
import HandS.HeadHook1
import HandS.HeadHook2
import HandS.HeadHook4
import HandS.HeadEnd
import HandS.EndTab
import KE.KStateDown
import Lean
import HandS.Ends
import HandS.Head0
import HandS.Head1
import HandS.Head2
import PySem.Challenge.RW_growthkinds_k43_noughts_by_hand_and_refu
set_option Elab.async false
set_option linter.all false
set_option maxRecDepth 100000
set_option maxHeartbeats 0
section
/-! RVCore: values, store, IR, denotation (plain Lean). -/
namespace RV
open PySem

/-- values: tuples and lists that nobody changes are values; obj n: the n-th object of the store -/
inductive PV where
  | non | bl (b : Bool) | int (i : Int) | str (x : Str) | tup (xs : List PV) | lst (xs : List PV) | scr (xs : List PV) | obj (n : Nat)
  deriving Inhabited

/-- what stands in the store -/
inductive SO where
  | lst (xs : List PV)
  | dct (kvs : List (PV × PV))
  | dlf (kvs : List (PV × PV))
  | ins (c : Nat) (fs : List (Nat × PV))
  deriving Inhabited

abbrev Sto := List SO
abbrev Loc := List (Option PV)

inductive Out (α : Type) where
  | ok (a : α) (S : Sto)
  | exc (c : Nat) (v : PV) (S : Sto)
  | fail

def Out.bind {α β : Type} (o : Out α) (f : α → Sto → Out β) : Out β := match o with
  | .ok a S => f a S
  | .exc c v S => .exc c v S
  | .fail => .fail
/-- what is raised here is not told on -/
def Out.bindF {α β : Type} (o : Out α) (f : α → Sto → Out β) : Out β := match o with
  | .ok a S => f a S
  | _ => .fail
def Out.of {α : Type} (o : Option α) (S : Sto) : Out α := match o with
  | some a => .ok a S
  | none => .fail

/-- frozen part, arguments, store -/
abbrev DefF := Sto → List PV → Sto → Out PV
abbrev FE := Sto → Loc → Sto → Out PV

inductive BOp where | add | sub | mul | fdiv | mod | pow
inductive COp where | eq | ne | lt | le | gt | ge | is_ | isnot | in_ | notin

/-- built-ins and built-in methods, by values -/
inductive BI where
  | len | all | any | sum | tuple | list (m : Bool) | int | min2 | min3 | max2 | minL | maxL | maxD | sorted (m : Bool) | zipStar
  | append | extend | pop | get

/-- classes for isinstance -/
inductive CS where | int | bool | str | tuple | list | cls (c : Nat)

inductive IE where
  | var (i : Nat)
  | cst (v : PV)
  | glob (x : Str) (v : PV)
  | star (e : IE)
  | tup (es : List IE)
  | lst (m : Bool) (es : List IE)
  | dct (t : Bool) (kvs : List IE)
  | bin (op : BOp) (a b : IE)
  | neg (a : IE)
  | not (a : IE)
  | cmp (op : COp) (a b : IE)
  | chain (op op' : COp) (a b c : IE)
  | and (es : List IE)
  | or (es : List IE)
  | ite (c a b : IE)
  | sub (a b : IE)
  | slc (m : Bool) (a : IE) (lo hi : Option IE)
  | rev (a : IE)
  | attr (a : IE) (f : Nat)
  | lc (m : Bool) (own : List Nat) (t it : IE) (ifs : Option IE) (elt : IE)
  | lc2 (m : Bool) (own own1 : List Nat) (t it t1 it1 : IE) (ifs : Option IE) (elt : IE)
  | srt2 (own own1 : List Nat) (t it t1 it1 elt : IE)
  | dc (tk : Bool) (own : List Nat) (t it k v : IE)
  | bi (b : BI) (es : List IE)
  | mth (b : BI) (o : IE) (es : List IE)
  | bad
  | isi (a : IE) (cs : List CS)
  | call (f : Nat) (pu : Bool) (perm : List Nat) (es : List IE)
  | new (c : Nat) (perm : List Nat) (es : List IE)
  | meth (c m f : Nat) (pu : Bool) (perm : List Nat) (o : IE) (es : List IE)
  | callG (f : Nat) (perm : List Nat) (es : List IE)
  | newG (c : Nat) (perm : List Nat) (es : List IE)
  | rng1 (a : IE)
  | rng2 (a b : IE)
  | zip2 (a b : IE)
  | enum (k : Nat) (a : IE)
  | hrd (f : Nat) (hs : List (Nat × Str)) (e : IE)
  | rne (a b : IE)
  | trng (a : IE)
  | dget (o k : IE)
  deriving Inhabited

inductive IS where
  | asg (t e : IE)
  | par (ts es : List IE)
  | expr (e : IE)
  | ret (e : IE)
  | retN
  | ite (c : IE) (a b : List IS)
  | for_ (t it : IE) (b : List IS)
  | whl (c : IE) (b : List IS)
  | raise (c : Nat) (e : IE)
  | tryR (b : List IS) (c i : Nat)
  | pass
  | bad
  deriving Inhabited

inductive Flow where | nx | ret (v : PV)

/-! ### store -/
def getS (B S : Sto) (n : Nat) : Option SO := (B ++ S)[n]?
/-- only the young part is written -/
def setS (B S : Sto) (n : Nat) (o : SO) : Option Sto := match Nat.blt n B.length with
  | true => none
  | false => match Nat.blt (n - B.length) S.length with
    | true => some (S.set (n - B.length) o)
    | false => none
def newS (B S : Sto) (o : SO) : Out PV := .ok (.obj (B.length + S.length)) (S ++ [o])

/-! ### data -/
mutual
/-- data: no object within, not too deep -/
def okP : PV → Nat → Bool
  | .non, _ => true
  | .bl _, _ => true
  | .int _, _ => true
  | .str x, _ => PyData.strOk x
  | .tup xs, d => match d with
    | 0 => false
    | d + 1 => okPs xs d
  | .lst xs, d => match d with
    | 0 => false
    | d + 1 => okPs xs d
  | .scr _, _ => false
  | .obj _, _ => false
def okPs : List PV → Nat → Bool
  | [], _ => true
  | x :: xs, d => okP x d && okPs xs d
end
def b2i : Bool → Int
  | true => 1
  | false => 0
mutual
/-- == of data -/
def eqV : PV → PV → Bool
  | .non, .non => true
  | .bl a, .bl b => a == b
  | .bl a, .int j => decide (b2i a = j)
  | .int i, .bl b => decide (i = b2i b)
  | .int i, .int j => decide (i = j)
  | .str a, .str b => decide (a = b)
  | .tup xs, .tup ys => eqVs xs ys
  | .lst xs, .lst ys => eqVs xs ys
  | _, _ => false
def eqVs : List PV → List PV → Bool
  | [], [] => true
  | x :: xs, y :: ys => eqV x y && eqVs xs ys
  | _, _ => false
end
/-- a list of the store as a value -/
def der (B S : Sto) (x : PV) : PV := match x with
  | .obj n => match getS B S n with
    | some (.lst xs) => .lst xs
    | _ => x
  | _ => x
/-- == of data, where both are data -/
def eqP (x y : PV) : Option Bool := match okP x 64 && okP y 64 with
  | true => some (eqV x y)
  | false => none
/-- the items of a list or tuple -/
def seqOf (B S : Sto) (x : PV) : Option (List PV) := match x with
  | .tup xs => some xs
  | .scr xs => some xs
  | .lst xs => some xs
  | .obj n => match getS B S n with
    | some (.lst xs) => some xs
    | _ => none
  | _ => none
/-- .. of one that nobody changes -/
def valOf (x : PV) : Option (List PV) := match x with
  | .tup xs => some xs
  | .scr xs => some xs
  | .lst xs => some xs
  | _ => none
def intsOf : List PV → Option (List Int)
  | [] => some []
  | .int i :: r => (intsOf r).map (i :: ·)
  | _ => none
def boolsOf : List PV → Option (List Bool)
  | [] => some []
  | .bl b :: r => (boolsOf r).map (b :: ·)
  | _ => none
/-! order of ints and of tuples of such: lexicographic; none where kinds differ -/
def cmpI (i j : Int) : Ordering := if i < j then .lt else if i = j then .eq else .gt
mutual
def cmp3 : PV → PV → Option Ordering
  | .int i, .int j => some (cmpI i j)
  | .tup xs, .tup ys => cmp3s xs ys
  | _, _ => none
def cmp3s : List PV → List PV → Option Ordering
  | [], [] => some .eq
  | [], _ :: _ => some .lt
  | _ :: _, [] => some .gt
  | x :: xs, y :: ys => match cmp3 x y with
    | some .eq => cmp3s xs ys
    | o => o
end
def ltP (x y : PV) : Option Bool := match cmp3 x y with
  | some .lt => some true
  | some _ => some false
  | none => none

def lim : Int := 18446744073709551616
def mulOk (i j : Int) : Bool := (decide (-lim < i) && decide (i < lim)) || (decide (-lim < j) && decide (j < lim))
def szL : Nat := 16777216
def repF (n : Nat) (xs : List PV) : List PV := match n with
  | 0 => []
  | n + 1 => xs ++ repF n xs
def binF (B S : Sto) (op : BOp) (x y : PV) : Option PV := match op, x, y with
  | .add, .int i, .int j => some (.int (i + j))
  | .sub, .int i, .int j => some (.int (i - j))
  | .mul, .int i, .int j => match mulOk i j with
    | true => some (.int (i * j))
    | false => none
  | .fdiv, .int i, .int j => match decide (0 < j) && decide (j < 1073741824) with
    | true => some (.int (i / j))
    | false => none
  | .mod, .int i, .int j => match decide (0 < j) with
    | true => some (.int (i % j))
    | false => none
  | .pow, .int i, .int j => match decide (0 ≤ j) && decide (j ≤ 1000000) && decide (-lim < i) && decide (i < lim) with
    | true => some (.int (i ^ j.toNat))
    | false => none
  | .add, .tup xs, .tup ys => match Nat.ble (xs.length + ys.length) szL with
    | true => some (.tup (xs ++ ys))
    | false => none
  | .mul, .tup xs, .int k => match decide (2 ≤ k) && decide (k ≤ 1000) && Nat.ble xs.length 1000 && Nat.blt 0 xs.length with
    | true => some (.tup (repF k.toNat xs))
    | false => none
  | .add, x, y => match der B S x, der B S y with
    | .lst xs, .lst ys => match Nat.ble (xs.length + ys.length) szL with
      | true => some (.lst (xs ++ ys))
      | false => none
    | _, _ => none
  | .mul, x, .int k => match der B S x with
    | .lst xs => match decide (0 ≤ k) && decide (k < lim / 4) && Nat.ble (xs.length * k.toNat) szL with
      | true => some (.lst (repF k.toNat xs))
      | false => none
    | _ => none
  | _, _, _ => none

def isNon : PV → Bool
  | .non => true
  | _ => false
def isB (b : Bool) : PV → Option Bool
  | .bl c => some (b == c)
  | _ => none
/-! the keys of dicts: nested tuples of numbers, texts, None (True is 1); or numbers and texts -/
mutual
def okN : PV → Nat → Bool
  | .non, _ => true
  | .bl _, _ => true
  | .int _, _ => true
  | .str _, _ => true
  | .tup xs, d => match d with
    | 0 => false
    | d + 1 => okNs xs d
  | _, _ => false
def okNs : List PV → Nat → Bool
  | [], _ => true
  | x :: xs, d => okN x d && okNs xs d
end
def keyOk (t : Bool) (k : PV) : Bool := match t with
  | true => (match k with
    | .tup _ => okN k 8
    | _ => false)
  | false => (match k with
    | .int _ => true
    | .str _ => true
    | _ => false)
def findV (k : PV) : List (PV × PV) → Option PV
  | [] => none
  | (q, v) :: r => match eqV q k with
    | true => some v
    | false => findV k r
def putV (k v : PV) : List (PV × PV) → List (PV × PV)
  | [] => [(k, v)]
  | (q, u) :: r => match eqV q k with
    | true => (q, v) :: r
    | false => (q, u) :: putV k v r
def mkD : Bool → List (PV × PV) → SO
  | true, kvs => .dct kvs
  | false, kvs => .dlf kvs
def dictOf (B S : Sto) (n : Nat) : Option (Bool × List (PV × PV)) := match getS B S n with
  | some (.dct kvs) => some (true, kvs)
  | some (.dlf kvs) => some (false, kvs)
  | _ => none
def findK (t : Bool) (k : PV) (kvs : List (PV × PV)) : Option (Option PV) := match keyOk t k with
  | true => some (findV k kvs)
  | false => none
def putK (t : Bool) (k v : PV) (kvs : List (PV × PV)) : Option (List (PV × PV)) := match keyOk t k && Nat.ble kvs.length 1000000 with
  | true => some (putV k v kvs)
  | false => none
def anyV (x : PV) : List PV → Bool
  | [] => false
  | y :: r => match eqV y x with
    | true => true
    | false => anyV x r
def inL (x : PV) (ys : List PV) : Option Bool := match okP x 64 && okPs ys 63 with
  | true => some (anyV x ys)
  | false => none
def inF (B S : Sto) (x y : PV) : Option Bool := match y with
  | .obj n => match getS B S n with
    | some (.lst ys) => inL x ys
    | some (.dct kvs) => (findK true x kvs).map Option.isSome
    | some (.dlf kvs) => (findK false x kvs).map Option.isSome
    | _ => none
  | .tup ys => inL x ys
  | .lst ys => inL x ys
  | _ => none
def lexL : List Int → List Int → Bool
  | [], [] => false
  | [], _ :: _ => true
  | _ :: _, [] => false
  | x :: xs, y :: ys => if x = y then lexL xs ys else decide (x < y)
/-- < and <= of numbers and of tuples of numbers -/
def ltI (x y : PV) : Option Bool := match x, y with
  | .int i, .int j => some (decide (i < j))
  | .tup xs, .tup ys => (match intsOf xs, intsOf ys with
    | some ns, some ms => some (lexL ns ms)
    | _, _ => none)
  | _, _ => none
def leI (x y : PV) : Option Bool := match x, y with
  | .int i, .int j => some (decide (i ≤ j))
  | .tup xs, .tup ys => (match intsOf xs, intsOf ys with
    | some ns, some ms => some (!lexL ms ns)
    | _, _ => none)
  | _, _ => none
def cmpF (B S : Sto) (op : COp) (x y : PV) : Option Bool := match op with
  | .eq => eqP (der B S x) (der B S y)
  | .ne => (eqP (der B S x) (der B S y)).map (!·)
  | .lt => ltI x y
  | .gt => (match x, y with
    | .int i, .int j => some (decide (j < i))
    | _, _ => none)
  | .le => leI x y
  | .ge => (match x, y with
    | .int i, .int j => some (decide (j ≤ i))
    | _, _ => none)
  | .is_ => match y with
    | .non => some (isNon x)
    | .bl b => isB b x
    | _ => none
  | .isnot => match y with
    | .non => some (!isNon x)
    | .bl b => (isB b x).map (!·)
    | _ => none
  | .in_ => inF B S x y
  | .notin => (inF B S x y).map (!·)

/-! ### subscripts -/
def atP (xs : List PV) (i : Int) : Option PV := match i with
  | .ofNat n => xs[n]?
  | .negSucc n => match Nat.ble (n + 1) xs.length with
    | true => xs[xs.length - (n + 1)]?
    | false => none
def atQ (xs : List PV) (y : PV) : Option PV := match y with
  | .int i => atP xs i
  | _ => none
def subF (B S : Sto) (x y : PV) : Option PV := match x with
  | .obj n => match getS B S n with
    | some (.lst xs) => atQ xs y
    | some (.dct kvs) => match findK true y kvs with
      | some (some v) => some v
      | _ => none
    | some (.dlf kvs) => match findK false y kvs with
      | some (some v) => some v
      | _ => none
    | _ => none
  | .tup xs => atQ xs y
  | .lst xs => atQ xs y
  | _ => none
/-- a slice's end -/
def clipI (len : Nat) (dflt : Nat) : Option Int → Nat
  | none => dflt
  | some i => match i with
    | .ofNat n => min n len
    | .negSucc n => len - (n + 1)
def cutP (xs : List PV) (lo hi : Option Int) : List PV :=
  (xs.drop (clipI xs.length 0 lo)).take (clipI xs.length xs.length hi - clipI xs.length 0 lo)
def slcF (B S : Sto) (x : PV) (lo hi : Option Int) : Option PV := match x with
  | .tup xs => some (.tup (cutP xs lo hi))
  | _ => match der B S x with
    | .lst xs => some (.lst (cutP xs lo hi))
    | _ => none
def revF (B S : Sto) (x : PV) : Option PV := match der B S x with
  | .lst xs => some (.lst xs.reverse)
  | _ => none
def lookN (f : Nat) : List (Nat × PV) → Option PV
  | [] => none
  | (g, v) :: r => match Nat.beq g f with
    | true => some v
    | false => lookN f r
def putN (f : Nat) (v : PV) : List (Nat × PV) → List (Nat × PV)
  | [] => [(f, v)]
  | (g, u) :: r => match Nat.beq g f with
    | true => (g, v) :: r
    | false => (g, u) :: putN f v r
def attrF (fld : Nat → List Nat) (B S : Sto) (x : PV) (f : Nat) : Option PV := match x with
  | .obj n => match getS B S n with
    | some (.ins c fs) => match (fld c).any fun g => Nat.beq g f with
      | true => lookN f fs
      | false => none
    | _ => none
  | _ => none

/-! ### sorting -/
def insP (x : PV) : List PV → Option (List PV)
  | [] => some [x]
  | y :: r => match ltP x y with
    | some true => some (x :: y :: r)
    | some false => (insP x r).map (y :: ·)
    | none => none
/-- stable: from the right each item goes ahead of its equals -/
def insL (x : PV) : List PV → Option (List PV)
  | [] => some [x]
  | y :: r => match ltP y x with
    | some true => (insL x r).map (y :: ·)
    | some false => some (x :: y :: r)
    | none => none
def sortP : List PV → Option (List PV)
  | [] => some []
  | x :: r => match sortP r with
    | some ys => insL x ys
    | none => none
def minP : PV → List PV → Option PV
  | x, [] => some x
  | x, y :: r => match ltP y x with
    | some true => minP y r
    | some false => minP x r
    | none => none
def maxP : PV → List PV → Option PV
  | x, [] => some x
  | x, y :: r => match ltP x y with
    | some true => maxP y r
    | some false => maxP x r
    | none => none
/-- rows that are tuples -/
def rowsT : List PV → Option (List (List PV))
  | [] => some []
  | x :: r => match x with
    | .tup xs => (rowsT r).map (xs :: ·)
    | _ => none
def colP (rows : List (List PV)) (j : Nat) : List PV := rows.map fun r => r.getD j .non
def colsP (rows : List (List PV)) : Nat → Nat → List PV
  | 0, _ => []
  | k + 1, j => .tup (colP rows j) :: colsP rows k (j + 1)
def sameLen (m : Nat) : List (List PV) → Bool
  | [] => true
  | r :: rs => Nat.beq r.length m && sameLen m rs
def sumI : List Int → Int
  | [] => 0
  | i :: r => i + sumI r

def mkLst (m : Bool) (B S : Sto) (xs : List PV) : Out PV := match Nat.ble xs.length szL with
  | true => match m with
    | true => newS B S (.lst xs)
    | false => .ok (.lst xs) S
  | false => .fail

def allF (B S : Sto) (x : PV) : Option Bool := match der B S x with
  | .lst xs => (boolsOf xs).map fun bs => bs.all id
  | _ => none
def anyF (B S : Sto) (x : PV) : Option Bool := match der B S x with
  | .lst xs => (boolsOf xs).map fun bs => bs.any id
  | _ => none
def sumF (B S : Sto) (x : PV) : Option Int := match seqOf B S x with
  | some xs => (intsOf xs).map sumI
  | none => none
def intF : PV → Option Int
  | .int i => some i
  | .bl true => some 1
  | .bl false => some 0
  | _ => none
def keysOf (kvs : List (PV × PV)) : List PV := kvs.map (·.1)
/-- the items of what list() and sorted() take: a dict gives its keys -/
def itemsF (B S : Sto) (x : PV) : Option (List PV) := match x with
  | .obj n => match getS B S n with
    | some (.lst xs) => some xs
    | some (.dct kvs) => some (keysOf kvs)
    | _ => none
  | .lst xs => some xs
  | .scr xs => some xs
  | _ => none
/-! what may be sorted: numbers, rows of numbers, tables of numbers -/
mutual
def sty : PV → Nat → Bool
  | .int _, d => Nat.beq d 0
  | .tup xs, d => match d with
    | 0 => false
    | d + 1 => stys xs d
  | _, _ => false
def stys : List PV → Nat → Bool
  | [], _ => true
  | x :: xs, d => sty x d && stys xs d
end
def neT : PV → Bool
  | .tup (_ :: _) => true
  | _ => false
def emT : PV → Bool
  | .tup [] => true
  | _ => false
/-- some row is empty, not the first -/
def mixT : List PV → Bool
  | x :: r => neT x && r.any emT
  | [] => false
def styF (xs : List PV) : Bool := stys xs 0 || (stys xs 1 && xs.all neT) || (stys xs 2 && xs.all neT) || (stys xs 1 && mixT xs)
def sortF (B S : Sto) (x : PV) : Option (List PV) := match itemsF B S x with
  | some xs => match styF xs with
    | true => sortP xs
    | false => none
  | none => none
def maxF (B S : Sto) (x d : PV) : Option PV := match der B S x with
  | .lst xs => match intsOf xs with
    | some [] => some d
    | some (n :: ns) => some (.int (ns.foldl max n))
    | none => none
  | _ => none
def zipC (rows : List (List PV)) : Option (List PV) := match rows with
  | [] => none
  | r :: rs => match sameLen r.length (r :: rs) && Nat.ble (r :: rs).length 4 && Nat.blt 0 r.length && Nat.ble r.length szL with
    | true => some (colsP (r :: rs) r.length 0)
    | false => none
def zipF (B S : Sto) (x : PV) : Option (List PV) := match seqOf B S x with
  | some xs => match rowsT xs with
    | some rows => zipC rows
    | none => none
  | none => none
def appF (B S : Sto) (n : Nat) (v : PV) : Option Sto := match getS B S n with
  | some (.lst xs) => match Nat.blt xs.length szL with
    | true => setS B S n (.lst (xs ++ [v]))
    | false => none
  | _ => none
def extF (B S : Sto) (n : Nat) (v : PV) : Option Sto := match getS B S n with
  | some (.lst xs) => match der B S v with
    | .lst ys => match Nat.ble (xs.length + ys.length) szL with
      | true => setS B S n (.lst (xs ++ ys))
      | false => none
    | _ => none
  | _ => none
def popF (B S : Sto) (n : Nat) : Option (PV × Sto) := match getS B S n with
  | some (.lst xs) => match xs[xs.length - 1]? with
    | some v => (setS B S n (.lst xs.dropLast)).map fun S' => (v, S')
    | none => none
  | _ => none
def biF (B S : Sto) (b : BI) (vs : List PV) : Out PV := match b, vs with
  | .len, [x] => Out.of ((seqOf B S x).map fun xs => .int xs.length) S
  | .all, [x] => Out.of ((allF B S x).map .bl) S
  | .any, [x] => Out.of ((anyF B S x).map .bl) S
  | .sum, [x] => Out.of ((sumF B S x).map .int) S
  | .tuple, [x] => Out.of ((seqOf B S x).map .tup) S
  | .list m, [x] => match itemsF B S x with
    | some xs => mkLst m B S xs
    | none => .fail
  | .int, [x] => Out.of ((intF x).map .int) S
  | .min2, [.int i, .int j] => .ok (.int (if j < i then j else i)) S
  | .max2, [.int i, .int j] => .ok (.int (if j > i then j else i)) S
  | .min3, [.int i, .int j, .int k] => .ok (.int (if j < i then (if k < j then k else j) else (if k < i then k else i))) S
  | .maxD, [x, d] => Out.of (maxF B S x d) S
  | .sorted m, [x] => match sortF B S x with
    | some xs => mkLst m B S xs
    | none => .fail
  | .zipStar, [x] => Out.of ((zipF B S x).map .lst) S
  | .append, [.obj n, v] => match appF B S n v with
    | some S' => .ok .non S'
    | none => .fail
  | .extend, [.obj n, v] => match extF B S n v with
    | some S' => .ok .non S'
    | none => .fail
  | .pop, [.obj n] => match popF B S n with
    | some (v, S') => .ok v S'
    | none => .fail
  | .get, [.obj n, k] => match dictOf B S n with
    | some (t, kvs) => match findK t k kvs with
      | some (some v) => .ok v S
      | some none => .ok .non S
      | none => .fail
    | _ => .fail
  | _, _ => .fail

/-- what stands ahead of a method's name -/
def recvOk (B S : Sto) (b : BI) (x : PV) : Bool := match b, x with
  | .append, .obj n => (match getS B S n with | some (.lst _) => true | _ => false)
  | .extend, .obj n => (match getS B S n with | some (.lst _) => true | _ => false)
  | .pop, .obj n => (match getS B S n with | some (.lst _) => true | _ => false)
  | _, _ => false
/-! ### isinstance -/
/-- kinds: None, bool, int, str, tuple, list, dict -/
def tyK (B S : Sto) (x : PV) : Option Nat := match x with
  | .non => some 0
  | .bl _ => some 1
  | .int _ => some 2
  | .str _ => some 3
  | .tup _ => some 4
  | .lst _ => some 5
  | .scr _ => some 5
  | .obj n => match getS B S n with
    | some (.lst _) => some 5
    | some (.dlf _) => some 6
    | _ => none
def csK : CS → Option Nat
  | .bool => some 1
  | .int => some 2
  | .str => some 3
  | .tuple => some 4
  | .list => some 5
  | .cls _ => none
def kitT (a b : Nat) : Bool := Nat.beq a b || (Nat.beq a 1 && Nat.beq b 2)
def isi1 (B S : Sto) (x : PV) (c : CS) : Option Bool := match c with
  | .cls d => (match x with
    | .obj n => match getS B S n with
      | some (.ins e _) => (match Nat.beq e d with
        | true => some true
        | false => none)
      | _ => none
    | _ => none)
  | c => match csK c with
    | some b => match tyK B S x with
      | some a => some (kitT a b)
      | none => none
    | none => none
def isiF (B S : Sto) (x : PV) : List CS → Option Bool
  | [] => some false
  | c :: r => match isi1 B S x c with
    | some true => some true
    | some false => isiF B S x r
    | none => none

/-! ### targets -/
def setL (ρ : Loc) (i : Nat) (v : PV) : Option Loc := match Nat.blt i ρ.length with
  | true => some (ρ.set i (some v))
  | false => none
def wipeL (ρ : Loc) : List Nat → Loc
  | [] => ρ
  | i :: r => (wipeL ρ r).set i none
/-! plain targets: names and tuples of such -/
mutual
def tgt : IE → PV → Loc → Option Loc
  | .var i, v, ρ => setL ρ i v
  | .tup ts, v, ρ => match v with
    | .tup xs => tgts ts xs ρ
    | _ => none
  | _, _, _ => none
def tgts : List IE → List PV → Loc → Option Loc
  | [], [], ρ => some ρ
  | t :: ts, x :: xs, ρ => match tgt t x ρ with
    | some ρ' => tgts ts xs ρ'
    | none => none
  | _, _, _ => none
end

/-! ### loops -/
/-- over items that stand still; halt: the loop is left -/
def loopV {α : Type} (halt : α → Bool) (turn : PV → α → Sto → Out α) : List PV → α → Sto → Out α
  | [], a, S => .ok a S
  | x :: xs, a, S => match turn x a S with
    | .ok a' S' => match halt a' with
      | true => .ok a' S'
      | false => loopV halt turn xs a' S'
    | .exc c v S' => .exc c v S'
    | .fail => .fail
/-- over a list of the store, as it stands at each turn -/
def loopL {α : Type} (B : Sto) (n : Nat) (halt : α → Bool) (turn : PV → α → Sto → Out α) : Nat → Nat → α → Sto → Out α
  | 0, _, _, _ => .fail
  | k + 1, i, a, S => match getS B S n with
    | some (.lst xs) => match xs[i]? with
      | none => .ok a S
      | some x => match turn x a S with
        | .ok a' S' => match halt a' with
          | true => .ok a' S'
          | false => loopL B n halt turn k (i + 1) a' S'
        | .exc c v S' => .exc c v S'
        | .fail => .fail
    | _ => .fail
def loop {α : Type} (B : Sto) (halt : α → Bool) (turn : PV → α → Sto → Out α) (src : PV) (a : α) (S : Sto) : Out α := match src with
  | .tup xs => loopV halt turn xs a S
  | .lst xs => loopV halt turn xs a S
  | .scr xs => loopV halt turn xs a S
  | .obj n => match getS B S n with
    | some (.lst xs) => loopL B n halt turn (xs.length + 1) 0 a S
    | _ => .fail
  | _ => .fail
def never {α : Type} (_ : α) : Bool := false
def accF (v : PV) (acc : List PV) (S : Sto) : Out (List PV) := match Nat.blt acc.length szL with
  | true => .ok (v :: acc) S
  | false => .fail
/-- numbers that are gathered, each once -/
def memI (acc : List Int) (k : Int) : Bool := acc.any fun j => decide (j = k)
def addI (v : PV) (acc : List Int) (S : Sto) : Out (List Int) := match v with
  | .int i => match memI acc i with
    | true => .ok acc S
    | false => match Nat.blt acc.length 60 with
      | true => .ok (i :: acc) S
      | false => .fail
  | _ => .fail
def insI (x : Int) : List Int → List Int
  | [] => [x]
  | y :: r => match decide (x ≤ y) with
    | true => x :: y :: r
    | false => y :: insI x r
def sortI : List Int → List Int
  | [] => []
  | x :: r => insI x (sortI r)
def listI (acc : List Int) : PV := .lst ((sortI acc).map .int)
def rngI : Nat → Int → List PV
  | 0, _ => []
  | n + 1, i => .int i :: rngI n (i + 1)
def zipP : List PV → List PV → List PV
  | x :: xs, y :: ys => .tup [x, y] :: zipP xs ys
  | _, _ => []
def enumP : Int → List PV → List PV
  | _, [] => []
  | i, x :: xs => .tup [.int i, x] :: enumP (i + 1) xs

/-! what a function reaches: no object younger than n -/
mutual
def below (n : Nat) : PV → Bool
  | .obj k => Nat.blt k n
  | .tup xs => belowL n xs
  | .lst xs => belowL n xs
  | .scr xs => belowL n xs
  | _ => true
def belowL (n : Nat) : List PV → Bool
  | [] => true
  | x :: r => below n x && belowL n r
end
/-! ### repr: data, with empty dicts among them -/
mutual
def rdP (B S : Sto) : PV → Option PyData
  | .non => some .none
  | .bl b => some (.bool b)
  | .int i => some (.int i)
  | .str x => some (.str x)
  | .tup xs => (rdPs B S xs).map .tuple
  | .lst xs => (rdPs B S xs).map .list
  | .scr _ => none
  | .obj n => match getS B S n with
    | some (.dlf []) => some (.dict [])
    | _ => none
def rdPs (B S : Sto) : List PV → Option (List PyData)
  | [] => some []
  | x :: xs => match rdP B S x with
    | some d => (rdPs B S xs).map (d :: ·)
    | none => none
end
mutual
/-- short leaves; l: whether lists may stand -/
def shD (l : Bool) : PyData → Nat → Bool
  | .none, _ => true
  | .bool _, _ => true
  | .int i, _ => Nat.blt i.natAbs 10000000000000000000000000000000000000000
  | .str x, _ => x.cps.toList.all fun c => Nat.blt c 4294967296
  | .tuple xs, d => match d with
    | 0 => false
    | d + 1 => shDs l xs d
  | .list xs, d => l && (match d with
    | 0 => false
    | d + 1 => shDs l xs d)
  | .dict kvs, d => !l && kvs.isEmpty && Nat.blt 0 d
def shDs (l : Bool) : List PyData → Nat → Bool
  | [], _ => true
  | x :: xs, d => shD l x d && shDs l xs d
end
mutual
def wtD : PyData → Nat
  | .none => 0
  | .bool _ => 0
  | .int _ => 140
  | .str x => x.cps.size
  | .tuple xs => wtDs xs
  | .list xs => wtDs xs
  | .dict _ => 0
def wtDs : List PyData → Nat
  | [] => 0
  | x :: xs => wtD x + 1 + wtDs xs
end
mutual
def sameD : PyData → PyData → Bool
  | .none, e => (match e with | .none => true | _ => false)
  | .bool b, e => (match e with | .bool c => b == c | _ => false)
  | .int i, e => (match e with | .int j => decide (i = j) | _ => false)
  | .str x, e => (match e with | .str y => decide (x = y) | _ => false)
  | .tuple xs, e => (match e with | .tuple ys => sameDs xs ys | _ => false)
  | .list xs, e => (match e with | .list ys => sameDs xs ys | _ => false)
  | .dict kvs, e => kvs.isEmpty && (match e with | .dict [] => true | _ => false)
def sameDs : List PyData → List PyData → Bool
  | [], e => e.isEmpty
  | x :: xs, e => (match e with | y :: ys => sameD x y && sameDs xs ys | [] => false)
end
def topD : PyData → Bool
  | .tuple _ => true
  | .list _ => true
  | _ => false
def rdO (B S : Sto) (x : PV) : Option PyData := match rdP B S x with
  | some d => match topD d && (shD true d 60 || shD false d 60) && Nat.ble (wtD d) 300000 with
    | true => some d
    | false => none
  | none => none
def lookC (c : Nat) : List (Nat × Str) → Option Str
  | [] => none
  | (d, w) :: r => match Nat.beq d c with
    | true => some w
    | false => lookC c r
/-- what a call that is heard tells -/
def hrdF (hs : List (Nat × Str)) (f : FE) : FE := fun B ρ S => match f B ρ S with
  | .ok v S' => .ok (.lst [v]) S'
  | .exc c v S' => match lookC c hs with
    | some w => .ok (.tup [.str w, v]) S'
    | none => .fail
  | .fail => .fail
/-- tuple(range(n)) -/
def trngF (x : PV) (S : Sto) : Out PV := match x with
  | .int j => match decide (0 ≤ j) && decide (j ≤ 16777216) with
    | true => .ok (.tup (rngI j.toNat 0)) S
    | false => .fail
  | _ => .fail
def recvD (B S : Sto) (x : PV) : Bool := match x with
  | .obj n => (match getS B S n with
    | some (.dct _) => true
    | _ => false)
  | _ => false
/-- d.get(k), the keys tuples -/
def dgetF (B S : Sto) (x y : PV) : Option PV := match x with
  | .obj n => match getS B S n with
    | some (.dct kvs) => match findK true y kvs with
      | some (some v) => some v
      | some none => some .non
      | none => none
    | _ => none
  | _ => none
def permF (perm : List Nat) (vs : List PV) : Option (List PV) := match perm with
  | [] => some vs
  | i :: r => match vs[i]? with
    | some v => match r with
      | [] => some [v]
      | _ => (permF r vs).map (v :: ·)
    | none => none
/-- what is handed back by a call whose own objects go: a list is a value from then on -/
def frzF (n : Nat) (S : Sto) (v : PV) : Option PV := match below n v with
  | true => some v
  | false => match v with
    | .obj k => match S[k - n]? with
      | some (.lst xs) => match belowL n xs with
        | true => some (.lst xs)
        | false => none
      | _ => none
    | _ => none
def belowF (n : Nat) : List (Nat × PV) → Bool
  | [] => true
  | (_, p) :: r => below n p && belowF n r
def belowD (n : Nat) : List (PV × PV) → Bool
  | [] => true
  | (k, p) :: r => below n k && below n p && belowD n r
def belowK (n : Nat) : List (PV × PV) → Bool
  | [] => true
  | (_, p) :: r => below n p && belowK n r
def belowO (n : Nat) : SO → Bool
  | .lst xs => belowL n xs
  | .ins _ fs => belowF n fs
  | .dct kvs => belowD n kvs
  | .dlf kvs => belowK n kvs
/-! ### calls that see what they are handed alone -/
def idxN (n : Nat) : List Nat → Nat → Option Nat
  | [], _ => none
  | m :: r, i => match Nat.beq m n with
    | true => some i
    | false => idxN n r (i + 1)
/-- the handed values over the objects that they name, and which objects these are; no object within an object -/
def selA (T : Sto) : List PV → List Nat → Option (List PV × List Nat)
  | [], acc => some ([], acc)
  | v :: r, acc => match v with
    | .obj n => match idxN n acc 0 with
      | some i => (selA T r acc).map fun p => (.obj i :: p.1, p.2)
      | none => match T[n]? with
        | some o => match belowO 0 o with
          | true => (selA T r (acc ++ [n])).map fun p => (.obj acc.length :: p.1, p.2)
          | false => none
        | none => none
    | v => match below 0 v with
      | true => (selA T r acc).map fun p => (v :: p.1, p.2)
      | false => none
def pickT (T : Sto) : List Nat → Option Sto
  | [] => some []
  | n :: r => match T[n]? with
    | some o => (pickT T r).map (o :: ·)
    | none => none
def gcEnd (S : Sto) : Out PV → Out PV
  | .ok v _ => match below 0 v with
    | true => .ok v S
    | false => .fail
  | .exc c v _ => match below 0 v with
    | true => .exc c v S
    | false => .fail
  | .fail => .fail
def gcD (F : DefF) : DefF := fun B vs S => match selA (B ++ S) vs [] with
  | some (ws, sel) => match pickT (B ++ S) sel with
    | some T => gcEnd S (F T ws [])
    | none => .fail
  | none => .fail
/-- __init__ of a new object, the last of the store -/
def gcSt (B S : Sto) (n : Nat) (S1 : Sto) : Option Sto := match S1 with
  | [so] => match belowO 0 so with
    | true => setS B S n so
    | false => none
  | _ => none
def gcIe (B S : Sto) (n : Nat) : Out PV → Out PV
  | .ok v S1 => match v with
    | .non => match gcSt B S n S1 with
      | some S' => .ok .non S'
      | none => .fail
    | _ => .fail
  | .exc c v S1 => match below 0 v with
    | true => match gcSt B S n S1 with
      | some S' => .exc c v S'
      | none => .fail
    | false => .fail
  | .fail => .fail
def gcI (F : DefF) : DefF := fun B vs S => match vs with
  | .obj n :: vs' => match (B ++ S)[n]? with
    | some o => match belowO 0 o with
      | true => match selA (B ++ S) vs' [] with
        | some (ws, sel) => match idxN n sel 0 with
          | none => match pickT (B ++ S) sel with
            | some T => gcIe B S n (F T (.obj T.length :: ws) [o])
            | none => .fail
          | some _ => .fail
        | none => .fail
      | false => .fail
    | none => .fail
  | _ => .fail
def callF (F : DefF) (pu : Bool) (B S : Sto) (vs : List PV) : Out PV := match pu with
  | false => F B vs S
  | true => match F (B ++ S) vs [] with
    | .ok v S' => Out.of (frzF (B.length + S.length) S' v) S
    | .exc c v S' => match below (B.length + S.length) v with
      | true => .exc c v S
      | false => .fail
    | .fail => .fail

def boolO : Out PV → Out Bool
  | .ok (.bl b) S => .ok b S
  | _ => .fail
def notO : Out Bool → Out Bool
  | .ok b S => .ok (!b) S
  | _ => .fail
/-- the program: per class the id of __init__, ancestors -/
structure Cfg where
  ini : Nat → Option Nat
  anc : Nat → List Nat
  eqm : Nat → Option Nat
  fld : Nat → List Nat

def isStar : IE → Bool
  | .star _ => true
  | _ => false
section
variable (C : Cfg) (Φ : Nat → DefF)
/-- == that may go to an own __eq__ -/
def ownEq (B S : Sto) (x y : PV) : Option Nat := match x with
  | .obj n => match getS B S n with
    | some (.ins c _) => match y with
      | .obj m => (match getS B S m with
        | some (.ins d _) => (match Nat.beq c d with
          | true => some c
          | false => none)
        | _ => none)
      | _ => none
    | _ => none
  | _ => none
def ownF (c : Nat) (B S : Sto) (x y : PV) : Out Bool := match C.eqm c with
  | some f => boolO (callF (Φ f) true B S [x, y])
  | none => .fail
def eqF (B S : Sto) (x y : PV) : Out Bool := match ownEq B S x y with
  | some c => ownF C Φ c B S x y
  | none => Out.of (eqP (der B S x) (der B S y)) S
def neF (B S : Sto) (x y : PV) : Out Bool := match ownEq B S x y with
  | some c => notO (ownF C Φ c B S x y)
  | none => Out.of ((eqP (der B S x) (der B S y)).map (!·)) S
def cmpO (B S : Sto) (op : COp) (x y : PV) : Out Bool := match op with
  | .eq => eqF C Φ B S x y
  | .ne => neF C Φ B S x y
  | op => Out.of (cmpF B S op x y) S

mutual
def den : IE → FE
  | .var i => fun _ ρ S => match ρ[i]? with
    | some (some v) => .ok v S
    | _ => .fail
  | .cst v => fun _ _ S => .ok v S
  | .glob _ v => fun _ _ S => .ok v S
  | .star e => fun B ρ S => den e B ρ S
  | .tup es => fun B ρ S => (denA es B ρ S).bind fun vs S => match Nat.ble vs.length szL with
    | true => .ok (.tup vs) S
    | false => .fail
  | .lst m es => fun B ρ S => (denA es B ρ S).bind fun vs S => mkLst m B S vs
  | .dct t kvs => fun B ρ S => (denD t kvs [] B ρ S).bind fun kvs S => newS B S (mkD t kvs)
  | .bin op a b => fun B ρ S => (den a B ρ S).bind fun x S => (den b B ρ S).bind fun y S => Out.of (binF B S op x y) S
  | .neg a => fun B ρ S => (den a B ρ S).bind fun x S => match x with
    | .int i => .ok (.int (-i)) S
    | _ => .fail
  | .not a => fun B ρ S => (den a B ρ S).bind fun x S => match x with
    | .bl b => .ok (.bl (!b)) S
    | _ => .fail
  | .cmp op a b => fun B ρ S => (den a B ρ S).bind fun x S => (den b B ρ S).bind fun y S => (cmpO C Φ B S op x y).bind fun b S => .ok (.bl b) S
  | .chain op op' a b c => fun B ρ S => (den a B ρ S).bind fun x S => (den b B ρ S).bind fun y S => match cmpF B S op x y with
    | some true => (den c B ρ S).bind fun z S => Out.of ((cmpF B S op' y z).map .bl) S
    | some false => .ok (.bl false) S
    | none => .fail
  | .and es => fun B ρ S => denAnd es B ρ S
  | .or es => fun B ρ S => denOr es B ρ S
  | .ite c a b => fun B ρ S => (den c B ρ S).bind fun x S => match x with
    | .bl true => den a B ρ S
    | .bl false => den b B ρ S
    | _ => .fail
  | .sub a b => fun B ρ S => (den a B ρ S).bind fun x S => (den b B ρ S).bind fun y S => Out.of (subF B S x y) S
  | .slc m a lo hi => fun B ρ S => (den a B ρ S).bind fun x S => (denO lo B ρ S).bind fun l S => (denO hi B ρ S).bind fun h S => match m with
    | false => Out.of (slcF B S x l h) S
    | true => match slcF B S x l h with
      | some (.lst xs) => newS B S (.lst xs)
      | _ => .fail
  | .rev a => fun B ρ S => (den a B ρ S).bind fun x S => Out.of (revF B S x) S
  | .attr a f => fun B ρ S => (den a B ρ S).bind fun x S => Out.of (attrF C.fld B S x f) S
  | .lc m own t it ifs elt => fun B ρ S => (den it B ρ S).bind fun src S => (loop B never (fun x acc S => match tgt t x (wipeL ρ own) with
      | some ρ' => (denT ifs B ρ' S).bindF fun b S => match b with
        | true => (den elt B ρ' S).bindF fun v S => accF v acc S
        | false => .ok acc S
      | none => .fail) src [] S).bindF fun ys S => mkLst m B S ys.reverse
  | .lc2 m own own1 t it t1 it1 ifs elt => fun B ρ S => (den it B ρ S).bind fun src S => (loop B never (fun x acc S => match tgt t x (wipeL ρ own) with
      | some ρ' => (den it1 B ρ' S).bindF fun src1 S => loop B never (fun x acc S => match tgt t1 x (wipeL ρ' own1) with
        | some ρ'' => (denT ifs B ρ'' S).bindF fun b S => match b with
          | true => (den elt B ρ'' S).bindF fun v S => accF v acc S
          | false => .ok acc S
        | none => .fail) src1 acc S
      | none => .fail) src [] S).bindF fun ys S => mkLst m B S ys.reverse
  | .srt2 own own1 t it t1 it1 elt => fun B ρ S => (den it B ρ S).bind fun src S => (loop B never (fun x acc S => match tgt t x (wipeL ρ own) with
      | some ρ' => (den it1 B ρ' S).bindF fun src1 S => loop B never (fun x acc S => match tgt t1 x (wipeL ρ' own1) with
        | some ρ'' => (den elt B ρ'' S).bindF fun v S => addI v acc S
        | none => .fail) src1 acc S
      | none => .fail) src [] S).bindF fun acc S => .ok (listI acc) S
  | .dc tk own t it k v => fun B ρ S => (den it B ρ S).bind fun src S => (loop B never (fun x acc S => match tgt t x (wipeL ρ own) with
      | some ρ' => (den k B ρ' S).bindF fun kk S => (den v B ρ' S).bindF fun vv S => Out.of (putK tk kk vv acc) S
      | none => .fail) src [] S).bindF fun kvs S => newS B S (mkD tk kvs)
  | .bi b es => fun B ρ S => (denA es B ρ S).bind fun vs S => biF B S b vs
  | .mth b o es => fun B ρ S => (den o B ρ S).bind fun x S => match recvOk B S b x with
    | true => (denA es B ρ S).bind fun vs S => biF B S b (x :: vs)
    | false => .fail
  | .bad => fun _ _ _ => .fail
  | .isi a cs => fun B ρ S => (den a B ρ S).bind fun x S => Out.of ((isiF B S x cs).map .bl) S
  | .call f pu perm es => fun B ρ S => (denA es B ρ S).bind fun vs S => match permF perm vs with
    | some ws => callF (Φ f) pu B S ws
    | none => .fail
  | .new c perm es => fun B ρ S => (denA es B ρ S).bind fun vs S => match permF perm vs with
    | some ws => match C.ini c with
      | some f => (Φ f B (.obj (B.length + S.length) :: ws) (S ++ [.ins c []])).bind fun v S' => match v with
        | .non => .ok (.obj (B.length + S.length)) S'
        | _ => .fail
      | none => .fail
    | none => .fail
  | .meth c _ f pu perm o es => fun B ρ S => (den o B ρ S).bind fun x S => match x with
    | .obj n => match getS B S n with
      | some (.ins d _) => match Nat.beq c d with
        | true => (denA es B ρ S).bind fun vs S => match permF perm vs with
          | some ws => callF (Φ f) pu B S (.obj n :: ws)
          | none => .fail
        | false => .fail
      | _ => .fail
    | _ => .fail
  | .callG f perm es => fun B ρ S => (denA es B ρ S).bind fun vs S => match permF perm vs with
    | some ws => callF (gcD (Φ f)) false B S ws
    | none => .fail
  | .newG c perm es => fun B ρ S => (denA es B ρ S).bind fun vs S => match permF perm vs with
    | some ws => match C.ini c with
      | some f => (gcI (Φ f) B (.obj (B.length + S.length) :: ws) (S ++ [.ins c []])).bind fun v S' => match v with
        | .non => .ok (.obj (B.length + S.length)) S'
        | _ => .fail
      | none => .fail
    | none => .fail
  | .rng1 a => fun B ρ S => (den a B ρ S).bind fun x S => match x with
    | .int j => match decide (-(lim / 4) ≤ j) && decide (j < lim / 4) with
      | true => .ok (.lst (rngI j.toNat 0)) S
      | false => .fail
    | _ => .fail
  | .rng2 a b => fun B ρ S => (den a B ρ S).bind fun x S => (den b B ρ S).bind fun y S => match x, y with
    | .int i, .int j => match decide (-(lim / 4) ≤ i) && decide (i < lim / 4) && decide (-(lim / 4) ≤ j) && decide (j < lim / 4) with
      | true => .ok (.lst (rngI (j - i).toNat i)) S
      | false => .fail
    | _, _ => .fail
  | .zip2 a b => fun B ρ S => (den a B ρ S).bind fun x S => (den b B ρ S).bind fun y S => match valOf x with
    | some xs => match valOf y with
      | some ys => .ok (.lst (zipP xs ys)) S
      | none => .fail
    | none => .fail
  | .enum k a => fun B ρ S => (den a B ρ S).bind fun x S => match valOf x with
    | some xs => .ok (.lst (enumP k xs)) S
    | none => .fail
  | .trng a => fun B ρ S => (den a B ρ S).bind fun x S => trngF x S
  | .dget o k => fun B ρ S => (den o B ρ S).bind fun x S => match recvD B S x with
    | true => (den k B ρ S).bind fun y S => Out.of (dgetF B S x y) S
    | false => .fail
  | .hrd _ hs e => hrdF hs fun B ρ S => den e B ρ S
  | .rne a b => fun B ρ S => (den a B ρ S).bind fun x S => match rdO B S x with
    | some d => (den b B ρ S).bind fun y S => match rdO B S y with
      | some e => (match sameD d e with
        | true => .ok (.bl false) S
        | false => .fail)
      | none => .fail
    | none => .fail
def denO : Option IE → Sto → Loc → Sto → Out (Option Int)
  | none => fun _ _ S => .ok none S
  | some e => fun B ρ S => (den e B ρ S).bind fun x S => match x with
    | .int i => .ok (some i) S
    | _ => .fail
def denA : List IE → Sto → Loc → Sto → Out (List PV)
  | [] => fun _ _ S => .ok [] S
  | e :: es => fun B ρ S => (den e B ρ S).bind fun x S => match isStar e with
    | true => match seqOf B S x with
      | some xs => (denA es B ρ S).bind fun vs S => .ok (xs ++ vs) S
      | none => .fail
    | false => (denA es B ρ S).bind fun vs S => .ok (x :: vs) S
def denD (t : Bool) : List IE → List (PV × PV) → Sto → Loc → Sto → Out (List (PV × PV))
  | [] => fun acc _ _ S => .ok acc S
  | [_] => fun _ _ _ _ => .fail
  | k :: v :: r => fun acc B ρ S => (den k B ρ S).bind fun kk S => (den v B ρ S).bind fun vv S => match putK t kk vv acc with
    | some acc' => denD t r acc' B ρ S
    | none => .fail
def denT : Option IE → Sto → Loc → Sto → Out Bool
  | none => fun _ _ S => .ok true S
  | some c => fun B ρ S => (den c B ρ S).bind fun x S => match x with
    | .bl b => .ok b S
    | _ => .fail
def denAnd : List IE → FE
  | [] => fun _ _ _ => .fail
  | [e] => fun B ρ S => den e B ρ S
  | e :: es => fun B ρ S => (den e B ρ S).bind fun x S => match x with
    | .bl true => denAnd es B ρ S
    | .bl false => .ok (.bl false) S
    | _ => .fail
def denOr : List IE → FE
  | [] => fun _ _ _ => .fail
  | [e] => fun B ρ S => den e B ρ S
  | e :: es => fun B ρ S => (den e B ρ S).bind fun x S => match x with
    | .bl true => .ok (.bl true) S
    | .bl false => denOr es B ρ S
    | _ => .fail
end
/-! ### statements -/
/-- a while's turns, at most so many -/
def whileF (c : Loc → Sto → Out Bool) (b : Loc → Sto → Out (Loc × Flow)) : Nat → Loc → Sto → Out (Loc × Flow)
  | 0, _, _ => .fail
  | k + 1, ρ, S => (c ρ S).bind fun t S => match t with
    | false => .ok (ρ, .nx) S
    | true => (b ρ S).bind fun r S => match r.2 with
      | .nx => whileF c b k r.1 S
      | .ret v => .ok (r.1, .ret v) S
def isRet (r : Loc × Flow) : Bool := match r.2 with
  | .nx => false
  | .ret _ => true
def WF : Nat := 100000
/-- a target of an assignment -/
def asgT (t : IE) (v : PV) (B : Sto) (ρ : Loc) (S : Sto) : Out Loc := match t with
  | .sub o i => (den C Φ o B ρ S).bind fun x S => (den C Φ i B ρ S).bind fun y S => match x with
    | .obj n => match getS B S n with
      | some (.lst xs) => match y with
        | .int (.ofNat k) => match Nat.blt k xs.length with
          | true => match setS B S n (.lst (xs.set k v)) with
            | some S' => .ok ρ S'
            | none => .fail
          | false => .fail
        | _ => .fail
      | some (.dct kvs) => match putK true y v kvs with
        | some kvs' => match setS B S n (.dct kvs') with
          | some S' => .ok ρ S'
          | none => .fail
        | none => .fail
      | some (.dlf kvs) => match putK false y v kvs with
        | some kvs' => match setS B S n (.dlf kvs') with
          | some S' => .ok ρ S'
          | none => .fail
        | none => .fail
      | _ => .fail
    | _ => .fail
  | .attr o f => (den C Φ o B ρ S).bind fun x S => match x with
    | .obj n => match getS B S n with
      | some (.ins c fs) => match (C.fld c).any (fun g => Nat.beq g f) && Nat.ble fs.length 900 with
        | true => match setS B S n (.ins c (putN f v fs)) with
          | some S' => .ok ρ S'
          | none => .fail
        | false => .fail
      | _ => .fail
    | _ => .fail
  | t => Out.of (tgt t v ρ) S
mutual
def denS : IS → Sto → Loc → Sto → Out (Loc × Flow)
  | .asg t e => fun B ρ S => (den C Φ e B ρ S).bind fun v S => (asgT C Φ t v B ρ S).bind fun ρ' S => .ok (ρ', .nx) S
  | .par ts es => fun B ρ S => (denA C Φ es B ρ S).bind fun vs S => (Out.of (tgts ts vs ρ) S).bind fun ρ' S => .ok (ρ', .nx) S
  | .expr e => fun B ρ S => (den C Φ e B ρ S).bind fun _ S => .ok (ρ, .nx) S
  | .ret e => fun B ρ S => (den C Φ e B ρ S).bind fun v S => .ok (ρ, .ret v) S
  | .retN => fun _ ρ S => .ok (ρ, .ret .non) S
  | .ite c a b => fun B ρ S => (den C Φ c B ρ S).bind fun x S => match x with
    | .bl true => denB a B ρ S
    | .bl false => denB b B ρ S
    | _ => .fail
  | .for_ t it b => fun B ρ S => (den C Φ it B ρ S).bind fun src S => loop B isRet (fun x r S => match tgt t x r.1 with
      | some ρ' => denB b B ρ' S
      | none => .fail) src (ρ, .nx) S
  | .whl c b => fun B ρ S => whileF (fun ρ S => (den C Φ c B ρ S).bind fun x S => match x with
      | .bl t => .ok t S
      | _ => .fail) (fun ρ S => denB b B ρ S) WF ρ S
  | .raise c e => fun B ρ S => (den C Φ e B ρ S).bind fun v S => .exc c v S
  | .tryR b c _ => fun B ρ S => match denB b B ρ S with
    | .ok r S' => .ok r S'
    | .exc c' v S' => match Nat.beq c' c with
      | true => .ok (ρ, .ret v) S'
      | false => .fail
    | .fail => .fail
  | .pass => fun _ ρ S => .ok (ρ, .nx) S
  | .bad => fun _ _ _ => .fail
def denB : List IS → Sto → Loc → Sto → Out (Loc × Flow)
  | [] => fun _ ρ S => .ok (ρ, .nx) S
  | s :: r => fun B ρ S => (denS s B ρ S).bind fun x S => match x.2 with
    | .nx => denB r B x.1 S
    | .ret v => .ok (x.1, .ret v) S
end
end
/-- a def of the program: how many names, parameters, body -/
structure Def where
  nm : Nat
  ps : Nat
  body : List IS
def runDef (C : Cfg) (Φ : Nat → DefF) (d : Def) : DefF := fun B vs S => match Nat.beq vs.length d.ps with
  | true => (denB C Φ d.body B (vs.map some ++ List.replicate (d.nm - d.ps) none) S).bind fun r S => match r.2 with
    | .nx => .ok .non S
    | .ret v => .ok v S
  | false => .fail
/-- the defs by their numbers, to a depth of calls -/
def Phi (C : Cfg) (T : Nat → Option Def) : Nat → Nat → DefF
  | 0, _ => fun _ _ _ => .fail
  | d + 1, f => match T f with
    | some df => runDef C (Phi C T d) df
    | none => fun _ _ _ => .fail
example (C : Cfg) (Φ : Nat → DefF) (a b : IE) (B : Sto) (ρ : Loc) (S : Sto) : den C Φ (.and [a, b]) B ρ S = (den C Φ a B ρ S).bind fun x S => match x with
    | .bl true => den C Φ b B ρ S
    | .bl false => .ok (.bl false) S
    | _ => .fail := rfl
end RV
end
section
/-! RVEv: the denotation, step by step (plain Lean). -/
namespace RV
open PySem
section
variable {C : Cfg} {Φ : Nat → DefF} {B S S1 S2 S3 : Sto} {ρ ρ1 : Loc} {a b c : IE} {x y v : PV} {es : List IE} {vs : List PV}
theorem bnd {α β : Type} {o : Out α} {f : α → Sto → Out β} {u : α} {S : Sto} (h : o = .ok u S) : o.bind f = f u S := by rw [h]; rfl
theorem bndF {α β : Type} {o : Out α} {f : α → Sto → Out β} {u : α} {S : Sto} (h : o = .ok u S) : o.bindF f = f u S := by rw [h]; rfl
theorem ev_var {i : Nat} (h : ρ[i]? = some (some v)) : den C Φ (.var i) B ρ S = .ok v S := by
  show (match ρ[i]? with
    | some (some v) => Out.ok v S
    | _ => .fail) = _
  rw [h]
theorem ev_cst : den C Φ (.cst v) B ρ S = .ok v S := rfl
theorem ev_bin {op : BOp} (ha : den C Φ a B ρ S = .ok x S1) (hb : den C Φ b B ρ S1 = .ok y S2) (h : binF B S2 op x y = some v) : den C Φ (.bin op a b) B ρ S = .ok v S2 := by
  show ((den C Φ a B ρ S).bind fun x S => (den C Φ b B ρ S).bind fun y S => Out.of (binF B S op x y) S) = _
  rw [bnd ha, bnd hb, h]
  rfl
theorem ev_cmp {op : COp} {q : Bool} (ha : den C Φ a B ρ S = .ok x S1) (hb : den C Φ b B ρ S1 = .ok y S2) (h : cmpO C Φ B S2 op x y = .ok q S3) : den C Φ (.cmp op a b) B ρ S = .ok (.bl q) S3 := by
  show ((den C Φ a B ρ S).bind fun x S => (den C Φ b B ρ S).bind fun y S => (cmpO C Φ B S op x y).bind fun b S => Out.ok (PV.bl b) S) = _
  rw [bnd ha, bnd hb, bnd h]
theorem ev_sub (ha : den C Φ a B ρ S = .ok x S1) (hb : den C Φ b B ρ S1 = .ok y S2) (h : subF B S2 x y = some v) : den C Φ (.sub a b) B ρ S = .ok v S2 := by
  show ((den C Φ a B ρ S).bind fun x S => (den C Φ b B ρ S).bind fun y S => Out.of (subF B S x y) S) = _
  rw [bnd ha, bnd hb, h]
  rfl
theorem ev_not {q : Bool} (ha : den C Φ a B ρ S = .ok (.bl q) S1) : den C Φ (.not a) B ρ S = .ok (.bl (!q)) S1 := by
  show ((den C Φ a B ρ S).bind fun x S => match x with
    | .bl b => Out.ok (PV.bl (!b)) S
    | _ => .fail) = _
  rw [bnd ha]
theorem evA_nil : denA C Φ [] B ρ S = .ok [] S := rfl
theorem evA_cons (hs : isStar a = false) (ha : den C Φ a B ρ S = .ok x S1) (hr : denA C Φ es B ρ S1 = .ok vs S2) : denA C Φ (a :: es) B ρ S = .ok (x :: vs) S2 := by
  show ((den C Φ a B ρ S).bind fun x S => match isStar a with
    | true => match seqOf B S x with
      | some xs => (denA C Φ es B ρ S).bind fun vs S => .ok (xs ++ vs) S
      | none => .fail
    | false => (denA C Φ es B ρ S).bind fun vs S => .ok (x :: vs) S) = _
  rw [bnd ha, hs]
  show ((denA C Φ es B ρ S1).bind fun vs S => Out.ok (x :: vs) S) = _
  rw [bnd hr]
theorem ev_bi {f : BI} (hA : denA C Φ es B ρ S = .ok vs S1) (h : biF B S1 f vs = .ok v S2) : den C Φ (.bi f es) B ρ S = .ok v S2 := by
  show ((denA C Φ es B ρ S).bind fun vs S => biF B S f vs) = _
  rw [bnd hA, h]
theorem ev_lst {m : Bool} (hA : denA C Φ es B ρ S = .ok vs S1) (h : mkLst m B S1 vs = .ok v S2) : den C Φ (.lst m es) B ρ S = .ok v S2 := by
  show ((denA C Φ es B ρ S).bind fun vs S => mkLst m B S vs) = _
  rw [bnd hA, h]
theorem ev_tup (hA : denA C Φ es B ρ S = .ok vs S1) (h : Nat.ble vs.length szL = true) : den C Φ (.tup es) B ρ S = .ok (.tup vs) S1 := by
  show ((denA C Φ es B ρ S).bind fun vs S => match Nat.ble vs.length szL with
    | true => Out.ok (PV.tup vs) S
    | false => .fail) = _
  rw [bnd hA, h]
theorem ev_call {f : Nat} {pu : Bool} {perm : List Nat} {ws : List PV} (hA : denA C Φ es B ρ S = .ok vs S1) (hp : permF perm vs = some ws) (h : callF (Φ f) pu B S1 ws = .ok v S2) : den C Φ (.call f pu perm es) B ρ S = .ok v S2 := by
  show ((denA C Φ es B ρ S).bind fun vs S => match permF perm vs with
    | some ws => callF (Φ f) pu B S ws
    | none => .fail) = _
  rw [bnd hA, hp]
  exact h
theorem ev_callG {f : Nat} {perm : List Nat} {ws : List PV} (hA : denA C Φ es B ρ S = .ok vs S1) (hp : permF perm vs = some ws) (h : gcD (Φ f) B ws S1 = .ok v S2) : den C Φ (.callG f perm es) B ρ S = .ok v S2 := by
  show ((denA C Φ es B ρ S).bind fun vs S => match permF perm vs with
    | some ws => callF (gcD (Φ f)) false B S ws
    | none => .fail) = _
  rw [bnd hA, hp]
  exact h
theorem ev_newG {c f : Nat} {perm : List Nat} {ws : List PV} (hA : denA C Φ es B ρ S = .ok vs S1) (hp : permF perm vs = some ws) (hf : C.ini c = some f) (h : gcI (Φ f) B (.obj (B.length + S1.length) :: ws) (S1 ++ [.ins c []]) = .ok .non S2) : den C Φ (.newG c perm es) B ρ S = .ok (.obj (B.length + S1.length)) S2 := by
  show ((denA C Φ es B ρ S).bind fun vs S => match permF perm vs with
    | some ws => match C.ini c with
      | some f => (gcI (Φ f) B (.obj (B.length + S.length) :: ws) (S ++ [.ins c []])).bind fun v S' => match v with
        | .non => (Out.ok (PV.obj (B.length + S.length)) S' : Out PV)
        | _ => .fail
      | none => .fail
    | none => .fail) = _
  rw [bnd hA, hp, hf]
  show ((gcI (Φ f) B (.obj (B.length + S1.length) :: ws) (S1 ++ [.ins c []])).bind fun v S' => match v with
    | .non => (Out.ok (PV.obj (B.length + S1.length)) S' : Out PV)
    | _ => .fail) = _
  rw [bnd h]
/-! and, or, if -/
theorem ev_and1 {o : Out PV} (h : den C Φ a B ρ S = o) : denAnd C Φ [a] B ρ S = o := h
theorem ev_andT {o : Out PV} (ha : den C Φ a B ρ S = .ok (.bl true) S1) (hr : denAnd C Φ (b :: es) B ρ S1 = o) : denAnd C Φ (a :: b :: es) B ρ S = o := by
  show ((den C Φ a B ρ S).bind fun x S => match x with
    | .bl true => denAnd C Φ (b :: es) B ρ S
    | .bl false => .ok (.bl false) S
    | _ => .fail) = _
  rw [bnd ha]
  exact hr
theorem ev_andF (ha : den C Φ a B ρ S = .ok (.bl false) S1) : denAnd C Φ (a :: b :: es) B ρ S = .ok (.bl false) S1 := by
  show ((den C Φ a B ρ S).bind fun x S => match x with
    | .bl true => denAnd C Φ (b :: es) B ρ S
    | .bl false => .ok (.bl false) S
    | _ => .fail) = _
  rw [bnd ha]
theorem ev_or1 {o : Out PV} (h : den C Φ a B ρ S = o) : denOr C Φ [a] B ρ S = o := h
theorem ev_orF {o : Out PV} (ha : den C Φ a B ρ S = .ok (.bl false) S1) (hr : denOr C Φ (b :: es) B ρ S1 = o) : denOr C Φ (a :: b :: es) B ρ S = o := by
  show ((den C Φ a B ρ S).bind fun x S => match x with
    | .bl true => .ok (.bl true) S
    | .bl false => denOr C Φ (b :: es) B ρ S
    | _ => .fail) = _
  rw [bnd ha]
  exact hr
theorem ev_and {o : Out PV} (h : denAnd C Φ es B ρ S = o) : den C Φ (.and es) B ρ S = o := h
theorem ev_or {o : Out PV} (h : denOr C Φ es B ρ S = o) : den C Φ (.or es) B ρ S = o := h
theorem ev_iteT {o : Out PV} (hc : den C Φ c B ρ S = .ok (.bl true) S1) (h : den C Φ a B ρ S1 = o) : den C Φ (.ite c a b) B ρ S = o := by
  show ((den C Φ c B ρ S).bind fun x S => match x with
    | .bl true => den C Φ a B ρ S
    | .bl false => den C Φ b B ρ S
    | _ => .fail) = _
  rw [bnd hc]
  exact h
theorem ev_iteF {o : Out PV} (hc : den C Φ c B ρ S = .ok (.bl false) S1) (h : den C Φ b B ρ S1 = o) : den C Φ (.ite c a b) B ρ S = o := by
  show ((den C Φ c B ρ S).bind fun x S => match x with
    | .bl true => den C Φ a B ρ S
    | .bl false => den C Φ b B ρ S
    | _ => .fail) = _
  rw [bnd hc]
  exact h
/-! statements -/
variable {s : IS} {r p q : List IS} {fl : Flow}
theorem es_asg {t : IE} (he : den C Φ a B ρ S = .ok v S1) (hg : asgT C Φ t v B ρ S1 = .ok ρ1 S2) : denS C Φ (.asg t a) B ρ S = .ok (ρ1, .nx) S2 := by
  show ((den C Φ a B ρ S).bind fun v S => (asgT C Φ t v B ρ S).bind fun ρ' S => Out.ok (ρ', RV.Flow.nx) S) = _
  rw [bnd he, bnd hg]
theorem es_set {i : Nat} (he : den C Φ a B ρ S = .ok v S1) (hi : Nat.blt i ρ.length = true) : denS C Φ (.asg (.var i) a) B ρ S = .ok (ρ.set i (some v), .nx) S1 := by
  refine es_asg he ?_
  show Out.of (match Nat.blt i ρ.length with
    | true => some (ρ.set i (some v))
    | false => none) S1 = _
  rw [hi]
  rfl
theorem es_par {ts es : List IE} (hA : denA C Φ es B ρ S = .ok vs S1) (ht : tgts ts vs ρ = some ρ1) : denS C Φ (.par ts es) B ρ S = .ok (ρ1, .nx) S1 := by
  show ((denA C Φ es B ρ S).bind fun vs S => (Out.of (tgts ts vs ρ) S).bind fun ρ' S => Out.ok (ρ', RV.Flow.nx) S) = _
  rw [bnd hA, ht]
  rfl
theorem es_ret (he : den C Φ a B ρ S = .ok v S1) : denS C Φ (.ret a) B ρ S = .ok (ρ, .ret v) S1 := by
  show ((den C Φ a B ρ S).bind fun v S => Out.ok (ρ, RV.Flow.ret v) S) = _
  rw [bnd he]
theorem es_iteT {o : Out (Loc × Flow)} (hc : den C Φ c B ρ S = .ok (.bl true) S1) (h : denB C Φ p B ρ S1 = o) : denS C Φ (.ite c p q) B ρ S = o := by
  show ((den C Φ c B ρ S).bind fun x S => match x with
    | .bl true => denB C Φ p B ρ S
    | .bl false => denB C Φ q B ρ S
    | _ => .fail) = _
  rw [bnd hc]
  exact h
theorem es_iteF {o : Out (Loc × Flow)} (hc : den C Φ c B ρ S = .ok (.bl false) S1) (h : denB C Φ q B ρ S1 = o) : denS C Φ (.ite c p q) B ρ S = o := by
  show ((den C Φ c B ρ S).bind fun x S => match x with
    | .bl true => denB C Φ p B ρ S
    | .bl false => denB C Φ q B ρ S
    | _ => .fail) = _
  rw [bnd hc]
  exact h
theorem eb_nil : denB C Φ [] B ρ S = .ok (ρ, .nx) S := rfl
theorem eb_nx {o : Out (Loc × Flow)} (hs : denS C Φ s B ρ S = .ok (ρ1, .nx) S1) (hr : denB C Φ r B ρ1 S1 = o) : denB C Φ (s :: r) B ρ S = o := by
  show ((denS C Φ s B ρ S).bind fun x S => match x.2 with
    | .nx => denB C Φ r B x.1 S
    | .ret v => .ok (x.1, .ret v) S) = _
  rw [bnd hs]
  exact hr
theorem eb_ret (hs : denS C Φ s B ρ S = .ok (ρ1, .ret v) S1) : denB C Φ (s :: r) B ρ S = .ok (ρ1, .ret v) S1 := by
  show ((denS C Φ s B ρ S).bind fun x S => match x.2 with
    | .nx => denB C Φ r B x.1 S
    | .ret v => .ok (x.1, .ret v) S) = _
  rw [bnd hs]
theorem es_whl {b : List IS} {o : Out (Loc × Flow)} (h : whileF (fun ρ S => (den C Φ c B ρ S).bind fun x S => match x with
      | .bl t => .ok t S
      | _ => .fail) (fun ρ S => denB C Φ b B ρ S) WF ρ S = o) : denS C Φ (.whl c b) B ρ S = o := h
theorem wh_stop {c : Loc → Sto → Out Bool} {b : Loc → Sto → Out (Loc × Flow)} {k : Nat} (h : c ρ S = .ok false S1) : whileF c b (k + 1) ρ S = .ok (ρ, .nx) S1 := by
  show ((c ρ S).bind fun t S => match t with
    | false => .ok (ρ, .nx) S
    | true => (b ρ S).bind fun r S => match r.2 with
      | .nx => whileF c b k r.1 S
      | .ret v => .ok (r.1, .ret v) S) = _
  rw [bnd h]
theorem wh_go {c : Loc → Sto → Out Bool} {b : Loc → Sto → Out (Loc × Flow)} {k : Nat} {o : Out (Loc × Flow)} (h : c ρ S = .ok true S1) (hb : b ρ S1 = .ok (ρ1, .nx) S2) (hr : whileF c b k ρ1 S2 = o) : whileF c b (k + 1) ρ S = o := by
  show ((c ρ S).bind fun t S => match t with
    | false => .ok (ρ, .nx) S
    | true => (b ρ S).bind fun r S => match r.2 with
      | .nx => whileF c b k r.1 S
      | .ret v => .ok (r.1, .ret v) S) = _
  rw [bnd h]
  show ((b ρ S1).bind fun r S => match r.2 with
    | .nx => whileF c b k r.1 S
    | .ret v => .ok (r.1, .ret v) S) = _
  rw [bnd hb]
  exact hr
theorem run_ret {d : Def} (hl : Nat.beq vs.length d.ps = true) (h : denB C Φ d.body B (vs.map some ++ List.replicate (d.nm - d.ps) none) S = .ok (ρ1, .ret v) S1) : runDef C Φ d B vs S = .ok v S1 := by
  unfold runDef
  rw [hl]
  show ((denB C Φ d.body B (vs.map some ++ List.replicate (d.nm - d.ps) none) S).bind fun r S => match r.2 with
    | .nx => Out.ok PV.non S
    | .ret v => .ok v S) = _
  rw [bnd h]
end
end RV
end
section
/-! RVLaw: the draws of the laws, plain. -/
namespace RV
open PySem
abbrev sC : Str := ⟨#[99, 101, 108, 108, 115]⟩
abbrev sL : Str := ⟨#[108, 101, 102, 116]⟩
abbrev sA : Str := ⟨#[97, 116]⟩
def iLeft : IE := .sub (.var 0) (.cst (.str sL))
def dBegun : Def := ⟨2, 1, [.ret (.dct false [(.cst (.str sC)), (.bi (.list false) [(.var 0)]), (.cst (.str sL)), (.lc true [1] (.var 1) (.var 0) (some (.cmp .ge (.var 1) (.bin .pow (.cst (.int (10))) (.cst (.int (18)))))) (.var 1)), (.cst (.str sA)), (.cst (.int (0)))])]⟩
def nWhl : IS := .whl (.and [(.cmp .ne iLeft (.lst false [])), (.cmp .eq (.sub iLeft (.cst (.int (0)))) (.cst (.int (0))))]) [.asg iLeft (.slc true iLeft (some (.cst (.int (1)))) none)]
def nIte : IS := .ite (.cmp .ne iLeft (.lst false [])) [.asg (.var 4) (.sub iLeft (.cst (.int (0)))),
  .asg (.sub iLeft (.cst (.int (0)))) (.bin .fdiv (.var 4) (.var 1)),
  .ret (.bin .mod (.bi .int [(.var 4)]) (.var 1))] []
def nPar : IS := .par [(.var 5), (.var 6)] [(.bin .add (.sub (.var 0) (.cst (.str sA))) (.cst (.int (1)))), (.sub (.var 0) (.cst (.str sC)))]
def nAt : IS := .asg (.sub (.var 0) (.cst (.str sA))) (.var 5)
def nCell : IS := .asg (.var 2) (.ite (.cmp .ne (.var 6) (.lst false [])) (.bi .int [(.sub (.var 6) (.bin .mod (.bi .int [(.bin .add (.bin .mul (.var 5) (.var 5)) (.bin .fdiv (.var 5) (.cst (.int (2)))))]) (.bi .len [(.var 6)])))]) (.cst (.int (5))))
def nBlend : IS := .asg (.var 3) (.bin .mod (.bi .int [(.bin .add (.bin .add (.bin .mul (.var 2) (.cst (.int (40692)))) (.bin .mul (.var 5) (.cst (.int (65539))))) (.bin .mul (.bin .mul (.cst (.int (7001))) (.var 5)) (.var 5)))]) (.cst (.int (2147483399))))
def nRet : IS := .ret (.bin .mod (.bi .int [(.bin .fdiv (.bin .mod (.bi .int [(.bin .add (.bin .mul (.var 3) (.cst (.int (48271)))) (.bin .mul (.cst (.int (1013))) (.var 5)))]) (.cst (.int (2147483647)))) (.cst (.int (13))))]) (.var 1))
def dNext : Def := ⟨7, 2, [nWhl, nIte, nPar, nAt, nCell, nBlend, nRet]⟩
/-! ### the state of the draws -/
abbrev mD (cs : List Int) (l : Nat) (k : Int) : List (PV × PV) := [(.str sC, .lst (cs.map .int)), (.str sL, .obj l), (.str sA, .int k)]
structure LM (mi : Nat) (cs : List Int) (S : Sto) (k : Int) (l : Nat) (left : List Int) : Prop where
  m : S[mi]? = some (.dlf (mD cs l k))
  l : S[l]? = some (.lst (left.map .int))
/-- objects of own classes stay -/
structure Keep (S S' : Sto) : Prop where
  len : S.length ≤ S'.length
  ins : ∀ (n c : Nat) (fs : List (Nat × PV)), S[n]? = some (.ins c fs) → S'[n]? = some (.ins c fs)
theorem Keep.refl (S : Sto) : Keep S S := ⟨Nat.le_refl _, fun _ _ _ h => h⟩
theorem Keep.trans {S S1 S2 : Sto} (a : Keep S S1) (b : Keep S1 S2) : Keep S S2 := ⟨Nat.le_trans a.len b.len, fun n c fs h => b.ins n c fs (a.ins n c fs h)⟩
theorem Keep.push {S : Sto} (o : SO) : Keep S (S ++ [o]) := ⟨by simp, fun n c fs h => by
  rw [List.getElem?_append_left (List.getElem?_eq_some_iff.mp h).1]; exact h⟩
theorem Keep.set {S : Sto} {n : Nat} {o o' : SO} (h : S[n]? = some o) (hn : ∀ c fs, o ≠ .ins c fs) : Keep S (S.set n o') := ⟨by simp, fun m c fs e => by
  by_cases z : n = m
  · subst z
    rw [h] at e
    cases e
    exact absurd rfl (hn c fs)
  · rw [List.getElem?_set_ne z]; exact e⟩
theorem LM.ne {mi : Nat} {cs : List Int} {S : Sto} {k : Int} {l : Nat} {left : List Int} (h : LM mi cs S k l left) : l ≠ mi := fun e => by
  have h1 := h.m
  have h2 := h.l
  rw [e, h1] at h2
  cases h2
/-! ### small evaluations -/
theorem f_left {a b c : PV} : findV (.str sL) [(.str sC, a), (.str sL, b), (.str sA, c)] = some b := rfl
theorem f_at {a b c : PV} : findV (.str sA) [(.str sC, a), (.str sL, b), (.str sA, c)] = some c := rfl
theorem f_cells {a b c : PV} : findV (.str sC) [(.str sC, a), (.str sL, b), (.str sA, c)] = some a := rfl
theorem p_left {a b c v : PV} : putK false (.str sL) v [(.str sC, a), (.str sL, b), (.str sA, c)] = some [(.str sC, a), (.str sL, v), (.str sA, c)] := rfl
theorem p_at {a b c v : PV} : putK false (.str sA) v [(.str sC, a), (.str sL, b), (.str sA, c)] = some [(.str sC, a), (.str sL, b), (.str sA, v)] := rfl
theorem sub_dlf {S : Sto} {n : Nat} {kvs : List (PV × PV)} {k v : PV} (h : S[n]? = some (.dlf kvs)) (hk : keyOk false k = true) (hf : findV k kvs = some v) : subF [] S (.obj n) k = some v := by
  show (match getS [] S n with
    | some (.lst xs) => atQ xs k
    | some (.dct kvs) => match findK true k kvs with
      | some (some v) => some v
      | _ => none
    | some (.dlf kvs) => match findK false k kvs with
      | some (some v) => some v
      | _ => none
    | _ => none) = _
  rw [show getS [] S n = some (.dlf kvs) from h]
  show (match (match keyOk false k with
    | true => some (findV k kvs)
    | false => none) with
    | some (some v) => some v
    | _ => none) = _
  rw [hk, hf]
theorem sub_lst {S : Sto} {n : Nat} {xs : List PV} {k v : PV} (h : S[n]? = some (.lst xs)) (hf : atQ xs k = some v) : subF [] S (.obj n) k = some v := by
  show (match getS [] S n with
    | some (.lst xs) => atQ xs k
    | some (.dct kvs) => match findK true k kvs with
      | some (some v) => some v
      | _ => none
    | some (.dlf kvs) => match findK false k kvs with
      | some (some v) => some v
      | _ => none
    | _ => none) = _
  rw [show getS [] S n = some (.lst xs) from h]
  exact hf
theorem okPs_ints : ∀ (ns : List Int) (d : Nat), okPs (ns.map .int) d = true
  | [], _ => rfl
  | n :: ns, d => okPs_ints ns d
theorem eqP_ints (ns : List Int) : eqP (.lst (ns.map .int)) (.lst []) = some ns.isEmpty := by
  show (match okPs (ns.map .int) 63 && true with
    | true => some (eqVs (ns.map .int) [])
    | false => none) = _
  rw [okPs_ints]
  cases ns <;> rfl
section
variable {C : Cfg} {Φ : Nat → DefF} {S : Sto}
theorem ne_obj {n : Nat} {ns : List Int} (h : S[n]? = some (.lst (ns.map .int))) : cmpO C Φ [] S .ne (.obj n) (.lst []) = .ok (!ns.isEmpty) S := by
  have e1 : ownEq [] S (.obj n) (.lst []) = none := by
    show (match getS [] S n with
      | some (.ins c _) => (match PV.lst [] with
        | .obj m => (match getS [] S m with
          | some (.ins d _) => (match Nat.beq c d with
            | true => some c
            | false => none)
          | _ => none)
        | _ => none)
      | _ => none) = none
    rw [show getS [] S n = some (.lst (ns.map .int)) from h]
  have e2 : der [] S (.obj n) = .lst (ns.map .int) := by
    show (match getS [] S n with
      | some (.lst xs) => PV.lst xs
      | _ => .obj n) = _
    rw [show getS [] S n = some (.lst (ns.map .int)) from h]
  show (match ownEq [] S (.obj n) (.lst []) with
    | some c => notO (ownF C Φ c [] S (.obj n) (.lst []))
    | none => Out.of ((eqP (der [] S (.obj n)) (.lst [])).map (!·)) S) = _
  rw [e1, e2]
  show Out.of ((eqP (.lst (ns.map .int)) (.lst [])).map (!·)) S = _
  rw [eqP_ints]
  rfl
theorem ne_val {ns : List Int} : cmpO C Φ [] S .ne (.lst (ns.map .int)) (.lst []) = .ok (!ns.isEmpty) S := by
  show Out.of ((eqP (.lst (ns.map .int)) (.lst [])).map (!·)) S = _
  rw [eqP_ints]
  rfl
theorem eq_int {i j : Int} : cmpO C Φ [] S .eq (.int i) (.int j) = .ok (decide (i = j)) S := rfl
theorem setS0 {n : Nat} {o : SO} (h : n < S.length) : setS [] S n o = some (S.set n o) := by
  show (match Nat.blt n 0 with
    | true => none
    | false => match Nat.blt (n - 0) S.length with
      | true => some (S.set (n - 0) o)
      | false => none) = _
  have h1 : Nat.blt n 0 = false := rfl
  have h2 : Nat.blt (n - 0) S.length = true := Nat.ble_eq_true_of_le h
  rw [h2]
  rfl
theorem asg_dlf {ρ : Loc} {o i : IE} {v y : PV} {n : Nat} {kvs kvs' : List (PV × PV)} (ho : den C Φ o [] ρ S = .ok (.obj n) S) (hi : den C Φ i [] ρ S = .ok y S) (h : S[n]? = some (.dlf kvs)) (hp : putK false y v kvs = some kvs') : asgT C Φ (.sub o i) v [] ρ S = .ok ρ (S.set n (.dlf kvs')) := by
  show ((den C Φ o [] ρ S).bind fun x S => (den C Φ i [] ρ S).bind fun y S => match x with
    | .obj n => match getS [] S n with
      | some (.lst xs) => match y with
        | .int (.ofNat k) => match Nat.blt k xs.length with
          | true => match setS [] S n (.lst (xs.set k v)) with
            | some S' => Out.ok ρ S'
            | none => .fail
          | false => .fail
        | _ => .fail
      | some (.dct kvs) => match putK true y v kvs with
        | some kvs' => match setS [] S n (.dct kvs') with
          | some S' => .ok ρ S'
          | none => .fail
        | none => .fail
      | some (.dlf kvs) => match putK false y v kvs with
        | some kvs' => match setS [] S n (.dlf kvs') with
          | some S' => .ok ρ S'
          | none => .fail
        | none => .fail
      | _ => .fail
    | _ => .fail) = _
  rw [bnd ho, bnd hi]
  dsimp only
  rw [show getS [] S n = some (.dlf kvs) from h]
  dsimp only
  rw [hp]
  dsimp only
  rw [setS0 (List.getElem?_eq_some_iff.mp h).1]
theorem asg_lst {ρ : Loc} {o i : IE} {v : PV} {n k : Nat} {xs : List PV} (ho : den C Φ o [] ρ S = .ok (.obj n) S) (hi : den C Φ i [] ρ S = .ok (.int (.ofNat k)) S) (h : S[n]? = some (.lst xs)) (hk : k < xs.length) : asgT C Φ (.sub o i) v [] ρ S = .ok ρ (S.set n (.lst (xs.set k v))) := by
  show ((den C Φ o [] ρ S).bind fun x S => (den C Φ i [] ρ S).bind fun y S => match x with
    | .obj n => match getS [] S n with
      | some (.lst xs) => match y with
        | .int (.ofNat k) => match Nat.blt k xs.length with
          | true => match setS [] S n (.lst (xs.set k v)) with
            | some S' => Out.ok ρ S'
            | none => .fail
          | false => .fail
        | _ => .fail
      | some (.dct kvs) => match putK true y v kvs with
        | some kvs' => match setS [] S n (.dct kvs') with
          | some S' => .ok ρ S'
          | none => .fail
        | none => .fail
      | some (.dlf kvs) => match putK false y v kvs with
        | some kvs' => match setS [] S n (.dlf kvs') with
          | some S' => .ok ρ S'
          | none => .fail
        | none => .fail
      | _ => .fail
    | _ => .fail) = _
  rw [bnd ho, bnd hi]
  dsimp only
  rw [show getS [] S n = some (.lst xs) from h]
  dsimp only
  rw [show Nat.blt k xs.length = true from Nat.ble_eq_true_of_le hk]
  dsimp only
  rw [setS0 (List.getElem?_eq_some_iff.mp h).1]
end
theorem mul_r {i j : Int} {B S : Sto} (h1 : -lim < j) (h2 : j < lim) : binF B S .mul (.int i) (.int j) = some (.int (i * j)) := by
  show (match mulOk i j with
    | true => some (PV.int (i * j))
    | false => none) = _
  have : mulOk i j = true := by
    unfold mulOk
    rw [decide_eq_true h1, decide_eq_true h2]
    simp
  rw [this]
theorem fdiv_ok {i j : Int} {B S : Sto} (h1 : 0 < j) (h2 : j < 1073741824) : binF B S .fdiv (.int i) (.int j) = some (.int (i / j)) := by
  show (match decide (0 < j) && decide (j < 1073741824) with
    | true => some (PV.int (i / j))
    | false => none) = _
  rw [decide_eq_true h1, decide_eq_true h2]
  rfl
theorem mod_ok {i j : Int} {B S : Sto} (h1 : 0 < j) : binF B S .mod (.int i) (.int j) = some (.int (i % j)) := by
  show (match decide (0 < j) with
    | true => some (PV.int (i % j))
    | false => none) = _
  rw [decide_eq_true h1]
theorem at_ints {cs : List Int} {i : Int} (h0 : 0 ≤ i) (h1 : i < cs.length) : ∃ c, atQ (cs.map .int) (.int i) = some (.int c) := by
  obtain ⟨n, rfl⟩ := Int.eq_ofNat_of_zero_le h0
  have hn : n < cs.length := by omega
  refine ⟨cs[n], ?_⟩
  show (cs.map PV.int)[n]? = _
  rw [List.getElem?_map, List.getElem?_eq_getElem hn]
  rfl
end RV
end
section
/-! RVNxt: a drawn number lies where it should. -/
namespace RV
open PySem
section
variable {C : Cfg} {Φ : Nat → DefF} {S : Sto} {mi : Nat} {cs left : List Int} {k many : Int} {l : Nat} {ρ : Loc}
theorem ev_left (h : LM mi cs S k l left) (h0 : ρ[0]? = some (some (.obj mi))) : den C Φ iLeft [] ρ S = .ok (.obj l) S := ev_sub (ev_var h0) ev_cst (sub_dlf h.m rfl f_left)
theorem ev_nil : den C Φ (.lst false []) [] ρ S = .ok (.lst []) S := rfl
theorem ev_neLeft (h : LM mi cs S k l left) (h0 : ρ[0]? = some (some (.obj mi))) : den C Φ (.cmp .ne iLeft (.lst false [])) [] ρ S = .ok (.bl (!left.isEmpty)) S := ev_cmp (ev_left h h0) ev_nil (ne_obj h.l)
theorem ev_first {x : Int} (h : LM mi cs S k l (x :: left)) (h0 : ρ[0]? = some (some (.obj mi))) : den C Φ (.sub iLeft (.cst (.int (0)))) [] ρ S = .ok (.int x) S := ev_sub (ev_left h h0) ev_cst (sub_lst h.l rfl)
theorem cut1 (x : Int) (r : List Int) : cutP ((x :: r).map .int) (some 1) none = r.map .int := by
  show (((x :: r).map PV.int).drop (min 1 ((x :: r).map PV.int).length)).take (((x :: r).map PV.int).length - min 1 ((x :: r).map PV.int).length) = _
  have : min 1 ((x :: r).map PV.int).length = 1 := by simp
  rw [this]
  show List.take (((x :: r).map PV.int).length - 1) (r.map PV.int) = r.map PV.int
  exact List.take_of_length_le (by simp)
theorem ev_tail {x : Int} (h : LM mi cs S k l (x :: left)) (h0 : ρ[0]? = some (some (.obj mi))) : den C Φ (.slc true iLeft (some (.cst (.int (1)))) none) [] ρ S = .ok (.obj S.length) (S ++ [.lst (left.map .int)]) := by
  show ((den C Φ iLeft [] ρ S).bind fun x S => (denO C Φ (some (.cst (.int 1))) [] ρ S).bind fun lo S => (denO C Φ none [] ρ S).bind fun hi S => match slcF [] S x lo hi with
    | some (.lst xs) => newS [] S (.lst xs)
    | _ => .fail) = _
  rw [bnd (ev_left h h0)]
  show (match slcF [] S (.obj l) (some 1) none with
    | some (.lst xs) => newS [] S (.lst xs)
    | _ => .fail) = _
  have e : slcF [] S (.obj l) (some 1) none = some (.lst (left.map .int)) := by
    show (match (match getS [] S l with
      | some (.lst xs) => PV.lst xs
      | _ => .obj l) with
      | .lst xs => some (PV.lst (cutP xs (some 1) none))
      | _ => none) = _
    rw [show getS [] S l = some (.lst ((x :: left).map .int)) from h.l]
    show some (PV.lst (cutP ((x :: left).map .int) (some 1) none)) = _
    rw [cut1]
  rw [e]
  show Out.ok (PV.obj ([].length + S.length)) (S ++ [.lst (left.map .int)]) = _
  rw [List.length_nil, Nat.zero_add]
abbrev nCnd (C : Cfg) (Φ : Nat → DefF) : Loc → Sto → Out Bool := fun ρ S => (den C Φ (.and [(.cmp .ne iLeft (.lst false [])), (.cmp .eq (.sub iLeft (.cst (.int (0)))) (.cst (.int (0))))]) [] ρ S).bind fun x S => match x with
      | .bl t => .ok t S
      | _ => .fail
abbrev nBody (C : Cfg) (Φ : Nat → DefF) : Loc → Sto → Out (Loc × Flow) := fun ρ S => denB C Φ [.asg iLeft (.slc true iLeft (some (.cst (.int (1)))) none)] [] ρ S
theorem wh_next (h0 : ρ[0]? = some (some (.obj mi))) : ∀ (left : List Int) (l : Nat) (S : Sto) (fuel : Nat), LM mi cs S k l left → left.length < fuel →
    ∃ left' l' S', whileF (nCnd C Φ) (nBody C Φ) fuel ρ S = .ok (ρ, .nx) S' ∧ LM mi cs S' k l' left' ∧ Keep S S' ∧ left'.length ≤ left.length ∧ ∀ x r, left' = x :: r → x ≠ 0
  | [], l, S, 0, _, hf => absurd hf (Nat.not_lt_zero _)
  | [], l, S, fuel + 1, h, _ => ⟨[], l, S, wh_stop (bnd (ev_and (ev_andF (ev_neLeft h h0)))), h, Keep.refl S, Nat.le_refl _, fun x r e => by cases e⟩
  | x :: r, l, S, 0, _, hf => absurd hf (Nat.not_lt_zero _)
  | x :: r, l, S, fuel + 1, h, hf => by
    have hc : nCnd C Φ ρ S = .ok (decide (x = 0)) S := bnd (ev_and (ev_andT (ev_neLeft h h0) (ev_and1 (ev_cmp (ev_first h h0) ev_cst eq_int))))
    by_cases hx : x = 0
    · rw [decide_eq_true hx] at hc
      have hm : mi < S.length := (List.getElem?_eq_some_iff.mp h.m).1
      have h1 : (S ++ [SO.lst (r.map .int)])[mi]? = some (.dlf (mD cs l k)) := by rw [List.getElem?_append_left hm]; exact h.m
      have hb : nBody C Φ ρ S = .ok (ρ, .nx) ((S ++ [SO.lst (r.map .int)]).set mi (.dlf (mD cs S.length k))) := eb_nx (es_asg (ev_tail h h0) (asg_dlf (ev_var h0) ev_cst h1 p_left)) eb_nil
      have h2 : LM mi cs ((S ++ [SO.lst (r.map .int)]).set mi (.dlf (mD cs S.length k))) k S.length r := by
        refine ⟨?_, ?_⟩
        · rw [List.getElem?_set_self (by simp; omega)]
        · rw [List.getElem?_set_ne (by omega), List.getElem?_append_right (Nat.le_refl _), Nat.sub_self]
          rfl
      obtain ⟨left', l', S', e1, e2, e3, e5, e4⟩ := wh_next h0 r S.length _ fuel h2 (by simp at hf; omega)
      exact ⟨left', l', S', wh_go hc hb e1, e2, ((Keep.push _).trans (Keep.set h1 fun c fs z => by cases z)).trans e3, Nat.le_succ_of_le e5, e4⟩
    · rw [decide_eq_false hx] at hc
      exact ⟨x :: r, l, S, wh_stop hc, h, Keep.refl S, Nat.le_refl _, fun y t e => by cases e; exact hx⟩
theorem bi_int {i : Int} : biF [] S .int [.int i] = .ok (.int i) S := rfl
theorem ev_int1 {a : IE} {i : Int} (hs : isStar a = false) (h : den C Φ a [] ρ S = .ok (.int i) S) : den C Φ (.bi .int [a]) [] ρ S = .ok (.int i) S := ev_bi (evA_cons hs h evA_nil) bi_int
/-- a drawn number -/
theorem next_ok (h : LM mi cs S k l left) (hl : left.length ≤ 1000) (k0 : 0 ≤ k) (k1 : k < 1000000000) (m0 : 0 < many) (m1 : many < 1000000000) :
    ∃ r S' k' l' left', runDef C Φ dNext [] [.obj mi, .int many] S = .ok (.int r) S' ∧ 0 ≤ r ∧ r < many ∧ LM mi cs S' k' l' left' ∧ Keep S S' ∧ left'.length ≤ left.length ∧ 0 ≤ k' ∧ k' ≤ k + 1 := by
  obtain ⟨left1, l1, S1, e1, h1, kp1, le1, nz1⟩ := wh_next (C := C) (Φ := Φ) (ρ := [some (.obj mi), some (.int many), none, none, none, none, none]) rfl left l S WF h (by unfold WF; omega)
  have w1 : denS C Φ nWhl [] [some (.obj mi), some (.int many), none, none, none, none, none] S = .ok ([some (.obj mi), some (.int many), none, none, none, none, none], .nx) S1 := e1
  have q0 : ([some (.obj mi), some (.int many), none, none, none, none, none] : Loc)[0]? = some (some (.obj mi)) := rfl
  have hm1 : many < 1073741824 := by omega
  cases left1 with
  | cons x r =>
    let ρ4 : Loc := [some (.obj mi), some (.int many), none, none, some (.int x), none, none]
    have s1 : denS C Φ (.asg (.var 4) (.sub iLeft (.cst (.int (0))))) [] [some (.obj mi), some (.int many), none, none, none, none, none] S1 = .ok (ρ4, .nx) S1 := es_set (ev_first h1 q0) rfl
    have s2 : denS C Φ (.asg (.sub iLeft (.cst (.int (0)))) (.bin .fdiv (.var 4) (.var 1))) [] ρ4 S1 = .ok (ρ4, .nx) (S1.set l1 (.lst (((x :: r).map PV.int).set 0 (.int (x / many))))) :=
      es_asg (ev_bin (ev_var rfl) (ev_var rfl) (fdiv_ok m0 hm1)) (asg_lst (k := 0) (ev_left h1 rfl) ev_cst h1.l (by simp))
    have s3 : denS C Φ (.ret (.bin .mod (.bi .int [(.var 4)]) (.var 1))) [] ρ4 (S1.set l1 (.lst (((x :: r).map PV.int).set 0 (.int (x / many))))) = .ok (ρ4, .ret (.int (x % many))) (S1.set l1 (.lst (((x :: r).map PV.int).set 0 (.int (x / many))))) :=
      es_ret (ev_bin (ev_int1 rfl (ev_var rfl)) (ev_var rfl) (mod_ok m0))
    refine ⟨x % many, _, k, l1, (x / many) :: r, run_ret rfl (eb_nx w1 (eb_ret (es_iteT (ev_neLeft h1 q0) (eb_nx s1 (eb_nx s2 (eb_ret s3)))))), Int.emod_nonneg _ (by omega), Int.emod_lt_of_pos _ m0, ⟨?_, ?_⟩, kp1.trans (Keep.set h1.l fun c fs z => by cases z), ?_, k0, by omega⟩
    · rw [List.getElem?_set_ne h1.ne]; exact h1.m
    · rw [List.getElem?_set_self (List.getElem?_eq_some_iff.mp h1.l).1]; rfl
    · simpa using le1
  | nil =>
    have hm : mi < S1.length := (List.getElem?_eq_some_iff.mp h1.m).1
    let ρ6 : Loc := [some (.obj mi), some (.int many), none, none, none, some (.int (k + 1)), some (.lst (cs.map .int))]
    have s1 : denS C Φ nIte [] [some (.obj mi), some (.int many), none, none, none, none, none] S1 = .ok ([some (.obj mi), some (.int many), none, none, none, none, none], .nx) S1 := es_iteF (ev_neLeft h1 q0) eb_nil
    have s2 : denS C Φ nPar [] [some (.obj mi), some (.int many), none, none, none, none, none] S1 = .ok (ρ6, .nx) S1 :=
      es_par (evA_cons rfl (ev_bin (ev_sub (ev_var rfl) ev_cst (sub_dlf h1.m rfl f_at)) ev_cst rfl) (evA_cons rfl (ev_sub (ev_var rfl) ev_cst (sub_dlf h1.m rfl f_cells)) evA_nil)) rfl
    let S2 : Sto := S1.set mi (.dlf (mD cs l1 (k + 1)))
    have s3 : denS C Φ nAt [] ρ6 S1 = .ok (ρ6, .nx) S2 := es_asg (ev_var rfl) (asg_dlf (ev_var rfl) ev_cst h1.m p_at)
    have h2 : LM mi cs S2 (k + 1) l1 [] := by
      refine ⟨?_, ?_⟩
      · show (S1.set mi _)[mi]? = _
        rw [List.getElem?_set_self hm]
      · show (S1.set mi _)[l1]? = _
        rw [List.getElem?_set_ne (Ne.symm h1.ne)]; exact h1.l
    have a0 : den C Φ (.var 5) [] ρ6 S2 = .ok (.int (k + 1)) S2 := ev_var rfl
    have lk : -lim < k + 1 ∧ k + 1 < lim := by unfold lim; omega
    obtain ⟨cell, s4⟩ : ∃ cell : Int, denS C Φ nCell [] ρ6 S2 = .ok (ρ6.set 2 (some (.int cell)), .nx) S2 := by
      have hne : den C Φ (.cmp .ne (.var 6) (.lst false [])) [] ρ6 S2 = .ok (.bl (!cs.isEmpty)) S2 := ev_cmp (ev_var rfl) ev_nil ne_val
      cases hcs : cs with
      | nil =>
        have hne : den C Φ (.cmp .ne (.var 6) (.lst false [])) [] ρ6 S2 = .ok (.bl false) S2 := by rw [hne, hcs]; rfl
        exact ⟨5, es_set (ev_iteF hne ev_cst) rfl⟩
      | cons c0 ct =>
        have hne : den C Φ (.cmp .ne (.var 6) (.lst false [])) [] ρ6 S2 = .ok (.bl true) S2 := by rw [hne, hcs]; rfl
        have hpos : (0 : Int) < cs.length := by rw [hcs, List.length_cons]; omega
        have hlen : den C Φ (.bi .len [(.var 6)]) [] ρ6 S2 = .ok (.int cs.length) S2 := by
          refine ev_bi (evA_cons rfl (ev_var rfl) evA_nil) ?_
          show Out.ok (PV.int ((cs.map PV.int).length : Nat)) S2 = _
          rw [List.length_map]
        have hix : den C Φ (.bin .mod (.bi .int [(.bin .add (.bin .mul (.var 5) (.var 5)) (.bin .fdiv (.var 5) (.cst (.int (2)))))]) (.bi .len [(.var 6)])) [] ρ6 S2 = .ok (.int (((k + 1) * (k + 1) + (k + 1) / 2) % cs.length)) S2 :=
          ev_bin (ev_int1 rfl (ev_bin (ev_bin a0 a0 (mul_r lk.1 lk.2)) (ev_bin a0 ev_cst (fdiv_ok (by decide) (by decide))) rfl)) hlen (mod_ok hpos)
        obtain ⟨c, hc⟩ := at_ints (cs := cs) (Int.emod_nonneg ((k + 1) * (k + 1) + (k + 1) / 2) (by omega)) (Int.emod_lt_of_pos _ hpos)
        exact ⟨c, es_set (ev_iteT hne (ev_int1 rfl (ev_sub (ev_var rfl) hix hc))) rfl⟩
    let ρ7 : Loc := ρ6.set 2 (some (.int cell))
    have b0 : den C Φ (.var 5) [] ρ7 S2 = .ok (.int (k + 1)) S2 := ev_var rfl
    have s5 : denS C Φ nBlend [] ρ7 S2 = .ok (ρ7.set 3 (some (.int ((cell * 40692 + (k + 1) * 65539 + 7001 * (k + 1) * (k + 1)) % 2147483399))), .nx) S2 :=
      es_set (ev_bin (ev_int1 rfl (ev_bin (ev_bin (ev_bin (ev_var rfl) ev_cst (mul_r (by decide) (by decide))) (ev_bin b0 ev_cst (mul_r (by decide) (by decide))) rfl) (ev_bin (ev_bin ev_cst b0 (mul_r lk.1 lk.2)) b0 (mul_r lk.1 lk.2)) rfl)) ev_cst (mod_ok (by decide))) rfl
    let bl : Int := (cell * 40692 + (k + 1) * 65539 + 7001 * (k + 1) * (k + 1)) % 2147483399
    let ρ8 : Loc := ρ7.set 3 (some (.int bl))
    have s6 : denS C Φ nRet [] ρ8 S2 = .ok (ρ8, .ret (.int ((bl * 48271 + 1013 * (k + 1)) % 2147483647 / 13 % many))) S2 :=
      es_ret (ev_bin (ev_int1 rfl (ev_bin (ev_bin (ev_int1 rfl (ev_bin (ev_bin (ev_var rfl) ev_cst (mul_r (by decide) (by decide))) (ev_bin ev_cst (ev_var rfl) (mul_r lk.1 lk.2)) rfl)) ev_cst (mod_ok (by decide))) ev_cst (fdiv_ok (by decide) (by decide)))) (ev_var rfl) (mod_ok m0))
    refine ⟨_, S2, k + 1, l1, [], run_ret rfl (eb_nx w1 (eb_nx s1 (eb_nx s2 (eb_nx s3 (eb_nx s4 (eb_nx s5 (eb_ret s6))))))), Int.emod_nonneg _ (by omega), Int.emod_lt_of_pos _ m0, h2, kp1.trans (Keep.set h1.m fun c fs z => by cases z), Nat.zero_le _, by omega, Int.le_refl _⟩
end
end RV
end
section
/-! RVBeg: the draws begin; calls that see what they are handed, plain. -/
namespace RV
open PySem
/-- a script as a value -/
def IsScr (ns : List Int) (v : PV) : Prop := v = .scr (ns.map .int) ∨ v = .lst (ns.map .int)
theorem lv_step {α : Type} {halt : α → Bool} {turn : PV → α → Sto → Out α} {x : PV} {xs : List PV} {a a' : α} {S S' : Sto} (h : turn x a S = .ok a' S') (hh : halt a' = false) : loopV halt turn (x :: xs) a S = loopV halt turn xs a' S' := by
  rw [loopV, h]
  dsimp only
  rw [hh]
section
variable {C : Cfg} {Φ : Nat → DefF}
def bIf : IE := .cmp .ge (.var 1) (.bin .pow (.cst (.int (10))) (.cst (.int (18))))
def bTurn (C : Cfg) (Φ : Nat → DefF) (ρ : Loc) (x : PV) (acc : List PV) (S : Sto) : Out (List PV) := match tgt (.var 1) x (wipeL ρ [1]) with
  | some ρ' => (denT C Φ (some bIf) [] ρ' S).bindF fun b S => match b with
    | true => (den C Φ (.var 1) [] ρ' S).bindF fun v S => accF v acc S
    | false => .ok acc S
  | none => .fail
theorem b_turn {v : PV} {x : Int} {acc : List PV} {S : Sto} (hl : acc.length < 1000) : bTurn C Φ [some v, none] (.int x) acc S = .ok (if (1000000000000000000 : Int) ≤ x then .int x :: acc else acc) S := by
  have e1 : tgt (.var 1) (.int x) (wipeL [some v, none] [1]) = some [some v, some (.int x)] := rfl
  unfold bTurn
  rw [e1]
  have e2 : denT C Φ (some bIf) [] [some v, some (.int x)] S = .ok (decide ((1000000000000000000 : Int) ≤ x)) S := rfl
  show (denT C Φ (some bIf) [] [some v, some (.int x)] S).bindF _ = _
  rw [bndF e2]
  by_cases h : (1000000000000000000 : Int) ≤ x
  · rw [decide_eq_true h, if_pos h]
    have e3 : den C Φ (.var 1) [] [some v, some (.int x)] S = .ok (.int x) S := rfl
    show (den C Φ (.var 1) [] [some v, some (.int x)] S).bindF _ = _
    rw [bndF e3]
    show (match Nat.blt acc.length szL with
      | true => Out.ok (PV.int x :: acc) S
      | false => .fail) = _
    rw [show Nat.blt acc.length szL = true from Nat.ble_eq_true_of_le (by unfold szL; omega)]
  · rw [decide_eq_false h, if_neg h]
theorem b_loop {v : PV} {S : Sto} : ∀ (ns : List Int) (acc : List Int), acc.length + ns.length ≤ 500 → ∃ left : List Int, loopV never (bTurn C Φ [some v, none]) (ns.map .int) (acc.map .int) S = .ok (left.map .int) S ∧ left.length ≤ acc.length + ns.length
  | [], acc, _ => ⟨acc, rfl, by simp⟩
  | x :: ns, acc, h => by
    simp only [List.length_cons] at h
    have ht := b_turn (C := C) (Φ := Φ) (v := v) (x := x) (acc := acc.map .int) (S := S) (by simp; omega)
    have e : loopV never (bTurn C Φ [some v, none]) ((x :: ns).map .int) (acc.map .int) S = loopV never (bTurn C Φ [some v, none]) (ns.map .int) (if (1000000000000000000 : Int) ≤ x then .int x :: acc.map .int else acc.map .int) S := by
      rw [List.map_cons]
      exact lv_step ht rfl
    rw [e]
    by_cases hx : (1000000000000000000 : Int) ≤ x
    · rw [if_pos hx]
      obtain ⟨left, e1, e2⟩ := b_loop ns (x :: acc) (by simp only [List.length_cons]; omega)
      exact ⟨left, e1, by simp only [List.length_cons] at e2 ⊢; omega⟩
    · rw [if_neg hx]
      obtain ⟨left, e1, e2⟩ := b_loop ns acc (by omega)
      exact ⟨left, e1, by simp only [List.length_cons]; omega⟩
theorem begun_ok {ns : List Int} {v : PV} (hv : IsScr ns v) (hn : ns.length ≤ 63) : ∃ S', runDef C Φ dBegun [] [v] [] = .ok (.obj 1) S' ∧ (∃ left, LM 1 ns S' 0 0 left ∧ left.length ≤ 63) ∧ S'.length = 2 := by
  obtain ⟨left, e1, e2⟩ := b_loop (C := C) (Φ := Φ) (v := v) (S := []) ns [] (by simp; omega)
  have hl : left.length ≤ 63 := by simp at e2; omega
  have hz : Nat.ble (ns.map PV.int).length szL = true := Nat.ble_eq_true_of_le (by rw [List.length_map]; unfold szL; omega)
  have hz2 : Nat.ble (left.map PV.int).reverse.length szL = true := Nat.ble_eq_true_of_le (by rw [List.length_reverse, List.length_map]; unfold szL; omega)
  have ea : den C Φ (.bi (.list false) [(.var 0)]) [] [some v, none] [] = .ok (.lst (ns.map .int)) [] := by
    refine ev_bi (evA_cons rfl (ev_var rfl) evA_nil) ?_
    have : biF [] [] (.list false) [v] = mkLst false [] [] (ns.map .int) := by
      rcases hv with rfl | rfl <;> rfl
    rw [this]
    show (match Nat.ble (ns.map PV.int).length szL with
      | true => Out.ok (PV.lst (ns.map .int)) []
      | false => .fail) = _
    rw [hz]
  have eb : den C Φ (.lc true [1] (.var 1) (.var 0) (some bIf) (.var 1)) [] [some v, none] [] = .ok (.obj 0) [.lst (left.map PV.int).reverse] := by
    show ((Out.ok v [] : Out PV).bind fun src S => (loop [] never (bTurn C Φ [some v, none]) src [] S).bindF fun ys S => mkLst true [] S ys.reverse) = _
    have el : loop [] never (bTurn C Φ [some v, none]) v [] [] = .ok (left.map .int) [] := by
      rcases hv with rfl | rfl <;> exact e1
    show (loop [] never (bTurn C Φ [some v, none]) v [] []).bindF (fun ys S => mkLst true [] S ys.reverse) = _
    rw [bndF el]
    show (match Nat.ble (left.map PV.int).reverse.length szL with
      | true => Out.ok (PV.obj 0) [.lst (left.map PV.int).reverse]
      | false => .fail) = _
    rw [hz2]
  refine ⟨[.lst (left.map PV.int).reverse, .dlf (mD ns 0 0)], run_ret (ρ1 := [some v, none]) rfl (eb_ret (es_ret ?_)), ⟨left.reverse, ⟨rfl, ?_⟩, by simpa using hl⟩, rfl⟩
  · show (denD C Φ false [(.cst (.str sC)), (.bi (.list false) [(.var 0)]), (.cst (.str sL)), (.lc true [1] (.var 1) (.var 0) (some bIf) (.var 1)), (.cst (.str sA)), (.cst (.int (0)))] [] [] [some v, none] []).bind (fun kvs S => newS [] S (mkD false kvs)) = _
    show (((den C Φ (.bi (.list false) [(.var 0)]) [] [some v, none] []).bind fun vv S => match putK false (.str sC) vv [] with
      | some acc' => denD C Φ false [(.cst (.str sL)), (.lc true [1] (.var 1) (.var 0) (some bIf) (.var 1)), (.cst (.str sA)), (.cst (.int (0)))] acc' [] [some v, none] S
      | none => .fail).bind fun kvs S => newS [] S (mkD false kvs)) = _
    rw [bnd ea]
    show (((den C Φ (.lc true [1] (.var 1) (.var 0) (some bIf) (.var 1)) [] [some v, none] []).bind fun vv S => match putK false (.str sL) vv [(.str sC, .lst (ns.map .int))] with
      | some acc' => denD C Φ false [(.cst (.str sA)), (.cst (.int (0)))] acc' [] [some v, none] S
      | none => .fail).bind fun kvs S => newS [] S (mkD false kvs)) = _
    rw [bnd eb]
    rfl
  · show some (SO.lst (left.map PV.int).reverse) = _
    rw [List.map_reverse]
end
/-! ### what is handed -/
theorem selA_cons {T : Sto} {v : PV} {r : List PV} {acc : List Nat} (h : below 0 v = true) : selA T (v :: r) acc = (selA T r acc).map (fun p : List PV × List Nat => (v :: p.1, p.2)) := by
  cases v with
  | obj n => exact absurd (Nat.le_of_ble_eq_true (show Nat.ble (n + 1) 0 = true from h)) (Nat.not_succ_le_zero n)
  | non => rfl
  | bl b => rfl
  | int i => rfl
  | str x => rfl
  | tup xs =>
    show (match below 0 (.tup xs) with
      | true => (selA T r acc).map (fun p : List PV × List Nat => (PV.tup xs :: p.1, p.2))
      | false => none) = _
    rw [h]
  | lst xs =>
    show (match below 0 (.lst xs) with
      | true => (selA T r acc).map (fun p : List PV × List Nat => (PV.lst xs :: p.1, p.2))
      | false => none) = _
    rw [h]
  | scr xs =>
    show (match below 0 (.scr xs) with
      | true => (selA T r acc).map (fun p : List PV × List Nat => (PV.scr xs :: p.1, p.2))
      | false => none) = _
    rw [h]
theorem selA_data {T : Sto} : ∀ {ws : List PV} {acc : List Nat}, belowL 0 ws = true → selA T ws acc = some (ws, acc)
  | [], acc, _ => rfl
  | v :: ws, acc, h => by
    have h : (below 0 v && belowL 0 ws) = true := h
    rw [Bool.and_eq_true] at h
    rw [selA_cons h.1, selA_data h.2]
    rfl
/-- a new object -/
theorem gcI_new {F : DefF} {S : Sto} {c : Nat} {ws : List PV} {fs : List (Nat × PV)} (hF : F [] (.obj 0 :: ws) [.ins c []] = .ok .non [.ins c fs]) (hw : belowL 0 ws = true) (hb : belowF 0 fs = true) :
    gcI F [] (.obj (([] : Sto).length + S.length) :: ws) (S ++ [.ins c []]) = .ok .non (S ++ [.ins c fs]) := by
  have hn : ([] ++ (S ++ [SO.ins c []]))[([] : Sto).length + S.length]? = some (.ins c []) := by
    rw [List.nil_append, List.length_nil, Nat.zero_add, List.getElem?_append_right (Nat.le_refl _), Nat.sub_self]
    rfl
  show (match ([] ++ (S ++ [SO.ins c []]))[([] : Sto).length + S.length]? with
    | some o => match belowO 0 o with
      | true => match selA ([] ++ (S ++ [SO.ins c []])) ws [] with
        | some (ws, sel) => match idxN (([] : Sto).length + S.length) sel 0 with
          | none => match pickT ([] ++ (S ++ [SO.ins c []])) sel with
            | some T => gcIe [] (S ++ [SO.ins c []]) (([] : Sto).length + S.length) (F T (.obj T.length :: ws) [o])
            | none => .fail
          | some _ => .fail
        | none => .fail
      | false => .fail
    | none => .fail) = _
  rw [hn, selA_data hw]
  show gcIe [] (S ++ [SO.ins c []]) (([] : Sto).length + S.length) (F [] (.obj 0 :: ws) [.ins c []]) = _
  rw [hF]
  show (match (match belowF 0 fs with
    | true => setS [] (S ++ [SO.ins c []]) (([] : Sto).length + S.length) (.ins c fs)
    | false => none) with
    | some S' => Out.ok PV.non S'
    | none => .fail) = _
  rw [hb]
  show (match setS [] (S ++ [SO.ins c []]) (([] : Sto).length + S.length) (.ins c fs) with
    | some S' => Out.ok PV.non S'
    | none => .fail) = _
  rw [setS0 (by simp)]
  show Out.ok PV.non ((S ++ [SO.ins c []]).set (([] : Sto).length + S.length) (.ins c fs)) = _
  rw [List.length_nil, Nat.zero_add, List.set_append_right _ _ (Nat.le_refl _), Nat.sub_self]
  rfl
/-- one object among values -/
theorem gcD_one {F : DefF} {S : Sto} {n : Nat} {o : SO} {v r : PV} {S' : Sto} {as bs : List PV} (ho : S[n]? = some o) (hb : belowO 0 o = true) (ha : belowL 0 as = true) (hbs : belowL 0 bs = true) (hF : F [o] (as ++ .obj 0 :: bs) [] = .ok v S') (hv : below 0 v = true) :
    gcD F [] (as ++ .obj n :: bs) S = .ok v S := by
  have hs : ∀ as : List PV, belowL 0 as = true → selA S (as ++ .obj n :: bs) [] = some (as ++ .obj 0 :: bs, [n]) := fun as => by
    induction as with
    | nil =>
      intro _
      show (match S[n]? with
        | some o => match belowO 0 o with
          | true => (selA S bs ([] ++ [n])).map (fun p : List PV × List Nat => (PV.obj ([] : List Nat).length :: p.1, p.2))
          | false => none
        | none => none) = _
      rw [ho]
      dsimp only
      rw [hb, selA_data hbs]
      rfl
    | cons a as ih =>
      intro h
      have h : (below 0 a && belowL 0 as) = true := h
      rw [Bool.and_eq_true] at h
      rw [List.cons_append, selA_cons h.1, ih h.2]
      rfl
  show (match selA ([] ++ S) (as ++ PV.obj n :: bs) [] with
    | some (ws, sel) => match pickT ([] ++ S) sel with
      | some T => gcEnd S (F T ws [])
      | none => .fail
    | none => .fail) = _
  rw [List.nil_append, hs as ha]
  show (match (match S[n]? with
    | some o => (some [] : Option Sto).map (o :: ·)
    | none => none) with
    | some T => gcEnd S (F T (as ++ PV.obj 0 :: bs) [])
    | none => .fail) = _
  rw [ho]
  show gcEnd S (F [o] (as ++ .obj 0 :: bs) []) = _
  rw [hF]
  show (match below 0 v with
    | true => Out.ok v S
    | false => .fail) = _
  rw [hv]
/-- answers -/
def isT (o : Out PV) : Bool := match o with
  | .ok (.bl true) _ => true
  | _ => false
theorem isT_ok {o : Out PV} (h : isT o = true) : ∃ S', o = .ok (.bl true) S' := by
  unfold isT at h
  split at h
  · exact ⟨_, rfl⟩
  · cases h
end RV
end
section
/-! RVRel: how values and stores lie in the abstract heap; readings of denotations. -/
namespace RV
open PySem PySem.Spec PyProof.Rows L2

/-- where the objects of the store stand; what no value may be -/
structure Mu where
  ob : Nat → Option Addr
  hd : Addr → Prop
instance : CoeFun Mu (fun _ => Nat → Option Addr) := ⟨Mu.ob⟩
/-- no object of the store, not hidden -/
def Mu.Out (μ : Mu) (a : Addr) : Prop := (∀ n, μ n ≠ some a) ∧ ¬ μ.hd a
/-- a list that is read alone -/
def SqF (K : PySem.W.Frag) (H : Hp) (a : Addr) (ys : List V) : Prop := (∃ o, H a = some (.frz o (.lst ys))) ∨
  ∃ (o : Obj) (its : Array Value) (n : Nat), K.lookup a = some o ∧ o.cls = .type "list" ∧ o.dict = none ∧ o.data = .seq its n ∧ its.size ≤ sizeLine ∧ Vals ys its.toList
theorem SqF.sq {K : PySem.W.Frag} {H : Hp} {a : Addr} {ys : List V} (h : SqF K H a ys) : SqL K H a ys := by
  rcases h with ⟨o, h⟩ | h
  · exact .inl (.inr ⟨o, h⟩)
  · exact .inr h
/-- where things stand: classes, the names of fields, the field of an own exception -/
structure Pl where
  P : Program
  w : World
  K : PySem.W.Frag
  ca : Nat → Addr
  fn : Nat → Str
  xf : Nat → Str
  nf : Nat
  T : List (Addr × Str)

/-! ### keys -/
mutual
def nk : PV → NestedKey
  | .int i => .num i
  | .bl b => .num (if b = true then 1 else 0)
  | .str x => .text x
  | .tup xs => .tup (nks xs)
  | _ => .none
def nks : List PV → List NestedKey
  | [] => []
  | x :: xs => nk x :: nks xs
end
/-- the dict at a with these entries (tuple keys) -/
def DctX (L : Pl) (a : Addr) (xs : List (NestedKey × Addr × Value)) : HO := .ext fun h => ∃ o es ep, h.get? a = some o ∧ o.ExactDict ∧ o.data = .dict es ep ∧ es.toList = xs.map (entryOfKey (nestedKind L.P L.w))
def lk : PV → Key
  | .int i => .inl i
  | .str x => .inr x
  | _ => .inl 0

section
variable (L : Pl) (μ : Mu) (H : Hp)
mutual
def RelP : PV → V → Prop
  | .non, v => v = .non
  | .bl b, v => v = .bl b
  | .int i, v => v = .int i
  | .str x, v => v = .str x
  | .tup xs, v => ∃ a ys, v = .ref a ∧ SqT L.K H a ys ∧ RelL xs ys
  | .lst xs, v => ∃ a ys, v = .ref a ∧ H a = some (.lst ys) ∧ μ.Out a ∧ RelL xs ys
  | .scr xs, v => ∃ a ys, v = .ref a ∧ SqF L.K H a ys ∧ RelL xs ys
  | .obj n, v => ∃ a, v = .ref a ∧ μ n = some a
def RelL : List PV → List V → Prop
  | [], ys => ys = []
  | x :: xs, ys => ∃ y r, ys = y :: r ∧ RelP x y ∧ RelL xs r
end
def RelF : List (Nat × PV) → List (Str × V) → Prop
  | [], gs => gs = []
  | (f, p) :: fs, gs => ∃ v r, gs = (L.fn f, v) :: r ∧ f < L.nf ∧ RelP L μ H p v ∧ RelF fs r
/-- entries of a dict with tuple keys -/
def RelD : List (PV × PV) → List (NestedKey × Addr × Value) → Prop
  | [], gs => gs = []
  | (k, p) :: fs, gs => ∃ b v u r, gs = (nk k, b, u) :: r ∧ keyOk true k = true ∧ RelP L μ H k (.ref b) ∧ RelP L μ H p v ∧ RelV v u ∧ RelD fs r
/-- .. with leaf keys -/
def RelK : List (PV × PV) → List (Key × V) → Prop
  | [], gs => gs = []
  | (k, p) :: fs, gs => ∃ v r, gs = (lk k, v) :: r ∧ keyOk false k = true ∧ RelP L μ H p v ∧ RelK fs r
def RelO : SO → Addr → Prop
  | .lst xs, a => ∃ ys, H a = some (.lst ys) ∧ RelL L μ H xs ys
  | .ins c fs, a => ∃ dx gs, H a = some (.ins (L.ca c) dx gs) ∧ RelF L μ H fs gs
  | .dct kvs, a => ∃ xs, H a = some (DctX L a xs) ∧ (xs.map (·.1)).Nodup ∧ (a == sysModules) = false ∧ RelD L μ H kvs xs
  | .dlf kvs, a => ∃ gs, H a = some (.dK gs) ∧ (gs.map (·.1)).Nodup ∧ RelK L μ H kvs gs
/-- the tables of the code objects that lambdas made -/
def TabR : Prop := ∀ p ∈ L.T, μ.Out p.1 ∧ ∃ ps : Array Value, H p.1 = some (.tbl ps) ∧ TriplesOk ps.toList ∧ ∀ (pos : Pos) (cv : Value), codeAmong pos ps.toList = some cv → ∃ c, cv = .ref c ∧ H c = some (LamX.CodeO c p.2) ∧ μ.Out c
/-- the store lies in the heap -/
structure RelS (S : Sto) : Prop where
  obj : ∀ n o, S[n]? = some o → ∃ a, μ n = some a ∧ RelO L μ H o a
  inj : ∀ n m a, μ n = some a → μ m = some a → n = m
  dom : ∀ n a, μ n = some a → n < S.length
  hid : ∀ a, μ.hd a → H a ≠ none ∧ ∀ n, μ n ≠ some a
  tab : TabR L μ H
/-- the names -/
structure RelR (ρ : Loc) (σ : L2.St) : Prop where
  len : ρ.length = σ.length
  at_ : ∀ (i : Nat) (p : PV), ρ[i]? = some (some p) → ∃ v, σ[i]? = some (some v) ∧ RelP L μ H p v
end
/-- later: objects of the store alone may have changed -/
structure Ext (μ : Mu) (H : Hp) (μ' : Mu) (H' : Hp) : Prop where
  sub : ∀ n a, μ n = some a → μ' n = some a
  keep : ∀ a o, H a = some o → (∀ n, μ n ≠ some a) → (nt : ∀ ps, o ≠ .tbl ps := by intro _ z; cases z) → H' a = some o
  tups : ∀ a ys, H a = some (.tup ys) → H' a = some (.tup ys)
  frzs : ∀ a o u, H a = some (.frz o u) → H' a = some (.frz o u)
  there : ∀ a, H' a = none → H a = none
  new : ∀ n a, μ' n = some a → μ n = some a ∨ H a = none
  hd1 : ∀ a, μ.hd a → μ'.hd a
  hd2 : ∀ a, μ'.hd a → μ.hd a ∨ H a = none
section
variable {L : Pl} {μ μ1 μ' : Mu} {H H1 H' : Hp}
theorem Ext.refl (μ : Mu) (H : Hp) : Ext μ H μ H := ⟨fun _ _ h => h, fun _ _ h _ _ => h, fun _ _ h => h, fun _ _ _ h => h, fun _ h => h, fun _ _ h => .inl h, fun _ h => h, fun _ h => .inl h⟩
theorem Ext.trans (a : Ext μ H μ1 H1) (b : Ext μ1 H1 μ' H') : Ext μ H μ' H' where
  sub := fun n x h => b.sub n x (a.sub n x h)
  keep := fun x o h hn nt => b.keep x o (a.keep x o h hn nt) (fun n e => by
    rcases a.new n x e with z | z
    · exact hn n z
    · rw [z] at h; cases h) nt
  tups := fun x ys h => b.tups x ys (a.tups x ys h)
  frzs := fun x o u h => b.frzs x o u (a.frzs x o u h)
  there := fun x h => a.there x (b.there x h)
  new := fun n x h => by
    rcases b.new n x h with z | z
    · exact a.new n x z
    · exact .inr (a.there x z)
  hd1 := fun x h => b.hd1 x (a.hd1 x h)
  hd2 := fun x h => by
    rcases b.hd2 x h with z | z
    · exact a.hd2 x z
    · exact .inr (a.there x z)
theorem Mu.Out.mono {a : Addr} {o : HO} (e : Ext μ H μ' H') (h1 : H a = some o) (h : μ.Out a) : μ'.Out a := by
  refine ⟨fun n q => ?_, fun q => ?_⟩
  · rcases e.new n a q with z | z
    · exact h.1 n z
    · rw [z] at h1; cases h1
  · rcases e.hd2 a q with z | z
    · exact h.2 z
    · rw [z] at h1; cases h1
theorem SqT.ext {K : PySem.W.Frag} {a : Addr} {ys : List V} (e : Ext μ H μ' H') (h : SqT K H a ys) : SqT K H' a ys := by
  rcases h with (h | ⟨o, h⟩) | h
  · exact .inl (.inl (e.tups _ _ h))
  · exact .inl (.inr ⟨o, e.frzs _ _ _ h⟩)
  · exact .inr h
mutual
theorem RelP.mono (e : Ext μ H μ' H') : ∀ (p : PV) (v : V), RelP L μ H p v → RelP L μ' H' p v
  | .non, _, h => h
  | .bl _, _, h => h
  | .int _, _, h => h
  | .str _, _, h => h
  | .tup xs, _, h => by
    obtain ⟨a, ys, e1, h1, h2⟩ := h
    exact ⟨a, ys, e1, SqT.ext e h1, RelL.mono e xs ys h2⟩
  | .lst xs, _, h => by
    obtain ⟨a, ys, e1, h1, h2, h3⟩ := h
    exact ⟨a, ys, e1, e.keep _ _ h1 h2.1, h2.mono e h1, RelL.mono e xs ys h3⟩
  | .scr xs, _, h => by
    obtain ⟨a, ys, e1, h1, h2⟩ := h
    refine ⟨a, ys, e1, ?_, RelL.mono e xs ys h2⟩
    rcases h1 with ⟨o, h1⟩ | h1
    · exact .inl ⟨o, e.frzs _ _ _ h1⟩
    · exact .inr h1
  | .obj n, _, h => by
    obtain ⟨a, e1, h1⟩ := h
    exact ⟨a, e1, e.sub _ _ h1⟩
theorem RelL.mono (e : Ext μ H μ' H') : ∀ (xs : List PV) (ys : List V), RelL L μ H xs ys → RelL L μ' H' xs ys
  | [], _, h => h
  | x :: xs, _, h => by
    obtain ⟨y, r, e1, h1, h2⟩ := h
    exact ⟨y, r, e1, RelP.mono e x y h1, RelL.mono e xs r h2⟩
end
theorem RelF.mono (e : Ext μ H μ' H') : ∀ (fs : List (Nat × PV)) (gs : List (Str × V)), RelF L μ H fs gs → RelF L μ' H' fs gs
  | [], _, h => h
  | (f, p) :: fs, _, h => by
    obtain ⟨v, r, e1, hf, h1, h2⟩ := h
    exact ⟨v, r, e1, hf, RelP.mono e p v h1, RelF.mono e fs r h2⟩
theorem RelD.mono (e : Ext μ H μ' H') : ∀ (fs : List (PV × PV)) (gs : List (NestedKey × Addr × Value)), RelD L μ H fs gs → RelD L μ' H' fs gs
  | [], _, h => h
  | (k, p) :: fs, _, h => by
    obtain ⟨b, v, u, r, e1, hk, h1, h2, h3, h4⟩ := h
    exact ⟨b, v, u, r, e1, hk, RelP.mono e k _ h1, RelP.mono e p v h2, h3, RelD.mono e fs r h4⟩
theorem RelK.mono (e : Ext μ H μ' H') : ∀ (fs : List (PV × PV)) (gs : List (Key × V)), RelK L μ H fs gs → RelK L μ' H' fs gs
  | [], _, h => h
  | (k, p) :: fs, _, h => by
    obtain ⟨v, r, e1, hk, h1, h2⟩ := h
    exact ⟨v, r, e1, hk, RelP.mono e p v h1, RelK.mono e fs r h2⟩
theorem RelR.mono {ρ : Loc} {σ : L2.St} (e : Ext μ H μ' H') (r : RelR L μ H ρ σ) : RelR L μ' H' ρ σ :=
  ⟨r.len, fun i p h => let ⟨v, h1, h2⟩ := r.at_ i p h; ⟨v, h1, RelP.mono e p v h2⟩⟩
/-- what of an object stays when its own place stays -/
theorem RelO.mono (e : Ext μ H μ' H') {o : SO} {a : Addr} (h : RelO L μ H o a) (s : H' a = H a) : RelO L μ' H' o a := by
  cases o with
  | lst xs => obtain ⟨ys, h1, h2⟩ := h; exact ⟨ys, s.trans h1, RelL.mono e xs ys h2⟩
  | ins c fs => obtain ⟨dx, gs, h1, h2⟩ := h; exact ⟨dx, gs, s.trans h1, RelF.mono e fs gs h2⟩
  | dct kvs => obtain ⟨xs, h1, h2, h3, h4⟩ := h; exact ⟨xs, s.trans h1, h2, h3, RelD.mono e kvs xs h4⟩
  | dlf kvs => obtain ⟨gs, h1, h2, h3⟩ := h; exact ⟨gs, s.trans h1, h2, RelK.mono e kvs gs h3⟩

/-! ### lists -/
theorem RelL.length : ∀ {xs : List PV} {ys : List V}, RelL L μ H xs ys → xs.length = ys.length
  | [], ys, h => by
    have e : ys = [] := h
    rw [e]; rfl
  | x :: xs, _, h => by
    obtain ⟨y, r, e1, h1, h2⟩ := h
    rw [e1, List.length_cons, List.length_cons, RelL.length h2]
theorem RelL.get : ∀ {xs : List PV} {ys : List V} {i : Nat} {p : PV}, RelL L μ H xs ys → xs[i]? = some p → ∃ v, ys[i]? = some v ∧ RelP L μ H p v
  | [], _, _, _, _, e => by simp at e
  | x :: xs, _, 0, _, h, e => by
    obtain ⟨y, r, e1, h1, h2⟩ := h
    simp at e; subst e; rw [e1]
    exact ⟨y, rfl, h1⟩
  | x :: xs, _, i + 1, p, h, e => by
    obtain ⟨y, r, e1, h1, h2⟩ := h
    rw [e1]
    exact RelL.get (i := i) h2 (by simpa using e)
theorem RelL.getV {xs : List PV} {ys : List V} {i : Nat} {v : V} (h : RelL L μ H xs ys) (e : ys[i]? = some v) : ∃ p, xs[i]? = some p ∧ RelP L μ H p v := by
  have hl := h.length
  have hi : i < xs.length := by rw [hl]; exact (List.getElem?_eq_some_iff.mp e).1
  obtain ⟨v', e', r⟩ := h.get (List.getElem?_eq_getElem hi)
  rw [e] at e'; cases e'
  exact ⟨_, List.getElem?_eq_getElem hi, r⟩
theorem RelL.append : ∀ {xs xs' : List PV} {ys ys' : List V}, RelL L μ H xs ys → RelL L μ H xs' ys' → RelL L μ H (xs ++ xs') (ys ++ ys')
  | [], _, _, _, h, h' => by
    have e : _ = [] := h
    rw [e]; exact h'
  | x :: xs, _, _, _, h, h' => by
    obtain ⟨y, r, e1, h1, h2⟩ := h
    rw [e1]
    exact ⟨y, _, rfl, h1, h2.append h'⟩
theorem RelL.one {p : PV} {v : V} (h : RelP L μ H p v) : RelL L μ H [p] [v] := ⟨v, [], rfl, h, rfl⟩
theorem RelL.snoc {xs : List PV} {ys : List V} {p : PV} {v : V} (h : RelL L μ H xs ys) (r : RelP L μ H p v) : RelL L μ H (xs ++ [p]) (ys ++ [v]) := h.append (.one r)
theorem RelL.drop : ∀ {xs : List PV} {ys : List V} (n : Nat), RelL L μ H xs ys → RelL L μ H (xs.drop n) (ys.drop n)
  | _, _, 0, h => by simpa using h
  | [], _, n + 1, h => by
    have e : _ = [] := h
    rw [e]; simp [RelL]
  | x :: xs, _, n + 1, h => by
    obtain ⟨y, r, e1, h1, h2⟩ := h
    rw [e1]
    exact h2.drop n
theorem RelL.take : ∀ {xs : List PV} {ys : List V} (n : Nat), RelL L μ H xs ys → RelL L μ H (xs.take n) (ys.take n)
  | _, _, 0, h => by simp [RelL]
  | [], _, n + 1, h => by
    have e : _ = [] := h
    rw [e]; simp [RelL]
  | x :: xs, _, n + 1, h => by
    obtain ⟨y, r, e1, h1, h2⟩ := h
    rw [e1]
    exact ⟨y, _, rfl, h1, h2.take n⟩
theorem RelL.reverse {xs : List PV} : ∀ {ys : List V}, RelL L μ H xs ys → RelL L μ H xs.reverse ys.reverse := by
  induction xs with
  | nil => intro ys h; have e : ys = [] := h; rw [e]; simp [RelL]
  | cons x xs ih =>
    intro ys h
    obtain ⟨y, r, e1, h1, h2⟩ := h
    rw [e1, List.reverse_cons, List.reverse_cons]
    exact (ih h2).snoc h1
theorem RelL.set : ∀ {xs : List PV} {ys : List V} (n : Nat) {p : PV} {v : V}, RelL L μ H xs ys → RelP L μ H p v → RelL L μ H (xs.set n p) (ys.set n v)
  | [], _, _, _, _, h, _ => by
    have e : _ = [] := h
    rw [e]; simp [RelL]
  | x :: xs, _, 0, _, _, h, r => by
    obtain ⟨y, q, e1, h1, h2⟩ := h
    rw [e1]
    exact ⟨_, q, rfl, r, h2⟩
  | x :: xs, _, n + 1, _, _, h, r => by
    obtain ⟨y, q, e1, h1, h2⟩ := h
    rw [e1]
    exact ⟨y, _, rfl, h1, h2.set n r⟩
theorem RelL.ints : ∀ {xs : List PV} {ys : List V} {is : List Int}, RelL L μ H xs ys → intsOf xs = some is → ys = is.map V.int
  | [], _, _, h, e => by
    have e1 : _ = [] := h
    cases e; rw [e1]; rfl
  | .int i :: xs, _, is, h, e => by
    obtain ⟨y, r, e1, h1, h2⟩ := h
    have e2 : (intsOf xs).map (i :: ·) = some is := e
    cases q : intsOf xs with
    | none => rw [q] at e2; cases e2
    | some js =>
      rw [q] at e2; cases e2
      have h1' : y = .int i := h1
      rw [e1, h1', RelL.ints h2 q]
      rfl
  | .non :: _, _, _, _, e => by cases e
  | .bl _ :: _, _, _, _, e => by cases e
  | .str _ :: _, _, _, _, e => by cases e
  | .tup _ :: _, _, _, _, e => by cases e
  | .lst _ :: _, _, _, _, e => by cases e
  | .scr _ :: _, _, _, _, e => by cases e
  | .obj _ :: _, _, _, _, e => by cases e
theorem RelL.bools : ∀ {xs : List PV} {ys : List V} {is : List Bool}, RelL L μ H xs ys → boolsOf xs = some is → ys = is.map V.bl
  | [], _, _, h, e => by
    have e1 : _ = [] := h
    cases e; rw [e1]; rfl
  | .bl i :: xs, _, is, h, e => by
    obtain ⟨y, r, e1, h1, h2⟩ := h
    have e2 : (boolsOf xs).map (i :: ·) = some is := e
    cases q : boolsOf xs with
    | none => rw [q] at e2; cases e2
    | some js =>
      rw [q] at e2; cases e2
      have h1' : y = .bl i := h1
      rw [e1, h1', RelL.bools h2 q]
      rfl
  | .non :: _, _, _, _, e => by cases e
  | .int _ :: _, _, _, _, e => by cases e
  | .str _ :: _, _, _, _, e => by cases e
  | .tup _ :: _, _, _, _, e => by cases e
  | .lst _ :: _, _, _, _, e => by cases e
  | .scr _ :: _, _, _, _, e => by cases e
  | .obj _ :: _, _, _, _, e => by cases e

/-! ### the store -/
theorem RelS.get {S : Sto} {n : Nat} {o : SO} {v : V} (r : RelS L μ H S) (e : S[n]? = some o) (h : RelP L μ H (.obj n) v) : ∃ a, v = .ref a ∧ μ n = some a ∧ RelO L μ H o a := by
  obtain ⟨a, e1, h1⟩ := h
  obtain ⟨b, e2, h2⟩ := r.obj n o e
  rw [h1] at e2; cases e2
  exact ⟨a, e1, h1, h2⟩
theorem RelO.tracked {o : SO} {a : Addr} (h : RelO L μ H o a) : ∃ u, H a = some u := by
  cases o with
  | lst xs => obtain ⟨ys, h1, h2⟩ := h; exact ⟨_, h1⟩
  | ins c fs => obtain ⟨dx, gs, h1, h2⟩ := h; exact ⟨_, h1⟩
  | dct kvs => obtain ⟨xs, h1, h2, h3, h4⟩ := h; exact ⟨_, h1⟩
  | dlf kvs => obtain ⟨gs, h1, h2, h3⟩ := h; exact ⟨_, h1⟩
theorem RelO.nt {o : SO} {a : Addr} (h : RelO L μ H o a) : (∀ ys, H a ≠ some (.tup ys)) ∧ ∀ b u, H a ≠ some (.frz b u) := by
  cases o with
  | lst xs => obtain ⟨ys, h1, h2⟩ := h; rw [h1]; exact ⟨fun _ z => (by cases z), fun _ _ z => (by cases z)⟩
  | ins c fs => obtain ⟨dx, gs, h1, h2⟩ := h; rw [h1]; exact ⟨fun _ z => (by cases z), fun _ _ z => (by cases z)⟩
  | dct kvs => obtain ⟨xs, h1, h2, h3, h4⟩ := h; rw [h1]; exact ⟨fun _ z => (by cases z), fun _ _ z => (by cases z)⟩
  | dlf kvs => obtain ⟨gs, h1, h2, h3⟩ := h; rw [h1]; exact ⟨fun _ z => (by cases z), fun _ _ z => (by cases z)⟩
theorem RelO.ntb {o : SO} {a : Addr} {u : HO} (h : RelO L μ H o a) (e : H a = some u) : ∀ ps, u ≠ .tbl ps := by
  rintro ps rfl
  cases o with
  | lst xs => obtain ⟨ys, h1, h2⟩ := h; rw [h1] at e; cases e
  | ins c fs => obtain ⟨dx, gs, h1, h2⟩ := h; rw [h1] at e; cases e
  | dct kvs => obtain ⟨xs, h1, h2, h3, h4⟩ := h; rw [h1] at e; cases e
  | dlf kvs => obtain ⟨gs, h1, h2, h3⟩ := h; rw [h1] at e; cases e
theorem TabR.mono (t : TabR L μ H) (k : ∀ a o, H a = some o → μ.Out a → H' a = some o ∧ μ'.Out a) : TabR L μ' H' := fun p hp => by
  obtain ⟨h0, ps, h1, h2, h3⟩ := t p hp
  obtain ⟨g1, g2⟩ := k _ _ h1 h0
  refine ⟨g2, ps, g1, h2, fun pos cv e => ?_⟩
  obtain ⟨c, e1, e2, e3⟩ := h3 pos cv e
  obtain ⟨g3, g4⟩ := k _ _ e2 e3
  exact ⟨c, e1, g3, g4⟩
/-- a new tracked thing that the store does not hold -/
theorem Ext.laid {S : Sto} (r : RelS L μ H S) {a : Addr} {o : HO} (hn : H a = none) : Ext μ H μ (upd H a o) :=
  ⟨fun _ _ h => h, fun b u h _ _ => by rw [upd_ne (ne_of_none h hn)]; exact h, fun b u h => by rw [upd_ne (ne_of_none h hn)]; exact h, fun b u v h => by rw [upd_ne (ne_of_none h hn)]; exact h,
    fun b h => by
      by_cases e : b = a
      · rw [e]; exact hn
      · rw [upd_ne e] at h; exact h, fun _ _ h => .inl h, fun _ h => h, fun _ h => .inl h⟩
theorem upd_some {a b : Addr} {o : HO} (h : H b ≠ none) : upd H a o b ≠ none := by
  by_cases e : b = a
  · rw [e, upd_same]; exact fun z => by cases z
  · rw [upd_ne e]; exact h
theorem RelS.laid {S : Sto} (r : RelS L μ H S) {a : Addr} {o : HO} (hn : H a = none) : RelS L μ (upd H a o) S :=
  ⟨fun n u e => by
    obtain ⟨b, e1, h1⟩ := r.obj n u e
    refine ⟨b, e1, h1.mono (Ext.laid r hn) ?_⟩
    obtain ⟨w, hw⟩ := h1.tracked
    exact upd_ne (ne_of_none hw hn), r.inj, r.dom, fun b h => ⟨upd_some (r.hid b h).1, (r.hid b h).2⟩, r.tab.mono fun b u e k => ⟨by rw [upd_ne (ne_of_none e hn)]; exact e, k⟩⟩
/-- .. that it does hold, as its newest object -/
def Mu.push (μ : Mu) (n : Nat) (a : Addr) : Mu := ⟨fun k => if k = n then some a else μ k, μ.hd⟩
theorem Ext.push {S : Sto} (r : RelS L μ H S) {a : Addr} {o : HO} (hn : H a = none) : Ext μ H (μ.push S.length a) (upd H a o) where
  sub := fun n b h => by
    have := r.dom n b h
    show (if n = S.length then some a else μ n) = some b
    rw [if_neg (by omega)]; exact h
  keep := fun b u h _ _ => by rw [upd_ne (ne_of_none h hn)]; exact h
  tups := fun b u h => by rw [upd_ne (ne_of_none h hn)]; exact h
  frzs := fun b u v h => by rw [upd_ne (ne_of_none h hn)]; exact h
  there := fun b h => by
    by_cases e : b = a
    · rw [e]; exact hn
    · rw [upd_ne e] at h; exact h
  new := fun n b h => by
    have h : (if n = S.length then some a else μ n) = some b := h
    split at h
    · cases h; exact .inr hn
    · exact .inl h
  hd1 := fun _ h => h
  hd2 := fun _ h => .inl h
theorem RelS.push {S : Sto} (r : RelS L μ H S) {a : Addr} {o : HO} {so : SO} (hn : H a = none) (h : RelO L (μ.push S.length a) (upd H a o) so a) : RelS L (μ.push S.length a) (upd H a o) (S ++ [so]) where
  obj := fun n u e => by
    by_cases hl : n < S.length
    · rw [List.getElem?_append_left hl] at e
      obtain ⟨b, e1, h1⟩ := r.obj n u e
      obtain ⟨w, hw⟩ := h1.tracked
      refine ⟨b, (Ext.push (o := o) r hn).sub n b e1, h1.mono (Ext.push r hn) (upd_ne (ne_of_none hw hn))⟩
    · rw [List.getElem?_append_right (by omega)] at e
      have hz : n - S.length = 0 := by
        have := (List.getElem?_eq_some_iff.mp e).1
        simp at this; omega
      rw [hz] at e
      simp at e
      subst e
      refine ⟨a, ?_, h⟩
      show (if n = S.length then some a else μ n) = some a
      rw [if_pos (by omega)]
  inj := fun n m b h1 h2 => by
    have h1 : (if n = S.length then some a else μ n) = some b := h1
    have h2 : (if m = S.length then some a else μ m) = some b := h2
    have hv : ∀ k, μ k = some a → False := fun k q => by
      have hk := r.dom k a q
      obtain ⟨c, e1, h3⟩ := r.obj k _ (List.getElem?_eq_getElem hk)
      rw [q] at e1; cases e1
      obtain ⟨u, hu⟩ := h3.tracked
      rw [hn] at hu; cases hu
    split at h1
    · split at h2
      · omega
      · cases h1; exact (hv m h2).elim
    · split at h2
      · cases h2; exact (hv n h1).elim
      · exact r.inj n m b h1 h2
  dom := fun n b h => by
    have h : (if n = S.length then some a else μ n) = some b := h
    rw [List.length_append]
    split at h
    · simp; omega
    · have := r.dom n b h; simp; omega
  hid := fun b h => by
    refine ⟨upd_some (r.hid b h).1, fun n q => ?_⟩
    have q : (if n = S.length then some a else μ n) = some b := q
    split at q
    · have q : a = b := Option.some.inj q
      exact (r.hid b h).1 (by rw [← q]; exact hn)
    · exact (r.hid b h).2 n q
  tab := r.tab.mono fun b u e k => ⟨by rw [upd_ne (ne_of_none e hn)]; exact e, k.mono (Ext.push (o := o) r hn) e⟩
/-- an object of the store is written -/
theorem Ext.write {S : Sto} (r : RelS L μ H S) {n : Nat} {a : Addr} {o : HO} (ha : μ n = some a) (hS : n < S.length) : Ext μ H μ (upd H a o) := by
  obtain ⟨b, e1, h1⟩ := r.obj n _ (List.getElem?_eq_getElem hS)
  rw [ha] at e1; cases e1
  obtain ⟨t1, t2⟩ := h1.nt
  refine ⟨fun _ _ h => h, fun b u h hb _ => ?_, fun b u h => ?_, fun b u v h => ?_, fun b h => ?_, fun _ _ h => .inl h, fun _ h => h, fun _ h => .inl h⟩
  · rw [upd_ne (fun z => hb n (by rw [z]; exact ha))]; exact h
  · rw [upd_ne (fun z => t1 u (by rw [← z]; exact h))]; exact h
  · rw [upd_ne (fun z => t2 u v (by rw [← z]; exact h))]; exact h
  · by_cases e : b = a
    · rw [e, upd_same] at h; cases h
    · rw [upd_ne e] at h; exact h
theorem RelS.write {S : Sto} (r : RelS L μ H S) {n : Nat} {a : Addr} {o : HO} {so : SO} (ha : μ n = some a) (hS : n < S.length) (h : RelO L μ (upd H a o) so a) : RelS L μ (upd H a o) (S.set n so) where
  obj := fun m u e => by
    by_cases hm : m = n
    · subst hm
      rw [List.getElem?_set_self hS] at e; cases e
      exact ⟨a, ha, h⟩
    · rw [List.getElem?_set_ne (Ne.symm hm)] at e
      obtain ⟨b, e1, h1⟩ := r.obj m u e
      refine ⟨b, e1, h1.mono (Ext.write r ha hS) (upd_ne fun z => hm (r.inj m n a (by rw [← z]; exact e1) ha))⟩
  inj := r.inj
  dom := fun m b e => by rw [List.length_set]; exact r.dom m b e
  hid := fun b h => ⟨upd_some (r.hid b h).1, (r.hid b h).2⟩
  tab := r.tab.mono fun b u e k => ⟨by rw [upd_ne (fun z => k.1 n (by rw [z]; exact ha))]; exact e, k⟩
/-! ### hidden -/
def Mu.hide (μ : Mu) (a : Addr) : Mu := ⟨μ.ob, fun b => b = a ∨ μ.hd b⟩
theorem Ext.hide {S : Sto} (r : RelS L μ H S) {a : Addr} {o : HO} (hn : H a = none) : Ext μ H (μ.hide a) (upd H a o) where
  sub := fun _ _ h => h
  keep := fun b u h _ _ => by rw [upd_ne (ne_of_none h hn)]; exact h
  tups := fun b u h => by rw [upd_ne (ne_of_none h hn)]; exact h
  frzs := fun b u v h => by rw [upd_ne (ne_of_none h hn)]; exact h
  there := (Ext.laid (o := o) r hn).there
  new := fun _ _ h => .inl h
  hd1 := fun _ h => .inr h
  hd2 := fun b h => by
    rcases h with h | h
    · rw [h]; exact .inr hn
    · exact .inl h
theorem RelS.hide {S : Sto} (r : RelS L μ H S) {a : Addr} {o : HO} (hn : H a = none) : RelS L (μ.hide a) (upd H a o) S where
  obj := fun n u e => by
    obtain ⟨b, e1, h1⟩ := r.obj n u e
    obtain ⟨w, hw⟩ := h1.tracked
    exact ⟨b, e1, h1.mono (Ext.hide r hn) (upd_ne (ne_of_none hw hn))⟩
  inj := r.inj
  dom := r.dom
  hid := fun b h => by
    rcases h with h | h
    · rw [h]
      refine ⟨by rw [upd_same]; exact fun z => (by cases z), fun n q => ?_⟩
      have hk := r.dom n a q
      obtain ⟨c, e1, h3⟩ := r.obj n _ (List.getElem?_eq_getElem hk)
      rw [show μ.ob n = some a from q] at e1; cases e1
      obtain ⟨u, hu⟩ := h3.tracked
      rw [hn] at hu; cases hu
    · exact ⟨upd_some (r.hid b h).1, (r.hid b h).2⟩
  tab := r.tab.mono fun b u e k => ⟨by rw [upd_ne (ne_of_none e hn)]; exact e, k.mono (Ext.hide (o := o) r hn) e⟩
/-- what is hidden is written -/
theorem Ext.over {a : Addr} {o : HO} (e : Ext μ H μ' H') (hn : H a = none) : Ext μ H μ' (upd H' a o) where
  sub := e.sub
  keep := fun b u h hb nt => by rw [upd_ne (ne_of_none h hn)]; exact e.keep b u h hb nt
  tups := fun b u h => by rw [upd_ne (ne_of_none h hn)]; exact e.tups b u h
  frzs := fun b u v h => by rw [upd_ne (ne_of_none h hn)]; exact e.frzs b u v h
  there := fun b h => by
    by_cases z : b = a
    · rw [z]; exact hn
    · rw [upd_ne z] at h; exact e.there b h
  new := e.new
  hd1 := e.hd1
  hd2 := e.hd2
/-- an object that is no tuple and nothing frozen -/
def Loose (H : Hp) (a : Addr) : Prop := (∀ ys, H a ≠ some (.tup ys)) ∧ ∀ b u, H a ≠ some (.frz b u)
/-! later, where hidden objects may have changed too -/
structure Ex0 (μ : Mu) (H : Hp) (μ' : Mu) (H' : Hp) : Prop where
  sub : ∀ n a, μ n = some a → μ' n = some a
  keep : ∀ a o, H a = some o → μ.Out a → (nt : ∀ ps, o ≠ .tbl ps := by intro _ z; cases z) → H' a = some o
  tups : ∀ a ys, H a = some (.tup ys) → H' a = some (.tup ys)
  frzs : ∀ a o u, H a = some (.frz o u) → H' a = some (.frz o u)
  there : ∀ a, H' a = none → H a = none
  new : ∀ n a, μ' n = some a → μ n = some a ∨ H a = none
  hd1 : ∀ a, μ.hd a → μ'.hd a
  hd2 : ∀ a, μ'.hd a → μ.hd a ∨ H a = none
theorem Ext.ex0 (e : Ext μ H μ' H') : Ex0 μ H μ' H' := ⟨e.sub, fun a o h k nt => e.keep a o h k.1 nt, e.tups, e.frzs, e.there, e.new, e.hd1, e.hd2⟩
theorem Mu.Out.mono0 {a : Addr} {o : HO} (e : Ex0 μ H μ' H') (h1 : H a = some o) (h : μ.Out a) : μ'.Out a := by
  refine ⟨fun n q => ?_, fun q => ?_⟩
  · rcases e.new n a q with z | z
    · exact h.1 n z
    · rw [z] at h1; cases h1
  · rcases e.hd2 a q with z | z
    · exact h.2 z
    · rw [z] at h1; cases h1
theorem Ex0.trans (a : Ex0 μ H μ1 H1) (b : Ex0 μ1 H1 μ' H') : Ex0 μ H μ' H' where
  sub := fun n x h => b.sub n x (a.sub n x h)
  keep := fun x o h hn nt => b.keep x o (a.keep x o h hn nt) (hn.mono0 a h) nt
  tups := fun x ys h => b.tups x ys (a.tups x ys h)
  frzs := fun x o u h => b.frzs x o u (a.frzs x o u h)
  there := fun x h => a.there x (b.there x h)
  new := fun n x h => by
    rcases b.new n x h with z | z
    · exact a.new n x z
    · exact .inr (a.there x z)
  hd1 := fun x h => b.hd1 x (a.hd1 x h)
  hd2 := fun x h => by
    rcases b.hd2 x h with z | z
    · exact a.hd2 x z
    · exact .inr (a.there x z)
theorem Ex0.over {a : Addr} {o : HO} (e : Ex0 μ H μ' H') (hd : μ.hd a) (hl : Loose H a) : Ex0 μ H μ' (upd H' a o) where
  sub := e.sub
  keep := fun b u h hb nt => by rw [upd_ne (fun z => hb.2 (by rw [z]; exact hd))]; exact e.keep b u h hb nt
  tups := fun b u h => by rw [upd_ne (fun z => hl.1 u (by rw [← z]; exact h))]; exact e.tups b u h
  frzs := fun b u v h => by rw [upd_ne (fun z => hl.2 u v (by rw [← z]; exact h))]; exact e.frzs b u v h
  there := fun b h => by
    by_cases z : b = a
    · rw [z, upd_same] at h; cases h
    · rw [upd_ne z] at h; exact e.there b h
  new := e.new
  hd1 := e.hd1
  hd2 := e.hd2
theorem SqT.ext0 {K : PySem.W.Frag} {a : Addr} {ys : List V} (e : Ex0 μ H μ' H') (h : SqT K H a ys) : SqT K H' a ys := by
  rcases h with (h | ⟨o, h⟩) | h
  · exact .inl (.inl (e.tups _ _ h))
  · exact .inl (.inr ⟨o, e.frzs _ _ _ h⟩)
  · exact .inr h
mutual
theorem RelP.mono0 (e : Ex0 μ H μ' H') : ∀ (p : PV) (v : V), RelP L μ H p v → RelP L μ' H' p v
  | .non, _, h => h
  | .bl _, _, h => h
  | .int _, _, h => h
  | .str _, _, h => h
  | .tup xs, _, h => by
    obtain ⟨a, ys, e1, h1, h2⟩ := h
    exact ⟨a, ys, e1, SqT.ext0 e h1, RelL.mono0 e xs ys h2⟩
  | .lst xs, _, h => by
    obtain ⟨a, ys, e1, h1, h2, h3⟩ := h
    exact ⟨a, ys, e1, e.keep _ _ h1 h2, h2.mono0 e h1, RelL.mono0 e xs ys h3⟩
  | .scr xs, _, h => by
    obtain ⟨a, ys, e1, h1, h2⟩ := h
    refine ⟨a, ys, e1, ?_, RelL.mono0 e xs ys h2⟩
    rcases h1 with ⟨o, h1⟩ | h1
    · exact .inl ⟨o, e.frzs _ _ _ h1⟩
    · exact .inr h1
  | .obj n, _, h => by
    obtain ⟨a, e1, h1⟩ := h
    exact ⟨a, e1, e.sub _ _ h1⟩
theorem RelL.mono0 (e : Ex0 μ H μ' H') : ∀ (xs : List PV) (ys : List V), RelL L μ H xs ys → RelL L μ' H' xs ys
  | [], _, h => h
  | x :: xs, _, h => by
    obtain ⟨y, r, e1, h1, h2⟩ := h
    exact ⟨y, r, e1, RelP.mono0 e x y h1, RelL.mono0 e xs r h2⟩
end
theorem RelR.mono0 {ρ : Loc} {σ : L2.St} (e : Ex0 μ H μ' H') (r : RelR L μ H ρ σ) : RelR L μ' H' ρ σ :=
  ⟨r.len, fun i p h => let ⟨v, h1, h2⟩ := r.at_ i p h; ⟨v, h1, RelP.mono0 e p v h2⟩⟩
mutual
theorem RelP.over {a : Addr} {o : HO} (hd : μ.hd a) (hl : Loose H a) : ∀ (p : PV) (v : V), RelP L μ H p v → RelP L μ (upd H a o) p v
  | .non, _, h => h
  | .bl _, _, h => h
  | .int _, _, h => h
  | .str _, _, h => h
  | .tup xs, _, h => by
    obtain ⟨b, ys, e1, h1, h2⟩ := h
    refine ⟨b, ys, e1, ?_, RelL.over hd hl xs ys h2⟩
    rcases h1 with (h1 | ⟨o, h1⟩) | h1
    · exact .inl (.inl (by rw [upd_ne (fun z => hl.1 ys (by rw [← z]; exact h1))]; exact h1))
    · exact .inl (.inr ⟨o, by rw [upd_ne (fun z => hl.2 _ _ (by rw [← z]; exact h1))]; exact h1⟩)
    · exact .inr h1
  | .lst xs, _, h => by
    obtain ⟨b, ys, e1, h1, h2, h3⟩ := h
    exact ⟨b, ys, e1, by rw [upd_ne (fun z => h2.2 (by rw [z]; exact hd))]; exact h1, h2, RelL.over hd hl xs ys h3⟩
  | .scr xs, _, h => by
    obtain ⟨b, ys, e1, h1, h2⟩ := h
    refine ⟨b, ys, e1, ?_, RelL.over hd hl xs ys h2⟩
    rcases h1 with ⟨o, h1⟩ | h1
    · exact .inl ⟨o, by rw [upd_ne (fun z => hl.2 _ _ (by rw [← z]; exact h1))]; exact h1⟩
    · exact .inr h1
  | .obj n, _, h => h
theorem RelL.over {a : Addr} {o : HO} (hd : μ.hd a) (hl : Loose H a) : ∀ (xs : List PV) (ys : List V), RelL L μ H xs ys → RelL L μ (upd H a o) xs ys
  | [], _, h => h
  | x :: xs, _, h => by
    obtain ⟨y, r, e1, h1, h2⟩ := h
    exact ⟨y, r, e1, RelP.over hd hl x y h1, RelL.over hd hl xs r h2⟩
end
theorem RelF.over {a : Addr} {o : HO} (hd : μ.hd a) (hl : Loose H a) : ∀ (fs : List (Nat × PV)) (gs : List (Str × V)), RelF L μ H fs gs → RelF L μ (upd H a o) fs gs
  | [], _, h => h
  | (f, p) :: fs, _, h => by
    obtain ⟨v, r, e1, hf, h1, h2⟩ := h
    exact ⟨v, r, e1, hf, RelP.over hd hl p v h1, RelF.over hd hl fs r h2⟩
theorem RelD.over {a : Addr} {o : HO} (hd : μ.hd a) (hl : Loose H a) : ∀ (fs : List (PV × PV)) (gs : List (NestedKey × Addr × Value)), RelD L μ H fs gs → RelD L μ (upd H a o) fs gs
  | [], _, h => h
  | (k, p) :: fs, _, h => by
    obtain ⟨b, v, u, r, e1, hk, h1, h2, h3, h4⟩ := h
    exact ⟨b, v, u, r, e1, hk, RelP.over hd hl k _ h1, RelP.over hd hl p v h2, h3, RelD.over hd hl fs r h4⟩
theorem RelK.over {a : Addr} {o : HO} (hd : μ.hd a) (hl : Loose H a) : ∀ (fs : List (PV × PV)) (gs : List (Key × V)), RelK L μ H fs gs → RelK L μ (upd H a o) fs gs
  | [], _, h => h
  | (k, p) :: fs, _, h => by
    obtain ⟨v, r, e1, hk, h1, h2⟩ := h
    exact ⟨v, r, e1, hk, RelP.over hd hl p v h1, RelK.over hd hl fs r h2⟩
theorem RelO.over {a b : Addr} {o : HO} (hd : μ.hd a) (hl : Loose H a) (hb : b ≠ a) {so : SO} (h : RelO L μ H so b) : RelO L μ (upd H a o) so b := by
  cases so with
  | lst xs => obtain ⟨ys, h1, h2⟩ := h; exact ⟨ys, by rw [upd_ne hb]; exact h1, RelL.over hd hl xs ys h2⟩
  | ins c fs => obtain ⟨dx, gs, h1, h2⟩ := h; exact ⟨dx, gs, by rw [upd_ne hb]; exact h1, RelF.over hd hl fs gs h2⟩
  | dct kvs => obtain ⟨xs, h1, h2, h3, h4⟩ := h; exact ⟨xs, by rw [upd_ne hb]; exact h1, h2, h3, RelD.over hd hl kvs xs h4⟩
  | dlf kvs => obtain ⟨gs, h1, h2, h3⟩ := h; exact ⟨gs, by rw [upd_ne hb]; exact h1, h2, RelK.over hd hl kvs gs h3⟩
theorem RelS.over {S : Sto} (r : RelS L μ H S) {a : Addr} {o : HO} (hd : μ.hd a) (hl : Loose H a) : RelS L μ (upd H a o) S where
  obj := fun n u e => by
    obtain ⟨b, e1, h1⟩ := r.obj n u e
    exact ⟨b, e1, h1.over hd hl fun z => (r.hid a hd).2 n (by rw [← z]; exact e1)⟩
  inj := r.inj
  dom := r.dom
  hid := fun b h => ⟨upd_some (r.hid b h).1, (r.hid b h).2⟩
  tab := r.tab.mono fun b u e k => ⟨by rw [upd_ne (fun z => k.2 (by rw [z]; exact hd))]; exact e, k⟩
/-! ### fewer hidden: the hidden of another time -/
def Mu.show (μ : Mu) (ν : Mu) : Mu := ⟨μ.ob, ν.hd⟩
mutual
theorem RelP.weak {μ ν : Mu} (hs : ∀ a, ν.hd a → μ.hd a) : ∀ (p : PV) (v : V), RelP L μ H p v → RelP L (μ.show ν) H p v
  | .non, _, h => h
  | .bl _, _, h => h
  | .int _, _, h => h
  | .str _, _, h => h
  | .tup xs, _, h => by
    obtain ⟨a, ys, e1, h1, h2⟩ := h
    exact ⟨a, ys, e1, h1, RelL.weak hs xs ys h2⟩
  | .lst xs, _, h => by
    obtain ⟨a, ys, e1, h1, h2, h3⟩ := h
    exact ⟨a, ys, e1, h1, ⟨h2.1, fun z => h2.2 (hs a z)⟩, RelL.weak hs xs ys h3⟩
  | .scr xs, _, h => by
    obtain ⟨a, ys, e1, h1, h2⟩ := h
    exact ⟨a, ys, e1, h1, RelL.weak hs xs ys h2⟩
  | .obj n, _, h => h
theorem RelL.weak {μ ν : Mu} (hs : ∀ a, ν.hd a → μ.hd a) : ∀ (xs : List PV) (ys : List V), RelL L μ H xs ys → RelL L (μ.show ν) H xs ys
  | [], _, h => h
  | x :: xs, _, h => by
    obtain ⟨y, r, e1, h1, h2⟩ := h
    exact ⟨y, r, e1, RelP.weak hs x y h1, RelL.weak hs xs r h2⟩
end
theorem RelF.weak {μ ν : Mu} (hs : ∀ a, ν.hd a → μ.hd a) : ∀ (fs : List (Nat × PV)) (gs : List (Str × V)), RelF L μ H fs gs → RelF L (μ.show ν) H fs gs
  | [], _, h => h
  | (f, p) :: fs, _, h => by
    obtain ⟨v, r, e1, hf, h1, h2⟩ := h
    exact ⟨v, r, e1, hf, RelP.weak hs p v h1, RelF.weak hs fs r h2⟩
theorem RelD.weak {μ ν : Mu} (hs : ∀ a, ν.hd a → μ.hd a) : ∀ (fs : List (PV × PV)) (gs : List (NestedKey × Addr × Value)), RelD L μ H fs gs → RelD L (μ.show ν) H fs gs
  | [], _, h => h
  | (k, p) :: fs, _, h => by
    obtain ⟨b, v, u, r, e1, hk, h1, h2, h3, h4⟩ := h
    exact ⟨b, v, u, r, e1, hk, RelP.weak hs k _ h1, RelP.weak hs p v h2, h3, RelD.weak hs fs r h4⟩
theorem RelK.weak {μ ν : Mu} (hs : ∀ a, ν.hd a → μ.hd a) : ∀ (fs : List (PV × PV)) (gs : List (Key × V)), RelK L μ H fs gs → RelK L (μ.show ν) H fs gs
  | [], _, h => h
  | (k, p) :: fs, _, h => by
    obtain ⟨v, r, e1, hk, h1, h2⟩ := h
    exact ⟨v, r, e1, hk, RelP.weak hs p v h1, RelK.weak hs fs r h2⟩
theorem RelO.weak {μ ν : Mu} (hs : ∀ a, ν.hd a → μ.hd a) {a : Addr} {so : SO} (h : RelO L μ H so a) : RelO L (μ.show ν) H so a := by
  cases so with
  | lst xs => obtain ⟨ys, h1, h2⟩ := h; exact ⟨ys, h1, RelL.weak hs xs ys h2⟩
  | ins c fs => obtain ⟨dx, gs, h1, h2⟩ := h; exact ⟨dx, gs, h1, RelF.weak hs fs gs h2⟩
  | dct kvs => obtain ⟨xs, h1, h2, h3, h4⟩ := h; exact ⟨xs, h1, h2, h3, RelD.weak hs kvs xs h4⟩
  | dlf kvs => obtain ⟨gs, h1, h2, h3⟩ := h; exact ⟨gs, h1, h2, RelK.weak hs kvs gs h3⟩
theorem RelS.weak {μ ν : Mu} (hs : ∀ a, ν.hd a → μ.hd a) {S : Sto} (r : RelS L μ H S) : RelS L (μ.show ν) H S where
  obj := fun n u e => by
    obtain ⟨b, e1, h1⟩ := r.obj n u e
    exact ⟨b, e1, h1.weak hs⟩
  inj := r.inj
  dom := r.dom
  hid := fun b h => r.hid b (hs b h)
  tab := r.tab.mono fun b u e k => ⟨e, k.1, fun z => k.2 (hs b z)⟩
theorem Ext.weak {ν : Mu} (e : Ext μ H μ' H') (h1 : ∀ a, μ.hd a → ν.hd a) (h2 : ∀ a, ν.hd a → μ'.hd a) : Ext μ H (μ'.show ν) H' where
  sub := e.sub
  keep := fun a o h hn nt => e.keep a o h hn nt
  tups := e.tups
  frzs := e.frzs
  there := e.there
  new := e.new
  hd1 := h1
  hd2 := fun a h => e.hd2 a (h2 a h)
/-! ### other places of the same objects -/
structure ReOk (μ ν : Mu) : Prop where
  sub : ∀ n a, μ n = some a → ν n = some a
  out : ∀ a, μ.Out a → ν.Out a
mutual
theorem RelP.re {ν : Mu} (k : ReOk μ ν) : ∀ (p : PV) (v : V), RelP L μ H p v → RelP L ν H p v
  | .non, _, h => h
  | .bl _, _, h => h
  | .int _, _, h => h
  | .str _, _, h => h
  | .tup xs, _, h => by
    obtain ⟨a, ys, e1, h1, h2⟩ := h
    exact ⟨a, ys, e1, h1, RelL.re k xs ys h2⟩
  | .lst xs, _, h => by
    obtain ⟨a, ys, e1, h1, h2, h3⟩ := h
    exact ⟨a, ys, e1, h1, k.out a h2, RelL.re k xs ys h3⟩
  | .scr xs, _, h => by
    obtain ⟨a, ys, e1, h1, h2⟩ := h
    exact ⟨a, ys, e1, h1, RelL.re k xs ys h2⟩
  | .obj n, _, h => by
    obtain ⟨a, e1, h1⟩ := h
    exact ⟨a, e1, k.sub n a h1⟩
theorem RelL.re {ν : Mu} (k : ReOk μ ν) : ∀ (xs : List PV) (ys : List V), RelL L μ H xs ys → RelL L ν H xs ys
  | [], _, h => h
  | x :: xs, _, h => by
    obtain ⟨y, r, e1, h1, h2⟩ := h
    exact ⟨y, r, e1, RelP.re k x y h1, RelL.re k xs r h2⟩
end
theorem RelF.re {ν : Mu} (k : ReOk μ ν) : ∀ (fs : List (Nat × PV)) (gs : List (Str × V)), RelF L μ H fs gs → RelF L ν H fs gs
  | [], _, h => h
  | (f, p) :: fs, _, h => by
    obtain ⟨v, r, e1, hf, h1, h2⟩ := h
    exact ⟨v, r, e1, hf, RelP.re k p v h1, RelF.re k fs r h2⟩
theorem RelD.re {ν : Mu} (k : ReOk μ ν) : ∀ (fs : List (PV × PV)) (gs : List (NestedKey × Addr × Value)), RelD L μ H fs gs → RelD L ν H fs gs
  | [], _, h => h
  | (q, p) :: fs, _, h => by
    obtain ⟨b, v, u, r, e1, hk, h1, h2, h3, h4⟩ := h
    exact ⟨b, v, u, r, e1, hk, RelP.re k q _ h1, RelP.re k p v h2, h3, RelD.re k fs r h4⟩
theorem RelK.re {ν : Mu} (k : ReOk μ ν) : ∀ (fs : List (PV × PV)) (gs : List (Key × V)), RelK L μ H fs gs → RelK L ν H fs gs
  | [], _, h => h
  | (q, p) :: fs, _, h => by
    obtain ⟨v, r, e1, hk, h1, h2⟩ := h
    exact ⟨v, r, e1, hk, RelP.re k p v h1, RelK.re k fs r h2⟩
theorem RelO.re {ν : Mu} (k : ReOk μ ν) {a : Addr} {so : SO} (h : RelO L μ H so a) : RelO L ν H so a := by
  cases so with
  | lst xs => obtain ⟨ys, h1, h2⟩ := h; exact ⟨ys, h1, RelL.re k xs ys h2⟩
  | ins c fs => obtain ⟨dx, gs, h1, h2⟩ := h; exact ⟨dx, gs, h1, RelF.re k fs gs h2⟩
  | dct kvs => obtain ⟨xs, h1, h2, h3, h4⟩ := h; exact ⟨xs, h1, h2, h3, RelD.re k kvs xs h4⟩
  | dlf kvs => obtain ⟨gs, h1, h2, h3⟩ := h; exact ⟨gs, h1, h2, RelK.re k kvs gs h3⟩
/-- what was hidden becomes the newest object -/
def Mu.adopt (μ ν : Mu) (n : Nat) (a : Addr) : Mu := ⟨fun k => if k = n then some a else μ k, ν.hd⟩
theorem adopt_re {ν : Mu} {S : Sto} {D : Addr} (r : RelS L μ H S) (hs : ∀ a, ν.hd a → μ.hd a) (hD : μ.hd D) : ReOk μ (μ.adopt ν S.length D) where
  sub := fun n a h => by
    have := r.dom n a h
    show (if n = S.length then some D else μ n) = some a
    rw [if_neg (by omega)]; exact h
  out := fun a h => by
    refine ⟨fun n q => ?_, fun q => h.2 (hs a q)⟩
    have q : (if n = S.length then some D else μ n) = some a := q
    split at q
    · have q : D = a := Option.some.inj q
      exact h.2 (by rw [← q]; exact hD)
    · exact h.1 n q
theorem Ext.adopt {ν : Mu} {S : Sto} {D : Addr} (e : Ext ν H1 μ H) (r : RelS L μ H S) (hD : H1 D = none) : Ext ν H1 (μ.adopt ν S.length D) H where
  sub := fun n a h => by
    have := r.dom n a (e.sub n a h)
    show (if n = S.length then some D else μ n) = some a
    rw [if_neg (by omega)]; exact e.sub n a h
  keep := fun a o h hn nt => e.keep a o h hn nt
  tups := e.tups
  frzs := e.frzs
  there := e.there
  new := fun n a h => by
    have h : (if n = S.length then some D else μ n) = some a := h
    split at h
    · have h : D = a := Option.some.inj h
      exact .inr (by rw [← h]; exact hD)
    · exact e.new n a h
  hd1 := fun _ h => h
  hd2 := fun _ h => .inl h
theorem RelS.adopt {ν : Mu} {S : Sto} {D : Addr} {so : SO} (r : RelS L μ H S) (hs : ∀ a, ν.hd a → μ.hd a) (hD : μ.hd D) (hn : ¬ ν.hd D) (h : RelO L μ H so D) : RelS L (μ.adopt ν S.length D) H (S ++ [so]) where
  obj := fun n u e => by
    by_cases hl : n < S.length
    · rw [List.getElem?_append_left hl] at e
      obtain ⟨b, e1, h1⟩ := r.obj n u e
      exact ⟨b, (adopt_re r hs hD).sub n b e1, h1.re (adopt_re r hs hD)⟩
    · rw [List.getElem?_append_right (by omega)] at e
      have hz : n - S.length = 0 := by
        have := (List.getElem?_eq_some_iff.mp e).1
        simp at this; omega
      rw [hz] at e
      simp at e
      subst e
      refine ⟨D, ?_, h.re (adopt_re r hs hD)⟩
      show (if n = S.length then some D else μ n) = some D
      rw [if_pos (by omega)]
  inj := fun n m b h1 h2 => by
    have h1 : (if n = S.length then some D else μ n) = some b := h1
    have h2 : (if m = S.length then some D else μ m) = some b := h2
    split at h1
    · split at h2
      · omega
      · have h1 : D = b := Option.some.inj h1
        exact ((r.hid D hD).2 m (by rw [h1]; exact h2)).elim
    · split at h2
      · have h2 : D = b := Option.some.inj h2
        exact ((r.hid D hD).2 n (by rw [h2]; exact h1)).elim
      · exact r.inj n m b h1 h2
  dom := fun n b h => by
    have h : (if n = S.length then some D else μ n) = some b := h
    rw [List.length_append]
    split at h
    · simp; omega
    · have := r.dom n b h; simp; omega
  hid := fun b h => by
    refine ⟨(r.hid b (hs b h)).1, fun n q => ?_⟩
    have q : (if n = S.length then some D else μ n) = some b := q
    split at q
    · have q : D = b := Option.some.inj q
      exact hn (by rw [q]; exact h)
    · exact (r.hid b (hs b h)).2 n q
  tab := r.tab.mono fun b u e k => ⟨e, (adopt_re r hs hD).out b k⟩
end
end RV
end
section
/-! RVOut: what is asked of an outcome; readings; the context. -/
namespace RV
open PySem PySem.Spec PyProof.Rows L2

def OutOk {α : Type} (L : Pl) (E : XK) (μ : Mu) (H : Hp) (B : Sto) (o : Out α) (R : α → Sto → Mu → Hp → Prop) : Prop := match o with
  | .ok a S => ∀ μ' H', Ext μ H μ' H' → RelS L μ' H' (B ++ S) → R a S μ' H'
  | .exc c v S => ∀ μ' H' d x, Ext μ H μ' H' → RelS L μ' H' (B ++ S) → RelP L μ' H' v x → H' d = some (.xd [(L.xf c, x)]) → E (.ref (L.ca c)) (some d) H'
  | .fail => False
section
variable {α β : Type} {L : Pl} {E : XK} {μ μ1 μ' : Mu} {H H1 H' : Hp} {B S : Sto}
theorem OutOk.imp {o : Out α} {R R' : α → Sto → Mu → Hp → Prop} (h : OutOk L E μ H B o R) (f : ∀ a S μ' H', Ext μ H μ' H' → RelS L μ' H' (B ++ S) → R a S μ' H' → R' a S μ' H') : OutOk L E μ H B o R' := by
  cases o with
  | ok a S => exact fun μ' H' e r => f a S μ' H' e r (h μ' H' e r)
  | exc c v S => exact h
  | fail => exact h
theorem OutOk.shift {o : Out α} {R : α → Sto → Mu → Hp → Prop} (e : Ext μ H μ1 H1) (h : OutOk L E μ H B o R) : OutOk L E μ1 H1 B o R := by
  cases o with
  | ok a S => exact fun μ' H' e' r => h μ' H' (e.trans e') r
  | exc c v S => exact fun μ' H' d x e' r => h μ' H' d x (e.trans e') r
  | fail => exact h
theorem OutOk.bind {o : Out α} {f : α → Sto → Out β} {R : β → Sto → Mu → Hp → Prop} (h : OutOk L E μ H B (o.bind f) R) : OutOk L E μ H B o (fun a S μ' H' => OutOk L E μ' H' B (f a S) R) := by
  cases o with
  | ok a S => exact fun μ' H' e _ => OutOk.shift e (show OutOk L E μ H B (f a S) R from h)
  | exc c v S => exact h
  | fail => exact h
theorem OutOk.bindF {o : Out α} {f : α → Sto → Out β} {R : β → Sto → Mu → Hp → Prop} (h : OutOk L E μ H B (o.bindF f) R) : OutOk L E0 μ H B o (fun a S μ' H' => OutOk L E μ' H' B (f a S) R) := by
  cases o with
  | ok a S => exact fun μ' H' e _ => OutOk.shift e (show OutOk L E μ H B (f a S) R from h)
  | exc c v S => exact False.elim h
  | fail => exact h
/-- the rest is asked from the start on -/
theorem OutOk.bind0 {o : Out α} {f : α → Sto → Out β} {R : β → Sto → Mu → Hp → Prop} (h : OutOk L E μ H B (o.bind f) R) : OutOk L E μ H B o (fun a S _ _ => OutOk L E μ H B (f a S) R) := by
  cases o with
  | ok a S => exact fun _ _ _ _ => h
  | exc c v S => exact h
  | fail => exact h
theorem OutOk.bindF0 {o : Out α} {f : α → Sto → Out β} {R : β → Sto → Mu → Hp → Prop} (h : OutOk L E μ H B (o.bindF f) R) : OutOk L E0 μ H B o (fun a S _ _ => OutOk L E μ H B (f a S) R) := by
  cases o with
  | ok a S => exact fun _ _ _ _ => h
  | exc c v S => exact False.elim h
  | fail => exact h
/-- an outcome that is at hand -/
theorem OutOk.now {a : α} {R : α → Sto → Mu → Hp → Prop} (h : OutOk L E μ H B (.ok a S) R) (r : RelS L μ H (B ++ S)) : R a S μ H := h μ H (Ext.refl _ _) r
theorem OutOk.of {o : Option α} {R : α → Sto → Mu → Hp → Prop} (h : OutOk L E μ H B (Out.of o S) R) (r : RelS L μ H (B ++ S)) : ∃ a, o = some a ∧ R a S μ H := by
  cases o with
  | none => exact False.elim h
  | some a => exact ⟨a, rfl, h.now r⟩
theorem OutOk.of' {o : Option α} {R : α → Sto → Mu → Hp → Prop} (h : OutOk L E μ H B (Out.of o S) R) : ∃ a, o = some a ∧ OutOk L E μ H B (.ok a S) R := by
  cases o with
  | none => exact False.elim h
  | some a => exact ⟨a, rfl, h⟩
end
/-- the reading of a denotation -/
def tE (L : Pl) (E : XK) (f : FE) : TE := fun σ H Q => ∃ μ B ρ S, RelS L μ H (B ++ S) ∧ RelR L μ H ρ σ ∧ OutOk L E μ H B (f B ρ S) (fun p _ μ' H' => ∀ v, RelP L μ' H' p v → Q v H')
def tA (L : Pl) (E : XK) (f : Sto → Loc → Sto → Out (List PV)) : TA := fun σ H Q => ∃ μ B ρ S, RelS L μ H (B ++ S) ∧ RelR L μ H ρ σ ∧ OutOk L E μ H B (f B ρ S) (fun ps _ μ' H' => ∀ vs, RelL L μ' H' ps vs → Q vs H')
/-- .. as a test -/
def tT (L : Pl) (E : XK) (f : FE) : TT := fun σ H Q => tE L E f σ H fun x H' => ∃ k, x = .bl k ∧ Q k H'
/-- by values -/
def r2 (L : Pl) (E : XK) (g : Sto → Sto → PV → PV → Out PV) : R2 := fun x y H Q => ∃ μ B S p q, RelS L μ H (B ++ S) ∧ RelP L μ H p x ∧ RelP L μ H q y ∧ OutOk L E μ H B (g B S p q) (fun r _ μ' H' => ∀ v, RelP L μ' H' r v → Q v H')
def r1 (L : Pl) (E : XK) (g : Sto → Sto → PV → Out PV) : V → Hp → VK → Prop := fun x H Q => ∃ μ B S p, RelS L μ H (B ++ S) ∧ RelP L μ H p x ∧ OutOk L E μ H B (g B S p) (fun r _ μ' H' => ∀ v, RelP L μ' H' r v → Q v H')
def rL (L : Pl) (E : XK) (g : Sto → Sto → List PV → Out PV) : List V → Hp → VK → Prop := fun xs H Q => ∃ μ B S ps, RelS L μ H (B ++ S) ∧ RelL L μ H ps xs ∧ OutOk L E μ H B (g B S ps) (fun r _ μ' H' => ∀ v, RelP L μ' H' r v → Q v H')
/-- the promise of a def by its denotation -/
def spF (L : Pl) (F : DefF) : Sp := fun vs H Q E => ∃ μ B S ps, RelS L μ H (B ++ S) ∧ RelL L μ H ps vs ∧ OutOk L E μ H B (F B ps S) (fun p _ μ' H' => ∀ v, RelP L μ' H' p v → Q v H')
/-! ### weaker readings -/
section
variable {X : Cx} {e : Expr}
theorem PEw {t t' : TE} (h : PE X e t) (f : ∀ σ H Q, t' σ H Q → t σ H Q) : PE X e t' := ⟨fun pins s σ H Q I q => h.run pins s σ H Q I (f σ H Q q)⟩
theorem PTw {t t' : TT} (h : PT X e t) (f : ∀ σ H Q, t' σ H Q → t σ H Q) : PT X e t' := ⟨fun pins s σ H Q I q => h.run pins s σ H Q I (f σ H Q q)⟩
theorem PWw {t t' : TT} (h : PW X e t) (f : ∀ σ H Q, t' σ H Q → t σ H Q) : PW X e t' := ⟨fun wh pins s σ H Q I q => h.run wh pins s σ H Q I (f σ H Q q)⟩
theorem PAw {es : List Expr} {t t' : TA} (h : PA X es t) (f : ∀ σ H Q, t' σ H Q → t σ H Q) : PA X es t' := ⟨fun pos pins s σ H Q I q => h.run pos pins s σ H Q I (f σ H Q q)⟩
theorem PSw {st : Stmt} {t t' : TS} (h : PS X st t) (f : ∀ D σ H, t' D σ H → t D σ H) : PS X st t' := ⟨fun pins s σ H D I q => h.run pins s σ H D I (f D σ H q)⟩
theorem PSsw {st : List Stmt} {t t' : TS} (h : PSs X st t) (f : ∀ D σ H, t' D σ H → t D σ H) : PSs X st t' := ⟨fun pins s σ H D I q => h.run pins s σ H D I (f D σ H q)⟩
theorem PGw {g : Expr} {t t' : TG} (h : PG X g t) (f : ∀ v σ H Q, t' v σ H Q → t v σ H Q) : PG X g t' := ⟨fun pins s σ H v u Q I r q => h.run pins s σ H v u Q I r (f v σ H Q q)⟩
end
/-! ### rules: two operands, one operand, arguments -/
section
variable {X : Cx} {L : Pl} {E : XK} {a b c : Expr} {fa fb fc : FE} {pos : Pos}
/-- what the reading of two expressions gives -/
theorem tE_two {g : Sto → Sto → PV → PV → Out PV} {σ : L2.St} {H : Hp} {Q : VK} (h : tE L E (fun B ρ S => (fa B ρ S).bind fun x S => (fb B ρ S).bind fun y S => g B S x y) σ H Q) :
    tE L E fa σ H fun x H1 => tE L E fb σ H1 fun y H2 => r2 L E g x y H2 Q := by
  obtain ⟨μ, B, ρ, S, rs, rl, o⟩ := h
  refine ⟨μ, B, ρ, S, rs, rl, o.bind.imp fun p S1 μ1 H1 e1 rs1 o1 v hv => ⟨μ1, B, ρ, S1, rs1, rl.mono e1, o1.bind.imp fun q S2 μ2 H2 e2 rs2 o2 w hw => ⟨μ2, B, S2, p, q, rs2, RelP.mono e2 p v hv, hw, o2⟩⟩⟩
theorem tE_one {g : Sto → Sto → PV → Out PV} {σ : L2.St} {H : Hp} {Q : VK} (h : tE L E (fun B ρ S => (fa B ρ S).bind fun x S => g B S x) σ H Q) :
    tE L E fa σ H fun x H1 => r1 L E g x H1 Q := by
  obtain ⟨μ, B, ρ, S, rs, rl, o⟩ := h
  exact ⟨μ, B, ρ, S, rs, rl, o.bind.imp fun p S1 μ1 H1 e1 rs1 o1 v hv => ⟨μ1, B, S1, p, rs1, hv, o1⟩⟩
theorem tE_args {fs : Sto → Loc → Sto → Out (List PV)} {g : Sto → Sto → List PV → Out PV} {σ : L2.St} {H : Hp} {Q : VK} (h : tE L E (fun B ρ S => (fs B ρ S).bind fun x S => g B S x) σ H Q) :
    tA L E fs σ H fun xs H1 => rL L E g xs H1 Q := by
  obtain ⟨μ, B, ρ, S, rs, rl, o⟩ := h
  exact ⟨μ, B, ρ, S, rs, rl, o.bind.imp fun p S1 μ1 H1 e1 rs1 o1 v hv => ⟨μ1, B, S1, p, rs1, hv, o1⟩⟩
theorem e_bin {op : Operator} {g : Sto → Sto → PV → PV → Out PV} (ho : OpR X (binaryOp op) (r2 L E g)) (ha : PE X a (tE L E fa)) (hb : PE X b (tE L E fb)) :
    PE X (.BinOp a op b pos) (tE L E fun B ρ S => (fa B ρ S).bind fun x S => (fb B ρ S).bind fun y S => g B S x y) := PEw (pe_op ho ha hb) fun _ _ _ h => tE_two h
theorem e_un {op : UnaryOp} {g : Sto → Sto → PV → Out PV} (ho : UnR X (unaryOp op) (r1 L E g)) (ha : PE X a (tE L E fa)) :
    PE X (.UnaryOp op a pos) (tE L E fun B ρ S => (fa B ρ S).bind fun x S => g B S x) := PEw (pe_un ho ha) fun _ _ _ h => tE_one h
theorem e_cmp {op : CmpOp} {g : Sto → Sto → PV → PV → Out PV} (ho : OpR X (compareOp op) (r2 L E g)) (ha : PE X a (tE L E fa)) (hb : PE X b (tE L E fb)) (hm : behindInMarks op b = false) :
    PE X (.Compare a [op] [b] pos) (tE L E fun B ρ S => (fa B ρ S).bind fun x S => (fb B ρ S).bind fun y S => g B S x y) := PEw (pe_cmpR ho ha hb hm) fun _ _ _ h => tE_two h
theorem t_cmp {op : CmpOp} {g : Sto → Sto → PV → PV → Out PV} (ho : OpR X (compareOp op) (r2 L E g)) (ha : PE X a (tE L E fa)) (hb : PE X b (tE L E fb)) (hm : behindInMarks op b = false) :
    PT X (.Compare a [op] [b] pos) (tT L E fun B ρ S => (fa B ρ S).bind fun x S => (fb B ρ S).bind fun y S => g B S x y) := PTw (pt_cmpR ho ha hb hm) fun _ _ _ h => tE_two h
theorem t_val {f : FE} (h : PE X a (tE L E f)) (he : ∀ whole, isTrue a X.env whole = (do let v ← whole; standAt a.pos; holding [v] (truthy v))) : PT X a (tT L E f) :=
  PTw (pt_val h he) fun _ _ _ q => q
/-! names and constants -/
theorem e_var {i : Nat} {x : Str} (hN : X.N[i]? = some x) (hv : Vis X.env.scope x) (hd : (x == ("__debug__" : Str)) = false) (hcd : (x == ("__classdict__" : Str)) = false) :
    PE X (.Name x pos) (tE L E fun _ ρ S => match ρ[i]? with
      | some (some v) => .ok v S
      | _ => .fail) := by
  refine PEw (pe_var hN hv hd hcd) fun σ H Q h => ?_
  obtain ⟨μ, B, ρ, S, rs, rl, o⟩ := h
  have o : OutOk L E μ H B (match ρ[i]? with
      | some (some v) => .ok v S
      | _ => .fail) (fun p _ μ' H' => ∀ v, RelP L μ' H' p v → Q v H') := o
  cases e : ρ[i]? with
  | none => rw [e] at o; exact False.elim o
  | some z =>
    rw [e] at o
    cases z with
    | none => exact False.elim o
    | some p =>
      obtain ⟨v, e1, r⟩ := rl.at_ i p e
      exact ⟨v, e1, OutOk.now o rs v r⟩
/-- a constant -/
theorem tC_of {f : FE} {p : PV} {v : V} (hf : ∀ B ρ S, f B ρ S = .ok p S) (hv : ∀ μ H, RelP L μ H p v) (h : PE X a (tC v)) : PE X a (tE L E f) := by
  refine PEw h fun σ H Q h => ?_
  obtain ⟨μ, B, ρ, S, rs, rl, o⟩ := h
  rw [hf] at o
  exact o.now rs v (hv μ H)
theorem e_int {i : Int} {j : Nat} : PE X (.Constant (.int i) j pos) (tE L E fun _ _ S => .ok (.int i) S) := tC_of (fun _ _ _ => rfl) (fun _ _ => rfl) pe_int
theorem e_bl {i : Bool} {j : Nat} : PE X (.Constant (.bool i) j pos) (tE L E fun _ _ S => .ok (.bl i) S) := tC_of (fun _ _ _ => rfl) (fun _ _ => rfl) pe_bl
theorem e_non {j : Nat} : PE X (.Constant .none j pos) (tE L E fun _ _ S => .ok .non S) := tC_of (fun _ _ _ => rfl) (fun _ _ => rfl) pe_non
theorem e_str {x : Str} {j : Nat} : PE X (.Constant (.str x) j pos) (tE L E fun _ _ S => .ok (.str x) S) := tC_of (fun _ _ _ => rfl) (fun _ _ => rfl) pe_str
/-! arguments -/
theorem a_nil : PA X [] (tA L E fun _ _ S => .ok [] S) := PAw pa_nil fun σ H Q h => by
  obtain ⟨μ, B, ρ, S, rs, rl, o⟩ := h
  exact o.now rs [] rfl
theorem a_cons {es : List Expr} {fs : Sto → Loc → Sto → Out (List PV)} (ha : PE X a (tE L E fa)) (hr : PA X es (tA L E fs)) (hs : starEach (a :: es) X.env = (false, eval a X.env) :: starEach es X.env) :
    PA X (a :: es) (tA L E fun B ρ S => (fa B ρ S).bind fun x S => (fs B ρ S).bind fun vs S => .ok (x :: vs) S) := PAw (pa_cons ha hr hs) fun σ H Q h => by
  obtain ⟨μ, B, ρ, S, rs, rl, o⟩ := h
  exact ⟨μ, B, ρ, S, rs, rl, o.bind.imp fun p S1 μ1 H1 e1 rs1 o1 v hv => ⟨μ1, B, ρ, S1, rs1, rl.mono e1, o1.bind.imp fun ps S2 μ2 H2 e2 rs2 o2 vs hvs => o2.now rs2 _ ⟨v, vs, rfl, RelP.mono e2 p v hv, hvs⟩⟩⟩
/-! tests -/
theorem t_not {f : FE} (h : PT X a (tT L E f)) : PT X (.UnaryOp .Not a pos) (tT L E fun B ρ S => (f B ρ S).bind fun x S => match x with
    | .bl b => .ok (.bl (!b)) S
    | _ => .fail) := PTw (pt_not h) fun σ H Q q => by
  obtain ⟨μ, B, ρ, S, rs, rl, o⟩ := q
  refine ⟨μ, B, ρ, S, rs, rl, o.bind.imp fun p S1 μ1 H1 e1 rs1 o1 v hv => ?_⟩
  cases p with
  | bl b =>
    have hv : v = .bl b := hv
    obtain ⟨k, ek, q⟩ := o1.now rs1 (.bl (!b)) rfl
    cases ek
    exact ⟨b, hv, q⟩
  | _ => exact False.elim o1
theorem e_not {f : FE} (h : PE X a (tE L E f)) : PE X (.UnaryOp .Not a pos) (tE L E fun B ρ S => (f B ρ S).bind fun x S => match x with
    | .bl b => .ok (.bl (!b)) S
    | _ => .fail) := PEw (pe_not h) fun σ H Q q => by
  obtain ⟨μ, B, ρ, S, rs, rl, o⟩ := q
  refine ⟨μ, B, ρ, S, rs, rl, o.bind.imp fun p S1 μ1 H1 e1 rs1 o1 v hv => ?_⟩
  cases p with
  | bl b =>
    have hv : v = .bl b := hv
    exact ⟨b, hv, o1.now rs1 (.bl (!b)) rfl⟩
  | _ => exact False.elim o1
/-! and, or: lists of operands -/
theorem t_and1 {f : FE} (h : PT X a (tT L E f)) : PW X (.BoolOp .And [a] pos) (tT L E f) := pw_and1 h
theorem t_or1 {f : FE} (h : PT X a (tT L E f)) : PW X (.BoolOp .Or [a] pos) (tT L E f) := pw_or1 h
theorem t_and {rest : List Expr} (ha : PT X a (tT L E fa)) (hb : PW X (.BoolOp .And (b :: rest) pos) (tT L E fb)) :
    PW X (.BoolOp .And (a :: b :: rest) pos) (tT L E fun B ρ S => (fa B ρ S).bind fun x S => match x with
    | .bl true => fb B ρ S
    | .bl false => .ok (.bl false) S
    | _ => .fail) := PWw (pw_and ha hb) fun σ H Q q => by
  obtain ⟨μ, B, ρ, S, rs, rl, o⟩ := q
  refine ⟨μ, B, ρ, S, rs, rl, o.bind.imp fun p S1 μ1 H1 e1 rs1 o1 v hv => ?_⟩
  cases p with
  | bl c =>
    have hv : v = .bl c := hv
    refine ⟨c, hv, ?_⟩
    cases c with
    | true => exact ⟨μ1, B, ρ, S1, rs1, rl.mono e1, o1⟩
    | false =>
      obtain ⟨k, ek, q⟩ := o1.now rs1 (.bl false) rfl
      cases ek
      exact q
  | _ => exact False.elim o1
theorem t_or {rest : List Expr} (ha : PT X a (tT L E fa)) (hb : PW X (.BoolOp .Or (b :: rest) pos) (tT L E fb)) :
    PW X (.BoolOp .Or (a :: b :: rest) pos) (tT L E fun B ρ S => (fa B ρ S).bind fun x S => match x with
    | .bl true => .ok (.bl true) S
    | .bl false => fb B ρ S
    | _ => .fail) := PWw (pw_or ha hb) fun σ H Q q => by
  obtain ⟨μ, B, ρ, S, rs, rl, o⟩ := q
  refine ⟨μ, B, ρ, S, rs, rl, o.bind.imp fun p S1 μ1 H1 e1 rs1 o1 v hv => ?_⟩
  cases p with
  | bl c =>
    have hv : v = .bl c := hv
    refine ⟨c, hv, ?_⟩
    cases c with
    | false => exact ⟨μ1, B, ρ, S1, rs1, rl.mono e1, o1⟩
    | true =>
      obtain ⟨k, ek, q⟩ := o1.now rs1 (.bl true) rfl
      cases ek
      exact q
  | _ => exact False.elim o1
theorem e_and {rest : List Expr} (ha : PE X a (tE L E fa)) (hb : PE X (.BoolOp .And (b :: rest) pos) (tE L E fb)) :
    PE X (.BoolOp .And (a :: b :: rest) pos) (tE L E fun B ρ S => (fa B ρ S).bind fun x S => match x with
    | .bl true => fb B ρ S
    | .bl false => .ok (.bl false) S
    | _ => .fail) := PEw (pe_and ha hb) fun σ H Q q => by
  obtain ⟨μ, B, ρ, S, rs, rl, o⟩ := q
  refine ⟨μ, B, ρ, S, rs, rl, o.bind.imp fun p S1 μ1 H1 e1 rs1 o1 v hv => ?_⟩
  cases p with
  | bl c =>
    have hv : v = .bl c := hv
    refine ⟨c, hv, ?_⟩
    cases c with
    | true => exact ⟨μ1, B, ρ, S1, rs1, rl.mono e1, o1⟩
    | false => exact o1.now rs1 (.bl false) rfl
  | _ => exact False.elim o1
theorem e_or {rest : List Expr} (ha : PE X a (tE L E fa)) (hb : PE X (.BoolOp .Or (b :: rest) pos) (tE L E fb)) :
    PE X (.BoolOp .Or (a :: b :: rest) pos) (tE L E fun B ρ S => (fa B ρ S).bind fun x S => match x with
    | .bl true => .ok (.bl true) S
    | .bl false => fb B ρ S
    | _ => .fail) := PEw (pe_or ha hb) fun σ H Q q => by
  obtain ⟨μ, B, ρ, S, rs, rl, o⟩ := q
  refine ⟨μ, B, ρ, S, rs, rl, o.bind.imp fun p S1 μ1 H1 e1 rs1 o1 v hv => ?_⟩
  cases p with
  | bl c =>
    have hv : v = .bl c := hv
    refine ⟨c, hv, ?_⟩
    cases c with
    | false => exact ⟨μ1, B, ρ, S1, rs1, rl.mono e1, o1⟩
    | true => exact o1.now rs1 (.bl true) rfl
  | _ => exact False.elim o1
theorem e_ite {f : FE} (hc : PT X c (tT L E f)) (ha : PE X a (tE L E fa)) (hb : PE X b (tE L E fb)) : PE X (.IfExp c a b pos) (tE L E fun B ρ S => (f B ρ S).bind fun x S => match x with
    | .bl true => fa B ρ S
    | .bl false => fb B ρ S
    | _ => .fail) := PEw (pe_ifExp hc ha hb) fun σ H Q q => by
  obtain ⟨μ, B, ρ, S, rs, rl, o⟩ := q
  refine ⟨μ, B, ρ, S, rs, rl, o.bind.imp fun p S1 μ1 H1 e1 rs1 o1 v hv => ?_⟩
  cases p with
  | bl c =>
    have hv : v = .bl c := hv
    refine ⟨c, hv, ?_⟩
    cases c with
    | true => exact ⟨μ1, B, ρ, S1, rs1, rl.mono e1, o1⟩
    | false => exact ⟨μ1, B, ρ, S1, rs1, rl.mono e1, o1⟩
  | _ => exact False.elim o1
end
end RV
end
section
/-! RVOps: operators by values. -/
namespace RV
open PySem PySem.Spec PyProof.Rows L2
theorem szL_eq : szL = sizeLine := by decide
section
variable {L : Pl} {E : XK} {μ : Mu} {H : Hp} {B S : Sto} {Q : VK}
abbrev Dem (L : Pl) (μ : Mu) (H : Hp) (T : Sto) (r : PV) (Q : VK) : Prop := ∀ μ' H', Ext μ H μ' H' → RelS L μ' H' T → ∀ v, RelP L μ' H' r v → Q v H'
theorem Dem.now {T : Sto} {r : PV} {v : V} (o : Dem L μ H T r Q) (rs : RelS L μ H T) (h : RelP L μ H r v) : Q v H := o μ H (Ext.refl _ _) rs v h
theorem RelS.free {T : Sto} (rs : RelS L μ H T) {a : Addr} (hn : H a = none) (n : Nat) : μ n ≠ some a := fun e => by
  have hk := rs.dom n a e
  obtain ⟨b, e1, h1⟩ := rs.obj n _ (List.getElem?_eq_getElem hk)
  rw [e] at e1; cases e1
  obtain ⟨u, hu⟩ := h1.tracked
  rw [hn] at hu; cases hu
theorem Dem.tup {T : Sto} {xs : List PV} {ys : List V} (o : Dem L μ H T (.tup xs) Q) (rs : RelS L μ H T) (h : RelL L μ H xs ys) {a : Addr} (hn : H a = none) : Q (.ref a) (upd H a (.tup ys)) :=
  o μ _ (Ext.laid rs hn) (rs.laid hn) _ ⟨a, ys, rfl, SqT.of upd_same, RelL.mono (Ext.laid rs hn) xs ys h⟩
theorem Dem.lst {T : Sto} {xs : List PV} {ys : List V} (o : Dem L μ H T (.lst xs) Q) (rs : RelS L μ H T) (h : RelL L μ H xs ys) {a : Addr} (hn : H a = none) : Q (.ref a) (upd H a (.lst ys)) :=
  o μ _ (Ext.laid rs hn) (rs.laid hn) _ ⟨a, ys, rfl, upd_same, ⟨rs.free hn, fun z => (rs.hid a z).1 hn⟩, RelL.mono (Ext.laid rs hn) xs ys h⟩
theorem der_rel {p : PV} {x : V} {xs : List PV} (rs : RelS L μ H (B ++ S)) (hp : RelP L μ H p x) (e : der B S p = .lst xs) : ∃ a ys, x = .ref a ∧ H a = some (.lst ys) ∧ RelL L μ H xs ys := by
  cases p with
  | obj n =>
    have e : (match getS B S n with | some (.lst xs) => PV.lst xs | _ => .obj n) = .lst xs := e
    cases g : getS B S n with
    | none => rw [g] at e; cases e
    | some o =>
      rw [g] at e
      cases o with
      | lst zs =>
        have e : PV.lst zs = .lst xs := e
        cases e
        obtain ⟨a, e1, _, ys, h1, h2⟩ := rs.get g hp
        exact ⟨a, ys, e1, h1, h2⟩
      | _ => cases e
  | lst zs =>
    have e : PV.lst zs = .lst xs := e
    cases e
    obtain ⟨a, ys, e1, h1, _, h2⟩ := hp
    exact ⟨a, ys, e1, h1, h2⟩
  | _ => cases e
theorem repF_rel {xs : List PV} {ys : List V} (h : RelL L μ H xs ys) : ∀ n : Nat, RelL L μ H (repF n xs) (List.replicate n ys).flatten
  | 0 => rfl
  | n + 1 => by
    rw [List.replicate_succ, List.flatten_cons]
    exact h.append (repF_rel h n)
end
section
variable {X : Cx} {L : Pl} {E : XK}
def opO : BOp → Operator
  | .add => .Add | .sub => .Sub | .mul => .Mult | .fdiv => .FloorDiv | .mod => .Mod | .pow => .Pow
theorem o_add (hK : X.K = L.K) : OpR X (binaryOp .Add) (r2 L E fun B S x y => Out.of (binF B S .add x y) S) := by
  intro pins s σ H x y v u Q I rx ry h
  obtain ⟨μ, B, S, p, q, rs, hp, hq, o⟩ := h
  obtain ⟨r, er, o⟩ := o.of'
  have o : Dem L μ H (B ++ S) r Q := o
  have cat : ∀ xs ys, der B S p = .lst xs → der B S q = .lst ys → Nat.ble (xs.length + ys.length) szL = true → r = .lst (xs ++ ys) → wpAny (model X.prog X.w) X.A (binaryOp .Add v u) (EP X pins σ Q) X.xe s := fun xs ys e1 e2 hz er => by
    obtain ⟨a, as, ea, ha, la⟩ := der_rel rs hp e1
    obtain ⟨b, bs, eb, hb, lb⟩ := der_rel rs hq e2
    rw [er] at o
    refine op_cat pins s σ H x y v u Q I rx ry ⟨a, b, as, bs, ea, eb, ha, hb, ?_, fun c hc => o.lst rs (la.append lb) hc⟩
    rw [← la.length, ← lb.length, ← szL_eq]
    exact Nat.le_of_ble_eq_true hz
  have lists : (match der B S p, der B S q with
    | .lst xs, .lst ys => match Nat.ble (xs.length + ys.length) szL with
      | true => some (.lst (xs ++ ys))
      | false => none
    | _, _ => none) = some r → wpAny (model X.prog X.w) X.A (binaryOp .Add v u) (EP X pins σ Q) X.xe s := fun er => by
    cases e1 : der B S p with
    | lst xs =>
      cases e2 : der B S q with
      | lst ys =>
        rw [e1, e2] at er
        cases hz : Nat.ble (xs.length + ys.length) szL with
        | true => simp only [hz] at er; cases er; exact cat xs ys e1 e2 hz rfl
        | false => simp only [hz] at er; cases er
      | _ => rw [e1, e2] at er; cases er
    | _ => rw [e1] at er; cases er
  cases p with
  | int i =>
    cases q with
    | int j =>
      have er : some (PV.int (i + j)) = some r := er
      cases er
      exact op_add pins s σ H x y v u Q I rx ry ⟨i, j, hp, hq, o.now rs rfl⟩
    | _ => exact lists er
  | tup xs =>
    cases q with
    | tup ys =>
      obtain ⟨a, as, ea, ha, la⟩ := hp
      obtain ⟨b, bs, eb, hb, lb⟩ := hq
      have er : (match Nat.ble (xs.length + ys.length) szL with
        | true => some (PV.tup (xs ++ ys))
        | false => none) = some r := er
      cases hz : Nat.ble (xs.length + ys.length) szL with
      | false => rw [hz] at er; cases er
      | true =>
        rw [hz] at er; cases er
        have l1 := la.length
        have l2 := lb.length
        refine op_catA pins s σ H x y v u Q I rx ry ⟨a, b, as, bs, ea, eb, by rw [hK]; exact ha, by rw [hK]; exact hb, ?_, fun e0 => ?_, fun _ e0 => ?_, fun _ _ c hc => o.tup rs (la.append lb) hc⟩
        · rw [← l1, ← l2, ← szL_eq]; exact Nat.le_of_ble_eq_true hz
        · have e0' : xs = [] := List.length_eq_zero_iff.mp (by rw [l1, e0]; rfl)
          subst e0'
          exact o.now rs ⟨b, bs, rfl, hb, lb⟩
        · have e0' : ys = [] := List.length_eq_zero_iff.mp (by rw [l2, e0]; rfl)
          subst e0'
          rw [List.append_nil] at o
          exact o.now rs ⟨a, as, rfl, ha, la⟩
    | _ => exact lists er
  | _ => exact lists er
theorem o_sub : OpR X (binaryOp .Sub) (r2 L E fun B S x y => Out.of (binF B S .sub x y) S) := by
  intro pins s σ H x y v u Q I rx ry h
  obtain ⟨μ, B, S, p, q, rs, hp, hq, o⟩ := h
  obtain ⟨r, er, o⟩ := o.of'
  have o : Dem L μ H (B ++ S) r Q := o
  cases p with
  | int i =>
    cases q with
    | int j =>
      have er : some (PV.int (i - j)) = some r := er
      cases er
      exact op_sub pins s σ H x y v u Q I rx ry ⟨i, j, hp, hq, o.now rs rfl⟩
    | _ => cases er
  | _ => cases er
theorem mulOk_c {i j : Int} (h : mulOk i j = true) : CMul i j := by
  unfold mulOk lim at h
  simp only [Bool.or_eq_true, Bool.and_eq_true, decide_eq_true_eq] at h
  unfold CMul
  omega
theorem o_mul (hK : X.K = L.K) : OpR X (binaryOp .Mult) (r2 L E fun B S x y => Out.of (binF B S .mul x y) S) := by
  intro pins s σ H x y v u Q I rx ry h
  obtain ⟨μ, B, S, p, q, rs, hp, hq, o⟩ := h
  obtain ⟨r, er, o⟩ := o.of'
  have o : Dem L μ H (B ++ S) r Q := o
  have lists : ∀ k : Int, q = .int k → (match der B S p with
    | .lst xs => match decide (0 ≤ k) && decide (k < lim / 4) && Nat.ble (xs.length * k.toNat) szL with
      | true => some (.lst (repF k.toNat xs))
      | false => none
    | _ => none) = some r → wpAny (model X.prog X.w) X.A (binaryOp .Mult v u) (EP X pins σ Q) X.xe s := fun k eq er2 => by
    subst eq
    cases e1 : der B S p with
    | lst xs =>
      rw [e1] at er2
      cases hz : decide (0 ≤ k) && decide (k < lim / 4) && Nat.ble (xs.length * k.toNat) szL with
      | true =>
        simp only [hz] at er2; cases er2
        simp only [Bool.and_eq_true, decide_eq_true_eq] at hz
        obtain ⟨a, as, ea, ha, la⟩ := der_rel rs hp e1
        unfold lim at hz
        refine op_rep pins s σ H x y v u Q I rx ry ⟨a, k, as, ea, hq, ha, by omega, by omega, ?_, fun c hc => o.lst rs (repF_rel la _) hc⟩
        rw [← la.length, ← szL_eq]
        exact Nat.le_of_ble_eq_true hz.2
      | false => simp only [hz] at er2; cases er2
    | _ => rw [e1] at er2; cases er2
  cases p with
  | int i =>
    cases q with
    | int j =>
      have er : (match mulOk i j with
        | true => some (PV.int (i * j))
        | false => none) = some r := er
      cases hz : mulOk i j with
      | false => rw [hz] at er; cases er
      | true =>
        rw [hz] at er; cases er
        exact op_mul pins s σ H x y v u Q I rx ry ⟨i, j, hp, hq, mulOk_c hz, o.now rs rfl⟩
    | _ => cases er
  | tup xs =>
    cases q with
    | int k =>
      obtain ⟨a, as, ea, ha, la⟩ := hp
      have er : (match decide (2 ≤ k) && decide (k ≤ 1000) && Nat.ble xs.length 1000 && Nat.blt 0 xs.length with
        | true => some (PV.tup (repF k.toNat xs))
        | false => none) = some r := er
      cases hz : decide (2 ≤ k) && decide (k ≤ 1000) && Nat.ble xs.length 1000 && Nat.blt 0 xs.length with
      | false => rw [hz] at er; cases er
      | true =>
        rw [hz] at er; cases er
        simp only [Bool.and_eq_true, decide_eq_true_eq] at hz
        obtain ⟨⟨⟨h1, h2⟩, h3⟩, h4⟩ := hz
        have l1 := la.length
        have h3 := Nat.le_of_ble_eq_true h3
        have h4 : 0 < xs.length := Nat.le_of_ble_eq_true h4
        refine op_repT pins s σ H x y v u Q I rx ry ⟨a, k, as, ea, hq, by rw [hK]; exact ha, fun e0 => ?_, h1, h2, by omega, fun c hc => o.tup rs (repF_rel la _) hc⟩
        rw [e0] at l1
        simp at l1
        rw [l1] at h4
        exact absurd h4 (by decide)
    | _ => cases er
  | obj n =>
    cases q with
    | int k => exact lists k rfl er
    | _ => cases er
  | lst xs =>
    cases q with
    | int k => exact lists k rfl er
    | _ => cases er
  | _ =>
    cases q with
    | int k => exact lists k rfl er
    | _ => cases er
theorem o_fdiv : OpR X (binaryOp .FloorDiv) (r2 L E fun B S x y => Out.of (binF B S .fdiv x y) S) := by
  intro pins s σ H x y v u Q I rx ry h
  obtain ⟨μ, B, S, p, q, rs, hp, hq, o⟩ := h
  obtain ⟨r, er, o⟩ := o.of'
  have o : Dem L μ H (B ++ S) r Q := o
  cases p with
  | int i =>
    cases q with
    | int j =>
      have er : (match decide (0 < j) && decide (j < 1073741824) with
        | true => some (PV.int (i / j))
        | false => none) = some r := er
      cases hz : decide (0 < j) && decide (j < 1073741824) with
      | false => rw [hz] at er; cases er
      | true =>
        rw [hz] at er; cases er
        simp only [Bool.and_eq_true, decide_eq_true_eq] at hz
        exact op_fdiv pins s σ H x y v u Q I rx ry ⟨i, j, hp, hq, hz, o.now rs rfl⟩
    | _ => cases er
  | _ => cases er
theorem o_mod : OpR X (binaryOp .Mod) (r2 L E fun B S x y => Out.of (binF B S .mod x y) S) := by
  intro pins s σ H x y v u Q I rx ry h
  obtain ⟨μ, B, S, p, q, rs, hp, hq, o⟩ := h
  obtain ⟨r, er, o⟩ := o.of'
  have o : Dem L μ H (B ++ S) r Q := o
  cases p with
  | int i =>
    cases q with
    | int j =>
      have er : (match decide (0 < j) with
        | true => some (PV.int (i % j))
        | false => none) = some r := er
      cases hz : decide (0 < j) with
      | false => rw [hz] at er; cases er
      | true =>
        rw [hz] at er; cases er
        exact op_mod pins s σ H x y v u Q I rx ry ⟨i, j, hp, hq, of_decide_eq_true hz, o.now rs rfl⟩
    | _ => cases er
  | _ => cases er
theorem o_pow : OpR X (binaryOp .Pow) (r2 L E fun B S x y => Out.of (binF B S .pow x y) S) := by
  intro pins s σ H x y v u Q I rx ry h
  obtain ⟨μ, B, S, p, q, rs, hp, hq, o⟩ := h
  obtain ⟨r, er, o⟩ := o.of'
  have o : Dem L μ H (B ++ S) r Q := o
  cases p with
  | int i =>
    cases q with
    | int j =>
      have er : (match decide (0 ≤ j) && decide (j ≤ 1000000) && decide (-lim < i) && decide (i < lim) with
        | true => some (PV.int (i ^ j.toNat))
        | false => none) = some r := er
      cases hz : decide (0 ≤ j) && decide (j ≤ 1000000) && decide (-lim < i) && decide (i < lim) with
      | false => rw [hz] at er; cases er
      | true =>
        rw [hz] at er; cases er
        unfold lim at hz
        simp only [Bool.and_eq_true, decide_eq_true_eq] at hz
        exact op_pow pins s σ H x y v u Q I rx ry ⟨i, j, hp, hq, ⟨by omega, by omega, by omega⟩, o.now rs rfl⟩
    | _ => cases er
  | _ => cases er
theorem o_bin (hK : X.K = L.K) (op : BOp) : OpR X (binaryOp (opO op)) (r2 L E fun B S x y => Out.of (binF B S op x y) S) := by
  cases op with
  | add => exact o_add hK
  | sub => exact o_sub
  | mul => exact o_mul hK
  | fdiv => exact o_fdiv
  | mod => exact o_mod
  | pow => exact o_pow
theorem o_neg : UnR X (unaryOp .USub) (r1 L E fun B S x => match x with
    | .int i => .ok (.int (-i)) S
    | _ => .fail) := by
  intro pins s σ H x v Q I rx h
  obtain ⟨μ, B, S, p, rs, hp, o⟩ := h
  cases p with
  | int i => exact un_neg pins s σ H x v Q I rx ⟨i, hp, OutOk.now o rs _ rfl⟩
  | _ => exact False.elim o
end
end RV
end
section
/-! RVCmp: comparisons by values. -/
namespace RV
open PySem PySem.Spec PyProof.Rows L2
mutual
def toD : PV → PyData
  | .non => .none
  | .bl b => .bool b
  | .int i => .int i
  | .str x => .str x
  | .tup xs => .tuple (toDs xs)
  | .lst xs => .list (toDs xs)
  | .scr _ => .none
  | .obj _ => .none
def toDs : List PV → List PyData
  | [] => []
  | x :: xs => toD x :: toDs xs
end
section
variable {L : Pl} {μ : Mu} {H : Hp}
mutual
theorem okP_dp : ∀ (p : PV) (n : Nat) (x : V), okP p n = true → RelP L μ H p x → Dp L.K H x (toD p)
  | .non, _, _, _, r => by
    have r : _ = V.non := r
    rw [r]; exact .non
  | .bl b, _, _, _, r => by
    have r : _ = V.bl b := r
    rw [r]; exact .bl b
  | .int i, _, _, _, r => by
    have r : _ = V.int i := r
    rw [r]; exact .int i
  | .str x, _, _, _, r => by
    have r : _ = V.str x := r
    rw [r]; exact .str x
  | .tup xs, n, _, h, r => by
    obtain ⟨a, ys, e, h1, h2⟩ := r
    rw [e]
    cases n with
    | zero => cases h
    | succ n => exact .tup h1 (okPs_dp xs n ys h h2)
  | .lst xs, n, _, h, r => by
    obtain ⟨a, ys, e, h1, _, h2⟩ := r
    rw [e]
    cases n with
    | zero => cases h
    | succ n => exact .lst (SqL.of h1) (okPs_dp xs n ys h h2)
  | .scr _, _, _, h, _ => by cases h
  | .obj _, _, _, h, _ => by cases h
theorem okPs_dp : ∀ (ps : List PV) (n : Nat) (xs : List V), okPs ps n = true → RelL L μ H ps xs → DpAll L.K H xs (toDs ps)
  | [], _, _, _, r => by
    have r : _ = [] := r
    rw [r]; exact .nil
  | p :: ps, n, _, h, r => by
    obtain ⟨y, ys, e, h1, h2⟩ := r
    rw [e]
    have h : (okP p n && okPs ps n) = true := h
    rw [Bool.and_eq_true] at h
    exact .cons (okP_dp p n y h.1 h1) (okPs_dp ps n ys h.2 h2)
end
end
mutual
theorem okP_lay : ∀ (p : PV) (n : Nat), okP p n = true → (toD p).canLay0 = true ∧ (toD p).depth ≤ n
  | .non, _, _ => ⟨rfl, Nat.zero_le _⟩
  | .bl b, _, _ => ⟨rfl, Nat.zero_le _⟩
  | .int i, _, _ => ⟨rfl, Nat.zero_le _⟩
  | .str x, _, h => ⟨h, Nat.zero_le _⟩
  | .tup xs, n, h => by
    cases n with
    | zero => cases h
    | succ n =>
      obtain ⟨h1, h2⟩ := okPs_lay xs n h
      exact ⟨h1, Nat.succ_le_succ h2⟩
  | .lst xs, n, h => by
    cases n with
    | zero => cases h
    | succ n =>
      obtain ⟨h1, h2⟩ := okPs_lay xs n h
      exact ⟨h1, Nat.succ_le_succ h2⟩
  | .scr _, _, h => by cases h
  | .obj _, _, h => by cases h
theorem okPs_lay : ∀ (ps : List PV) (n : Nat), okPs ps n = true → PyData.canLayAll0 (toDs ps) = true ∧ PyData.depthAll (toDs ps) ≤ n
  | [], _, _ => ⟨rfl, Nat.zero_le _⟩
  | p :: ps, n, h => by
    have h : (okP p n && okPs ps n) = true := h
    rw [Bool.and_eq_true] at h
    obtain ⟨a1, a2⟩ := okP_lay p n h.1
    obtain ⟨b1, b2⟩ := okPs_lay ps n h.2
    refine ⟨?_, ?_⟩
    · show ((toD p).canLay0 && PyData.canLayAll0 (toDs ps)) = true
      rw [a1, b1]; rfl
    · exact Nat.max_le.mpr ⟨a2, b2⟩
end
theorem okP_shaped {p : PV} (h : okP p 64 = true) : SeqAt.shaped (toD p) = true := by
  obtain ⟨h1, h2⟩ := okP_lay p 64 h
  unfold SeqAt.shaped
  rw [h1, decide_eq_true h2]; rfl
theorem b2i_ite (a : Bool) : (if a = true then (1 : Int) else 0) = b2i a := by cases a <;> rfl
mutual
theorem eqV_eqv : ∀ (p q : PV) (n m : Nat), okP p n = true → okP q m = true → PyData.eqv (toD p) (toD q) = eqV p q
  | .non, q, n, m, _, h => by cases q <;> first | rfl | cases h
  | .bl a, q, n, m, _, h => by
    cases q with
    | int j =>
      show ((if a = true then (1 : Int) else 0) == j) = decide (b2i a = j)
      rw [b2i_ite]; exact Bool.beq_eq_decide_eq ..
    | _ => first | rfl | cases h
  | .int i, q, n, m, _, h => by
    cases q with
    | int j => exact Bool.beq_eq_decide_eq ..
    | bl b =>
      show (i == (if b = true then (1 : Int) else 0)) = decide (i = b2i b)
      rw [b2i_ite]; exact Bool.beq_eq_decide_eq ..
    | _ => first | rfl | cases h
  | .str x, q, n, m, _, h => by
    cases q with
    | str y =>
      show (x == y) = decide (x = y)
      rw [Bool.beq_eq_decide_eq]
    | _ => first | rfl | cases h
  | .tup xs, q, n, m, h', h => by
    cases q with
    | tup ys =>
      cases n with
      | zero => cases h'
      | succ n =>
        cases m with
        | zero => cases h
        | succ m => exact eqVs_eqv xs ys n m h' h
    | _ => first | rfl | cases h
  | .lst xs, q, n, m, h', h => by
    cases q with
    | lst ys =>
      cases n with
      | zero => cases h'
      | succ n =>
        cases m with
        | zero => cases h
        | succ m => exact eqVs_eqv xs ys n m h' h
    | _ => first | rfl | cases h
  | .scr _, _, _, _, h, _ => by cases h
  | .obj _, _, _, _, h, _ => by cases h
theorem eqVs_eqv : ∀ (ps qs : List PV) (n m : Nat), okPs ps n = true → okPs qs m = true → PyData.eqvAll (toDs ps) (toDs qs) = eqVs ps qs
  | [], qs, _, _, _, _ => by cases qs <;> rfl
  | p :: ps, qs, n, m, h, h' => by
    cases qs with
    | nil => rfl
    | cons q qs =>
      have h : (okP p n && okPs ps n) = true := h
      have h' : (okP q m && okPs qs m) = true := h'
      rw [Bool.and_eq_true] at h h'
      show (PyData.eqv (toD p) (toD q) && PyData.eqvAll (toDs ps) (toDs qs)) = (eqV p q && eqVs ps qs)
      rw [eqV_eqv p q n m h.1 h'.1, eqVs_eqv ps qs n m h.2 h'.2]
end
theorem eqP_some {p q : PV} {b : Bool} (h : eqP p q = some b) : okP p 64 = true ∧ okP q 64 = true ∧ b = PyData.eqv (toD p) (toD q) := by
  unfold eqP at h
  cases e : (okP p 64 && okP q 64) with
  | false => rw [e] at h; cases h
  | true =>
    rw [e] at h
    rw [Bool.and_eq_true] at e
    have h : some (eqV p q) = some b := h
    cases h
    exact ⟨e.1, e.2, (eqV_eqv p q 64 64 e.1 e.2).symm⟩
theorem anyV_any {x : PV} (hx : okP x 64 = true) : ∀ (ys : List PV), okPs ys 63 = true → (toDs ys).any (fun z => PyData.eqv z (toD x)) = anyV x ys
  | [], _ => rfl
  | y :: ys, h => by
    have h : (okP y 63 && okPs ys 63) = true := h
    rw [Bool.and_eq_true] at h
    show (PyData.eqv (toD y) (toD x) || (toDs ys).any (fun z => PyData.eqv z (toD x))) = (match eqV y x with | true => true | false => anyV x ys)
    rw [eqV_eqv y x 63 64 h.1 hx, anyV_any hx ys h.2]
    cases eqV y x <;> rfl
theorem lexL_eq : ∀ ns ms : List Int, lexL ns ms = HT.lexLt ns ms
  | [], [] => rfl
  | [], _ :: _ => rfl
  | _ :: _, [] => rfl
  | x :: xs, y :: ys => by
    show (if x = y then lexL xs ys else decide (x < y)) = (if x = y then HT.lexLt xs ys else decide (x < y))
    rw [lexL_eq xs ys]
theorem lexAt_shift {e r : Nat → Bool} {z : Bool} : ∀ (k i : Nat), Ob.lexAt e r z (i + 1) k = Ob.lexAt (fun j => e (j + 1)) (fun j => r (j + 1)) z i k
  | 0, _ => rfl
  | k + 1, i => by
    rw [Ob.lexAt_succ, Ob.lexAt_succ, lexAt_shift k (i + 1)]
theorem lexLe_eq : ∀ ns ms : List Int, Ob.lexAt (fun j => decide (ns.getD j 0 = ms.getD j 0)) (fun j => decide (ns.getD j 0 ≤ ms.getD j 0)) (decide (ns.length ≤ ms.length)) 0 (min ns.length ms.length) = !lexL ms ns
  | [], [] => rfl
  | [], y :: ys => by
    rw [show min ([] : List Int).length (y :: ys).length = 0 from Nat.zero_min _, Ob.lexAt_zero]
    rfl
  | x :: xs, [] => by
    rw [show min (x :: xs).length ([] : List Int).length = 0 from Nat.min_zero _, Ob.lexAt_zero]
    simp [lexL]
  | x :: xs, y :: ys => by
    rw [show min (x :: xs).length (y :: ys).length = min xs.length ys.length + 1 by simp [Nat.succ_min_succ], Ob.lexAt_succ, lexAt_shift]
    have ih := lexLe_eq xs ys
    show (if decide (x = y) = true then Ob.lexAt (fun j => decide (xs.getD j 0 = ys.getD j 0)) (fun j => decide (xs.getD j 0 ≤ ys.getD j 0)) (decide (xs.length + 1 ≤ ys.length + 1)) 0 (min xs.length ys.length) else decide (x ≤ y)) = !(if y = x then lexL ys xs else decide (y < x))
    rw [show decide (xs.length + 1 ≤ ys.length + 1) = decide (xs.length ≤ ys.length) by simp, ih]
    by_cases h : x = y
    · subst h; simp
    · rw [if_neg (by simpa using h), if_neg (fun e => h e.symm)]
      by_cases h2 : x ≤ y
      · rw [decide_eq_true h2, decide_eq_false (by omega)]; rfl
      · rw [decide_eq_false h2, decide_eq_true (by omega)]; rfl
section
variable {X : Cx} {L : Pl} {E : XK}
def opC : COp → CmpOp
  | .eq => .Eq | .ne => .NotEq | .lt => .Lt | .le => .LtE | .gt => .Gt | .ge => .GtE | .is_ => .Is | .isnot => .IsNot | .in_ => .In | .notin => .NotIn
/-- a list of the store, or a value, as data -/
theorem der_dp {μ : Mu} {H : Hp} {B S : Sto} {p : PV} {x : V} {n : Nat} (rs : RelS L μ H (B ++ S)) (hp : RelP L μ H p x) (h : okP (der B S p) n = true) : Dp L.K H x (toD (der B S p)) := by
  by_cases hl : ∃ xs, der B S p = .lst xs
  · obtain ⟨xs, e⟩ := hl
    obtain ⟨a, ys, e1, h1, h2⟩ := der_rel rs hp e
    rw [e] at h ⊢
    rw [e1]
    cases n with
    | zero => cases h
    | succ n => exact .lst (SqL.of h1) (okPs_dp xs n ys h h2)
  · have e : der B S p = p := by
      cases p with
      | obj k =>
        show (match getS B S k with | some (.lst xs) => PV.lst xs | _ => .obj k) = .obj k
        cases g : getS B S k with
        | none => rfl
        | some o =>
          cases o with
          | lst zs => exact (hl ⟨zs, by show (match getS B S k with | some (.lst xs) => PV.lst xs | _ => .obj k) = .lst zs; rw [g]⟩).elim
          | _ => rfl
      | _ => rfl
    rw [e] at h ⊢
    exact okP_dp p n x h hp
theorem o_eq (hK : X.K = L.K) (hu : X.A.units + 64 < cLine) : OpR X (compareOp .Eq) (r2 L E fun B S x y => Out.of ((eqP (der B S x) (der B S y)).map .bl) S) := by
  intro pins s σ H x y v u Q I rx ry h
  obtain ⟨μ, B, S, p, q, rs, hp, hq, o⟩ := h
  obtain ⟨r, er, o⟩ := o.of'
  have o : Dem L μ H (B ++ S) r Q := o
  obtain ⟨b, eb, rfl⟩ := Option.map_eq_some_iff.mp er
  obtain ⟨h1, h2, rfl⟩ := eqP_some eb
  exact op_eqD hu pins s σ H x y v u Q I rx ry ⟨_, _, by rw [hK]; exact der_dp rs hp h1, by rw [hK]; exact der_dp rs hq h2, okP_shaped h1, okP_shaped h2, o.now rs rfl⟩
theorem o_ne (hK : X.K = L.K) (hu : X.A.units + 64 < cLine) : OpR X (compareOp .NotEq) (r2 L E fun B S x y => Out.of ((eqP (der B S x) (der B S y)).map fun b => .bl (!b)) S) := by
  intro pins s σ H x y v u Q I rx ry h
  obtain ⟨μ, B, S, p, q, rs, hp, hq, o⟩ := h
  obtain ⟨r, er, o⟩ := o.of'
  have o : Dem L μ H (B ++ S) r Q := o
  obtain ⟨b, eb, rfl⟩ := Option.map_eq_some_iff.mp er
  obtain ⟨h1, h2, rfl⟩ := eqP_some eb
  exact op_neD hu pins s σ H x y v u Q I rx ry ⟨_, _, by rw [hK]; exact der_dp rs hp h1, by rw [hK]; exact der_dp rs hq h2, okP_shaped h1, okP_shaped h2, o.now rs rfl⟩
theorem tup_ints {μ : Mu} {H : Hp} {xs : List PV} {ns : List Int} {x : V} (h : RelP L μ H (.tup xs) x) (e : intsOf xs = some ns) : ∃ a, x = .ref a ∧ SqT L.K H a (ns.map V.int) := by
  obtain ⟨a, ys, e1, h1, h2⟩ := h
  rw [h2.ints e] at h1
  exact ⟨a, e1, h1⟩
theorem o_lt (hK : X.K = L.K) (hu : X.A.units < cLine) : OpR X (compareOp .Lt) (r2 L E fun B S x y => Out.of ((ltI x y).map .bl) S) := by
  intro pins s σ H x y v u Q I rx ry h
  obtain ⟨μ, B, S, p, q, rs, hp, hq, o⟩ := h
  obtain ⟨r, er, o⟩ := o.of'
  have o : Dem L μ H (B ++ S) r Q := o
  obtain ⟨b, eb, rfl⟩ := Option.map_eq_some_iff.mp er
  cases p with
  | int i =>
    cases q with
    | int j =>
      have eb : some (decide (i < j)) = some b := eb
      cases eb
      exact op_lt pins s σ H x y v u Q I rx ry ⟨i, j, hp, hq, o.now rs rfl⟩
    | _ => cases eb
  | tup xs =>
    cases q with
    | tup ys =>
      have eb : (match intsOf xs, intsOf ys with
        | some ns, some ms => some (lexL ns ms)
        | _, _ => none) = some b := eb
      cases e1 : intsOf xs with
      | none => rw [e1] at eb; cases eb
      | some ns =>
        cases e2 : intsOf ys with
        | none => rw [e1, e2] at eb; cases eb
        | some ms =>
          rw [e1, e2] at eb
          have eb : some (lexL ns ms) = some b := eb
          cases eb
          obtain ⟨a, ea, ha⟩ := tup_ints hp e1
          obtain ⟨c, ec, hc⟩ := tup_ints hq e2
          exact op_ltT hu pins s σ H x y v u Q I rx ry ⟨a, c, ns, ms, ea, ec, by rw [hK]; exact ha, by rw [hK]; exact hc, by rw [← lexL_eq]; exact o.now rs rfl⟩
    | _ => cases eb
  | _ => cases eb
theorem o_le (hK : X.K = L.K) (hu : X.A.units < cLine) : OpR X (compareOp .LtE) (r2 L E fun B S x y => Out.of ((leI x y).map .bl) S) := by
  intro pins s σ H x y v u Q I rx ry h
  obtain ⟨μ, B, S, p, q, rs, hp, hq, o⟩ := h
  obtain ⟨r, er, o⟩ := o.of'
  have o : Dem L μ H (B ++ S) r Q := o
  obtain ⟨b, eb, rfl⟩ := Option.map_eq_some_iff.mp er
  cases p with
  | int i =>
    cases q with
    | int j =>
      have eb : some (decide (i ≤ j)) = some b := eb
      cases eb
      exact op_le pins s σ H x y v u Q I rx ry ⟨i, j, hp, hq, o.now rs rfl⟩
    | _ => cases eb
  | tup xs =>
    cases q with
    | tup ys =>
      have eb : (match intsOf xs, intsOf ys with
        | some ns, some ms => some (!lexL ms ns)
        | _, _ => none) = some b := eb
      cases e1 : intsOf xs with
      | none => rw [e1] at eb; cases eb
      | some ns =>
        cases e2 : intsOf ys with
        | none => rw [e1, e2] at eb; cases eb
        | some ms =>
          rw [e1, e2] at eb
          have eb : some (!lexL ms ns) = some b := eb
          cases eb
          obtain ⟨a, ea, ha⟩ := tup_ints hp e1
          obtain ⟨c, ec, hc⟩ := tup_ints hq e2
          exact op_leT hu pins s σ H x y v u Q I rx ry ⟨a, c, ns, ms, ea, ec, by rw [hK]; exact ha, by rw [hK]; exact hc, by rw [lexLe_eq]; exact o.now rs rfl⟩
    | _ => cases eb
  | _ => cases eb
theorem o_gt : OpR X (compareOp .Gt) (r2 L E fun B S x y => Out.of ((cmpF B S .gt x y).map .bl) S) := by
  intro pins s σ H x y v u Q I rx ry h
  obtain ⟨μ, B, S, p, q, rs, hp, hq, o⟩ := h
  obtain ⟨r, er, o⟩ := o.of'
  have o : Dem L μ H (B ++ S) r Q := o
  obtain ⟨b, eb, rfl⟩ := Option.map_eq_some_iff.mp er
  cases p with
  | int i =>
    cases q with
    | int j =>
      have eb : some (decide (j < i)) = some b := eb
      cases eb
      exact op_gt pins s σ H x y v u Q I rx ry ⟨i, j, hp, hq, o.now rs rfl⟩
    | _ => cases eb
  | _ => cases eb
theorem o_ge : OpR X (compareOp .GtE) (r2 L E fun B S x y => Out.of ((cmpF B S .ge x y).map .bl) S) := by
  intro pins s σ H x y v u Q I rx ry h
  obtain ⟨μ, B, S, p, q, rs, hp, hq, o⟩ := h
  obtain ⟨r, er, o⟩ := o.of'
  have o : Dem L μ H (B ++ S) r Q := o
  obtain ⟨b, eb, rfl⟩ := Option.map_eq_some_iff.mp er
  cases p with
  | int i =>
    cases q with
    | int j =>
      have eb : some (decide (j ≤ i)) = some b := eb
      cases eb
      exact op_ge pins s σ H x y v u Q I rx ry ⟨i, j, hp, hq, o.now rs rfl⟩
    | _ => cases eb
  | _ => cases eb
theorem isNon_rel {μ : Mu} {H : Hp} {p : PV} {x : V} (h : RelP L μ H p x) : decide (x = .non) = isNon p := by
  cases p with
  | non => have h : x = .non := h; rw [h]; rfl
  | bl b => have h : x = .bl b := h; rw [h]; rfl
  | int b => have h : x = .int b := h; rw [h]; rfl
  | str b => have h : x = .str b := h; rw [h]; rfl
  | tup xs => obtain ⟨a, ys, e, _⟩ := h; rw [e]; rfl
  | lst xs => obtain ⟨a, ys, e, _⟩ := h; rw [e]; rfl
  | scr xs => obtain ⟨a, ys, e, _⟩ := h; rw [e]; rfl
  | obj n => obtain ⟨a, e, _⟩ := h; rw [e]; rfl
theorem o_is : OpR X (compareOp .Is) (r2 L E fun B S x y => Out.of ((cmpF B S .is_ x y).map .bl) S) := by
  intro pins s σ H x y v u Q I rx ry h
  obtain ⟨μ, B, S, p, q, rs, hp, hq, o⟩ := h
  obtain ⟨r, er, o⟩ := o.of'
  have o : Dem L μ H (B ++ S) r Q := o
  obtain ⟨b, eb, rfl⟩ := Option.map_eq_some_iff.mp er
  cases q with
  | non =>
    have eb : some (isNon p) = some b := eb
    cases eb
    exact op_isN pins s σ H x y v u Q I rx ry ⟨hq, by rw [isNon_rel hp]; exact o.now rs rfl⟩
  | bl c =>
    have eb : isB c p = some b := eb
    cases p with
    | bl d =>
      have eb : some (c == d) = some b := eb
      cases eb
      refine op_is_bl pins s σ H x y v u Q I rx ry ⟨d, c, hp, hq, ?_⟩
      have e : decide (d = c) = (c == d) := by cases c <;> cases d <;> rfl
      rw [e]
      exact o.now rs rfl
    | _ => cases eb
  | _ => cases eb
theorem o_isnot : OpR X (compareOp .IsNot) (r2 L E fun B S x y => Out.of ((cmpF B S .isnot x y).map .bl) S) := by
  intro pins s σ H x y v u Q I rx ry h
  obtain ⟨μ, B, S, p, q, rs, hp, hq, o⟩ := h
  obtain ⟨r, er, o⟩ := o.of'
  have o : Dem L μ H (B ++ S) r Q := o
  obtain ⟨b, eb, rfl⟩ := Option.map_eq_some_iff.mp er
  cases q with
  | non =>
    have eb : some (!isNon p) = some b := eb
    cases eb
    exact op_notN pins s σ H x y v u Q I rx ry ⟨hq, by rw [isNon_rel hp]; exact o.now rs rfl⟩
  | bl c =>
    have eb : (isB c p).map (!·) = some b := eb
    cases p with
    | bl d =>
      have eb : some (!(c == d)) = some b := eb
      cases eb
      refine op_isnot_bl pins s σ H x y v u Q I rx ry ⟨d, c, hp, hq, ?_⟩
      have e : decide (d = c) = (c == d) := by cases c <;> cases d <;> rfl
      rw [e]
      exact o.now rs rfl
    | _ => cases eb
  | _ => cases eb
end
end RV
end
section
/-! RVDict: dicts with tuple keys and with leaf keys; in. -/
namespace RV
open PySem PySem.Spec PyProof.Rows L2
/-! ### keys -/
mutual
theorem okN_depth : ∀ (p : PV) (n : Nat), okN p n = true → (nk p).depth ≤ n
  | .non, _, _ => Nat.zero_le _
  | .bl b, _, _ => Nat.zero_le _
  | .int i, _, _ => Nat.zero_le _
  | .str x, _, h => Nat.zero_le _
  | .tup xs, n, h => by
    cases n with
    | zero => cases h
    | succ n => exact Nat.succ_le_succ (okNs_depth xs n h)
  | .lst xs, _, h => by cases h
  | .scr _, _, h => by cases h
  | .obj _, _, h => by cases h
theorem okNs_depth : ∀ (ps : List PV) (n : Nat), okNs ps n = true → NestedKey.depthAll (nks ps) ≤ n
  | [], _, _ => Nat.zero_le _
  | p :: ps, n, h => by
    have h : (okN p n && okNs ps n) = true := h
    rw [Bool.and_eq_true] at h
    exact Nat.max_le.mpr ⟨okN_depth p n h.1, okNs_depth ps n h.2⟩
end
mutual
theorem eqV_nk : ∀ (p q : PV) (n m : Nat), okN p n = true → okN q m = true → eqV p q = NestedKey.beq (nk p) (nk q)
  | .non, q, n, m, _, h => by cases q <;> first | rfl | cases h
  | .bl a, q, n, m, _, h => by
    cases q with
    | int j =>
      show decide (b2i a = j) = decide ((if a = true then (1 : Int) else 0) = j)
      rw [b2i_ite]
    | bl b =>
      show (a == b) = decide ((if a = true then (1 : Int) else 0) = (if b = true then (1 : Int) else 0))
      cases a <;> cases b <;> rfl
    | _ => first | rfl | cases h
  | .int i, q, n, m, _, h => by
    cases q with
    | int j => rfl
    | bl b =>
      show decide (i = b2i b) = decide (i = (if b = true then (1 : Int) else 0))
      rw [b2i_ite]
    | _ => first | rfl | cases h
  | .str x, q, n, m, _, h => by cases q <;> first | rfl | cases h
  | .tup xs, q, n, m, h', h => by
    cases q with
    | tup ys =>
      cases n with
      | zero => cases h'
      | succ n =>
        cases m with
        | zero => cases h
        | succ m => exact eqVs_nk xs ys n m h' h
    | _ => first | rfl | cases h
  | .lst xs, q, n, m, h', h => by cases h'
  | .scr _, _, _, _, h, _ => by cases h
  | .obj _, _, _, _, h, _ => by cases h
theorem eqVs_nk : ∀ (ps qs : List PV) (n m : Nat), okNs ps n = true → okNs qs m = true → eqVs ps qs = NestedKey.beqAll (nks ps) (nks qs)
  | [], qs, _, _, _, _ => by cases qs <;> rfl
  | p :: ps, qs, n, m, h, h' => by
    cases qs with
    | nil => rfl
    | cons q qs =>
      have h : (okN p n && okNs ps n) = true := h
      have h' : (okN q m && okNs qs m) = true := h'
      rw [Bool.and_eq_true] at h h'
      show (eqV p q && eqVs ps qs) = (NestedKey.beq (nk p) (nk q) && NestedKey.beqAll (nks ps) (nks qs))
      rw [eqV_nk p q n m h.1 h'.1, eqVs_nk ps qs n m h.2 h'.2]
end
theorem keyT {k : PV} (h : keyOk true k = true) : ∃ xs, k = .tup xs ∧ okN k 8 = true := by
  cases k with
  | tup xs => exact ⟨xs, rfl, h⟩
  | _ => cases h
theorem eqV_key {p q : PV} (h : keyOk true p = true) (h' : keyOk true q = true) : eqV p q = decide (nk p = nk q) := by
  obtain ⟨_, _, h1⟩ := keyT h
  obtain ⟨_, _, h2⟩ := keyT h'
  rw [NestedKey.decide_eq]
  exact eqV_nk p q 8 8 h1 h2
theorem eqV_leaf {p q : PV} (h : keyOk false p = true) (h' : keyOk false q = true) : eqV p q = decide (lk p = lk q) := by
  cases p with
  | int i =>
    cases q with
    | int j =>
      show decide (i = j) = decide ((Sum.inl i : Key) = Sum.inl j)
      by_cases e : i = j
      · rw [e]; simp
      · rw [decide_eq_false e, decide_eq_false (fun z => e (Sum.inl.inj z))]
    | str j =>
      show false = decide ((Sum.inl i : Key) = Sum.inr j)
      rw [decide_eq_false (fun z => by cases z)]
    | _ => cases h'
  | str i =>
    cases q with
    | str j =>
      show decide (i = j) = decide ((Sum.inr i : Key) = Sum.inr j)
      by_cases e : i = j
      · rw [e]; simp
      · rw [decide_eq_false e, decide_eq_false (fun z => e (Sum.inr.inj z))]
    | int j =>
      show false = decide ((Sum.inr i : Key) = Sum.inl j)
      rw [decide_eq_false (fun z => by cases z)]
    | _ => cases h'
  | _ => cases h
theorem leaf_kV {L : Pl} {μ : Mu} {H : Hp} {p : PV} {x : V} (h : keyOk false p = true) (r : RelP L μ H p x) : x = kV (lk p) := by
  cases p with
  | int i => exact r
  | str i => exact r
  | _ => cases h
section
variable {X : Cx} {L : Pl} {E : XK} {μ : Mu} {H : Hp} {B S : Sto} {pins : List (Addr × Obj)} {σ : L2.St} {s : Shared}
mutual
theorem key_is (I : Inv X pins σ H s) (hK : X.K = L.K) : ∀ (p : PV) (n : Nat) (x : V) (u : Value), okN p n = true → RelP L μ H p x → RelV x u → NestedIs s.heap (nk p) u
  | .non, _, _, _, _, r, ru => by
    have r : _ = V.non := r
    rw [r] at ru; cases ru; exact .none
  | .bl b, _, _, _, _, r, ru => by
    have r : _ = V.bl b := r
    rw [r] at ru; cases ru; exact .bool rfl
  | .int i, _, _, _, _, r, ru => by
    have r : _ = V.int i := r
    rw [r] at ru; obtain ⟨t, rfl⟩ := ru; exact .int i t
  | .str x, _, _, _, _, r, ru => by
    have r : _ = V.str x := r
    rw [r] at ru; obtain ⟨t, rfl⟩ := ru; exact .text x t
  | .tup xs, n, _, _, h, r, ru => by
    obtain ⟨a, ys, e, h1, h2⟩ := r
    rw [e] at ru; cases ru
    cases n with
    | zero => cases h
    | succ n =>
      obtain ⟨its, rv, ⟨o, ho, hc, m, hd⟩, _⟩ := I.tuple (show SqT X.K H a ys by rw [hK]; exact h1)
      exact .tup ho hc hd (keys_are I hK xs n ys its h h2 rv)
  | .lst _, _, _, _, h, _, _ => by cases h
  | .scr _, _, _, _, h, _, _ => by cases h
  | .obj _, _, _, _, h, _, _ => by cases h
theorem keys_are (I : Inv X pins σ H s) (hK : X.K = L.K) : ∀ (ps : List PV) (n : Nat) (xs : List V) (us : List Value), okNs ps n = true → RelL L μ H ps xs → Vals xs us → NestedAll s.heap (nks ps) us
  | [], _, _, _, _, r, ru => by
    have r : _ = [] := r
    rw [r] at ru; cases ru; exact .nil
  | p :: ps, n, _, _, h, r, ru => by
    obtain ⟨y, ys, e, h1, h2⟩ := r
    rw [e] at ru
    have h : (okN p n && okNs ps n) = true := h
    rw [Bool.and_eq_true] at h
    cases ru with
    | cons ru rus => exact .cons (key_is I hK p n y _ h.1 h1 ru) (keys_are I hK ps n ys _ h.2 h2 rus)
end
theorem key_at (I : Inv X pins σ H s) (hK : X.K = L.K) {k : PV} {b : Addr} (h : keyOk true k = true) (r : RelP L μ H k (.ref b)) : (nestedKind L.P L.w).is s.heap (nk k) b := by
  obtain ⟨xs, e, h1⟩ := keyT h
  exact ⟨key_is I hK k 8 _ (.ref b) h1 r rfl, okN_depth k 8 h1⟩
/-- the entries: what is found -/
theorem RelD.find {k : PV} (hk : keyOk true k = true) : ∀ {kvs : List (PV × PV)} {xs : List (NestedKey × Addr × Value)}, RelD L μ H kvs xs →
    (findV k kvs = none ∧ atKey xs (nk k) = none) ∨ ∃ p v b u, findV k kvs = some p ∧ atKey xs (nk k) = some (b, u) ∧ RelP L μ H p v ∧ RelV v u
  | [], _, h => by
    have h : _ = [] := h
    rw [h]; exact .inl ⟨rfl, rfl⟩
  | (q, p) :: kvs, _, h => by
    obtain ⟨b, v, u, r, e, hq, h1, h2, h3, h4⟩ := h
    have ih := RelD.find hk h4
    rw [e]
    have ee := eqV_key hq hk
    by_cases c : nk q = nk k
    · refine .inr ⟨p, v, b, u, ?_, ?_, h2, h3⟩
      · show (match eqV q k with | true => some p | false => findV k kvs) = some p
        rw [ee, decide_eq_true c]
      · unfold atKey
        rw [List.find?_cons_of_pos (by simpa using c)]
        rfl
    · have e1 : findV k ((q, p) :: kvs) = findV k kvs := by
        show (match eqV q k with | true => some p | false => findV k kvs) = findV k kvs
        rw [ee, decide_eq_false c]
      have e2 : atKey ((nk q, b, u) :: r) (nk k) = atKey r (nk k) := by
        unfold atKey
        rw [List.find?_cons_of_neg (by simpa using c)]
      rw [e1, e2]; exact ih
theorem RelK.find {k : PV} (hk : keyOk false k = true) : ∀ {kvs : List (PV × PV)} {xs : List (Key × V)}, RelK L μ H kvs xs →
    (findV k kvs = none ∧ valV xs (lk k) = none) ∨ ∃ p v, findV k kvs = some p ∧ valV xs (lk k) = some v ∧ RelP L μ H p v
  | [], _, h => by
    have h : _ = [] := h
    rw [h]; exact .inl ⟨rfl, rfl⟩
  | (q, p) :: kvs, _, h => by
    obtain ⟨v, r, e, hq, h1, h2⟩ := h
    have ih := RelK.find hk h2
    rw [e]
    have ee := eqV_leaf hq hk
    by_cases c : lk q = lk k
    · refine .inr ⟨p, v, ?_, valV_pos c, h1⟩
      show (match eqV q k with | true => some p | false => findV k kvs) = some p
      rw [ee, decide_eq_true c]
    · have e1 : findV k ((q, p) :: kvs) = findV k kvs := by
        show (match eqV q k with | true => some p | false => findV k kvs) = findV k kvs
        rw [ee, decide_eq_false c]
      rw [e1, valV_neg c]; exact ih
/-- the dict as the library tells it -/
theorem dct_at (I : Inv X pins σ H s) (hK : X.K = L.K) {kvs : List (PV × PV)} {a : Addr} {xs : List (NestedKey × Addr × Value)} (h1 : H a = some (DctX L a xs)) (h2 : (xs.map (·.1)).Nodup) (h4 : RelD L μ H kvs xs) :
    s.heap.DictOfH (nestedKind L.P L.w) a xs := by
  obtain ⟨⟨o, es, ep, e1, e2, e3, e4⟩, _⟩ := I.hok a _ h1
  refine ⟨o, es, ep, e1, e2, e3, e4, ?_, h2⟩
  have all : ∀ {kvs : List (PV × PV)} {xs : List (NestedKey × Addr × Value)}, RelD L μ H kvs xs → ∀ x ∈ xs, (nestedKind L.P L.w).is s.heap x.1 x.2.1 := by
    intro kvs
    induction kvs with
    | nil => intro xs h; have h : xs = [] := h; rw [h]; intro x hx; cases hx
    | cons kv kvs ih =>
      obtain ⟨k, p⟩ := kv
      intro xs h
      obtain ⟨b, v, u, r, e, hk, h1, h2, h3, h4⟩ := h
      rw [e]
      intro x hx
      rcases List.mem_cons.mp hx with z | z
      · rw [z]; exact key_at I hK hk h1
      · exact ih h4 x z
  exact all h4
/-- a store -/
theorem RelD.put {k p : PV} {b : Addr} {v : V} {u : Value} (hk : keyOk true k = true) (rk : RelP L μ H k (.ref b)) (rp : RelP L μ H p v) (ru : RelV v u) : ∀ {kvs : List (PV × PV)} {xs : List (NestedKey × Addr × Value)}, RelD L μ H kvs xs → (xs.map (·.1)).Nodup →
    RelD L μ H (putV k p kvs) (storedH xs (nk k) b u)
  | [], _, h, _ => by
    have h : _ = [] := h
    rw [h]
    exact ⟨b, v, u, [], rfl, hk, rk, rp, ru, rfl⟩
  | (q, p') :: kvs, _, h, nd => by
    obtain ⟨b', v', u', r, e, hq, h1, h2, h3, h4⟩ := h
    subst e
    have ee := eqV_key hq hk
    have nd' : (nk q) ∉ r.map (·.1) ∧ (r.map (·.1)).Nodup := by simpa using nd
    by_cases c : nk q = nk k
    · have e1 : putV k p ((q, p') :: kvs) = (q, p) :: kvs := by
        show (match eqV q k with | true => (q, p) :: kvs | false => (q, p') :: putV k p kvs) = (q, p) :: kvs
        rw [ee, decide_eq_true c]
      have e2 : storedH ((nk q, b', u') :: r) (nk k) b u = (nk q, b', u) :: r := by
        have ha : (atKey ((nk q, b', u') :: r) (nk k)).isSome = true := by
          unfold atKey
          rw [List.find?_cons_of_pos (by simpa using c)]; rfl
        unfold storedH
        rw [if_pos ha, List.map_cons]
        congr 1
        · unfold putAt; rw [if_pos c]
        · conv => rhs; rw [← List.map_id r]
          refine List.map_congr_left fun x hx => ?_
          unfold putAt
          rw [if_neg fun z => nd'.1 (by rw [c, ← z]; exact List.mem_map_of_mem hx)]; rfl
      rw [e1, e2]
      exact ⟨b', v, u, r, rfl, hq, h1, rp, ru, h4⟩
    · have e1 : putV k p ((q, p') :: kvs) = (q, p') :: putV k p kvs := by
        show (match eqV q k with | true => (q, p) :: kvs | false => (q, p') :: putV k p kvs) = (q, p') :: putV k p kvs
        rw [ee, decide_eq_false c]
      have e2 : storedH ((nk q, b', u') :: r) (nk k) b u = (nk q, b', u') :: storedH r (nk k) b u := by
        have ha : atKey ((nk q, b', u') :: r) (nk k) = atKey r (nk k) := by
          unfold atKey
          rw [List.find?_cons_of_neg (by simpa using c)]
        unfold storedH
        rw [ha]
        split
        · rw [List.map_cons]
          congr 1
          unfold putAt; rw [if_neg c]
        · rfl
      rw [e1, e2]
      exact ⟨b', v', u', _, rfl, hq, h1, h2, h3, RelD.put hk rk rp ru h4 nd'.2⟩
theorem RelK.put {k p : PV} {v : V} (hk : keyOk false k = true) (rp : RelP L μ H p v) : ∀ {kvs : List (PV × PV)} {xs : List (Key × V)}, RelK L μ H kvs xs → (xs.map (·.1)).Nodup →
    RelK L μ H (putV k p kvs) (L2.putK xs (lk k) v) ∧ ((L2.putK xs (lk k) v).map (·.1)).Nodup ∧ ∀ z, z ∈ (L2.putK xs (lk k) v).map (·.1) → z ∈ xs.map (·.1) ∨ z = lk k
  | [], _, h, _ => by
    have h : _ = [] := h
    rw [h]
    refine ⟨⟨v, [], rfl, hk, rp, rfl⟩, ?_, fun z hz => ?_⟩
    · show ([lk k] : List Key).Nodup
      simp
    · have : z ∈ [lk k] := hz
      exact .inr (by simpa using this)
  | (q, p') :: kvs, _, h, nd => by
    obtain ⟨v', r, e, hq, h1, h2⟩ := h
    subst e
    have ee := eqV_leaf hq hk
    have nd' : (lk q) ∉ r.map (·.1) ∧ (r.map (·.1)).Nodup := by simpa using nd
    by_cases c : lk q = lk k
    · have e1 : putV k p ((q, p') :: kvs) = (q, p) :: kvs := by
        show (match eqV q k with | true => (q, p) :: kvs | false => (q, p') :: putV k p kvs) = (q, p) :: kvs
        rw [ee, decide_eq_true c]
      have e2 : L2.putK ((lk q, v') :: r) (lk k) v = (lk q, v) :: r := by
        unfold L2.putK
        rw [if_pos (by simp [c]), List.map_cons]
        congr 1
        · rw [if_pos c]
        · conv => rhs; rw [← List.map_id r]
          refine List.map_congr_left fun x hx => ?_
          rw [if_neg fun z => nd'.1 (by rw [c, ← z]; exact List.mem_map_of_mem hx)]; rfl
      rw [e1, e2]
      refine ⟨⟨v, r, rfl, hq, rp, h2⟩, ?_, fun z hz => .inl hz⟩
      simpa using nd'
    · have e1 : putV k p ((q, p') :: kvs) = (q, p') :: putV k p kvs := by
        show (match eqV q k with | true => (q, p) :: kvs | false => (q, p') :: putV k p kvs) = (q, p') :: putV k p kvs
        rw [ee, decide_eq_false c]
      have e2 : L2.putK ((lk q, v') :: r) (lk k) v = (lk q, v') :: L2.putK r (lk k) v := by
        unfold L2.putK
        have ha : (((lk q, v') :: r).any fun kv => decide (kv.1 = lk k)) = (r.any fun kv => decide (kv.1 = lk k)) := by
          rw [List.any_cons, decide_eq_false c, Bool.false_or]
        rw [ha]
        split
        · rw [List.map_cons, if_neg c]
        · rfl
      obtain ⟨i1, i2, i3⟩ := RelK.put hk rp h2 nd'.2
      rw [e1, e2]
      refine ⟨⟨v', _, rfl, hq, h1, i1⟩, ?_, fun z hz => ?_⟩
      · rw [List.map_cons, List.nodup_cons]
        refine ⟨fun z => ?_, i2⟩
        rcases i3 _ z with w | w
        · exact nd'.1 w
        · exact c w
      · rcases List.mem_cons.mp hz with w | w
        · exact .inl (by rw [w]; exact List.mem_cons_self)
        · rcases i3 _ w with w | w
          · exact .inl (List.mem_cons_of_mem _ w)
          · exact .inr w
end
end RV
end
section
/-! RVSub: in, subscripts, slices, stores by values. -/
namespace RV
open PySem PySem.Spec PyProof.Rows L2
section
variable {X : Cx} {L : Pl} {E : XK}
/-- x in ys, x not in ys: the answer turned by a Bool -/
theorem in_core (hP : X.prog = L.P) (hw : X.w = L.w) (hK : X.K = L.K) (hu : X.A.units + 65 < cLine) (nt : Bool) {op : CmpOp} (hop : op = if nt = true then .NotIn else .In) {pins : List (Addr × Obj)} {s : Shared} {σ : L2.St} {H : Hp} {x y : V} {v u : Value} {Q : VK}
    (I : Inv X pins σ H s) (rx : RelV x v) (ry : RelV y u) {μ : Mu} {B S : Sto} {p q : PV} (rs : RelS L μ H (B ++ S)) (hp : RelP L μ H p x) (hq : RelP L μ H q y) {b : Bool} (eb : inF B S p q = some b) (fin : ∀ s', Inv X pins σ H s' → EP X pins σ Q (.bool (b != nt)) s') :
    wpAny (model X.prog X.w) X.A (compareOp op v u) (EP X pins σ Q) X.xe s := by
  have data : ∀ (ys : List PV) (zs : List V), inL p ys = some b → RelL L μ H ys zs → (∃ a, y = .ref a ∧ (SqL L.K H a zs ∨ SqT L.K H a zs)) → wpAny (model X.prog X.w) X.A (compareOp op v u) (EP X pins σ Q) X.xe s := fun ys zs e rl hy => by
    unfold inL at e
    cases c : (okP p 64 && okPs ys 63) with
    | false => rw [c] at e; cases e
    | true =>
      rw [c] at e
      have e : some (anyV p ys) = some b := e
      cases e
      rw [Bool.and_eq_true] at c
      obtain ⟨c1, c2⟩ := c
      have d1 : Dp X.K H x (toD p) := by rw [hK]; exact okP_dp p 64 x c1 hp
      have d2 := okPs_dp ys 63 zs c2 rl
      obtain ⟨l1, l2⟩ := okPs_lay ys 63 c2
      obtain ⟨a, ey, hy⟩ := hy
      have sh := okP_shaped c1
      have ha := anyV_any c1 ys c2
      rcases hy with hy | hy
      · obtain ⟨as, r1⟩ := Dp.reads I (toD p) x v d1 rx
        obtain ⟨bs, r2⟩ := Dp.reads I (.list (toDs ys)) y u (by rw [hK, ey]; exact .lst hy d2) ry
        cases nt with
        | false => subst hop; exact SeqAt.in_list_reads r2 r1 l1 (SeqAt.canLay_of_shaped sh) (room_in_shaped sh hu) (by rw [ha]; simpa using fin s I)
        | true => subst hop; exact SeqAt.notIn_list_reads r2 r1 l1 (SeqAt.canLay_of_shaped sh) (room_in_shaped sh hu) (by rw [ha]; simpa using fin s I)
      · obtain ⟨as, r1⟩ := Dp.reads I (toD p) x v d1 rx
        obtain ⟨bs, r2⟩ := Dp.reads I (.tuple (toDs ys)) y u (by rw [hK, ey]; exact .tup hy d2) ry
        cases nt with
        | false => subst hop; exact SeqAt.in_tuple_reads r2 r1 l1 (SeqAt.canLay_of_shaped sh) (room_in_shaped sh hu) (by rw [ha]; simpa using fin s I)
        | true => subst hop; exact SeqAt.notIn_tuple_reads r2 r1 l1 (SeqAt.canLay_of_shaped sh) (room_in_shaped sh hu) (by rw [ha]; simpa using fin s I)
  cases q with
  | tup ys =>
    obtain ⟨a, zs, e1, h1, h2⟩ := hq
    exact data ys zs eb h2 ⟨a, e1, .inr h1⟩
  | lst ys =>
    obtain ⟨a, zs, e1, h1, _, h2⟩ := hq
    exact data ys zs eb h2 ⟨a, e1, .inl (SqL.of h1)⟩
  | obj n =>
    have eb : (match getS B S n with
      | some (.lst ys) => inL p ys
      | some (.dct kvs) => (findK true p kvs).map Option.isSome
      | some (.dlf kvs) => (findK false p kvs).map Option.isSome
      | _ => none) = some b := eb
    cases g : getS B S n with
    | none => rw [g] at eb; cases eb
    | some o =>
      rw [g] at eb
      obtain ⟨a, e1, e2, ro⟩ := rs.get g hq
      cases o with
      | lst ys =>
        obtain ⟨zs, h1, h2⟩ := ro
        exact data ys zs eb h2 ⟨a, e1, .inl (SqL.of h1)⟩
      | ins c fs => cases eb
      | dct kvs =>
        obtain ⟨xs, h1, h2, h3, h4⟩ := ro
        have eb : (match keyOk true p with | true => some (findV p kvs) | false => none).map Option.isSome = some b := eb
        cases ck : keyOk true p with
        | false => rw [ck] at eb; cases eb
        | true =>
          rw [ck] at eb
          have eb : some (findV p kvs).isSome = some b := eb
          obtain ⟨zs, ez, hz⟩ := keyT ck
          obtain ⟨c, ys, ec, hc, hl⟩ : ∃ c ys, x = .ref c ∧ SqT L.K H c ys ∧ RelL L μ H zs ys := by rw [ez] at hp; exact hp
          have hk := key_at I hK ck (by rw [← ec]; exact hp)
          have dd := dct_at I hK h1 h2 h4
          have ef : (atKey xs (nk p)).isSome = b := by
            rcases RelD.find ck h4 with ⟨z1, z2⟩ | ⟨_, _, _, _, z1, z2, _⟩
            · rw [z1] at eb; rw [z2]; exact Option.some.inj eb
            · rw [z1] at eb; rw [z2]; exact Option.some.inj eb
          rw [ec] at rx; cases rx
          rw [e1] at ry; cases ry
          have hr : (nestedKind L.P L.w).room X.A.in1 := by show X.A.units + 1 + 8 < cLine; omega
          rw [hP, hw]
          cases nt with
          | false => subst hop; exact wpAny_in_heap hr hk h3 dd (by rw [ef]; simpa using fin _ (I.tok _))
          | true =>
            subst hop
            rw [if_pos rfl]
            show wpAny _ _ (do return Value.bool (!(← contains (.ref a) (.ref c)))) _ _ s
            exact wpAny_bind (wpAny_contains_heap hr hk h3 dd (wpAny_pure (by rw [ef]; simpa using fin _ (I.tok _))))
      | dlf kvs =>
        obtain ⟨gs, h1, h2, h3⟩ := ro
        have eb : (match keyOk false p with | true => some (findV p kvs) | false => none).map Option.isSome = some b := eb
        cases ck : keyOk false p with
        | false => rw [ck] at eb; cases eb
        | true =>
          rw [ck] at eb
          have eb : some (findV p kvs).isSome = some b := eb
          have ex := leaf_kV ck hp
          have ef : (valV gs (lk p)).isSome = b := by
            rcases RelK.find ck h3 with ⟨z1, z2⟩ | ⟨_, _, z1, z2, _⟩
            · rw [z1] at eb; rw [z2]; exact Option.some.inj eb
            · rw [z1] at eb; rw [z2]; exact Option.some.inj eb
          rw [e1] at ry; cases ry
          have gd : DGet H a x (valV gs (lk p)) := by rw [ex]; exact DGet.k h1
          cases nt with
          | false => subst hop; exact d_in (by omega) I gd rx fun s' I' => by rw [ef]; simpa using fin s' I'
          | true => subst hop; exact d_notIn (by omega) I gd rx fun s' I' => by rw [ef]; simpa using fin s' I'
  | _ => cases eb
theorem o_in (hP : X.prog = L.P) (hw : X.w = L.w) (hK : X.K = L.K) (hu : X.A.units + 65 < cLine) : OpR X (compareOp .In) (r2 L E fun B S x y => Out.of ((cmpF B S .in_ x y).map .bl) S) := by
  intro pins s σ H x y v u Q I rx ry h
  obtain ⟨μ, B, S, p, q, rs, hp, hq, o⟩ := h
  obtain ⟨r, er, o⟩ := o.of'
  have o : Dem L μ H (B ++ S) r Q := o
  obtain ⟨b, eb, rfl⟩ := Option.map_eq_some_iff.mp er
  exact in_core hP hw hK hu false rfl I rx ry rs hp hq eb fun s' I' => ⟨.bl b, H, I', by cases b <;> rfl, o.now rs rfl⟩
theorem o_notin (hP : X.prog = L.P) (hw : X.w = L.w) (hK : X.K = L.K) (hu : X.A.units + 65 < cLine) : OpR X (compareOp .NotIn) (r2 L E fun B S x y => Out.of ((cmpF B S .notin x y).map .bl) S) := by
  intro pins s σ H x y v u Q I rx ry h
  obtain ⟨μ, B, S, p, q, rs, hp, hq, o⟩ := h
  obtain ⟨r, er, o⟩ := o.of'
  have o : Dem L μ H (B ++ S) r Q := o
  obtain ⟨b, eb, rfl⟩ := Option.map_eq_some_iff.mp er
  obtain ⟨c, ec, rfl⟩ := Option.map_eq_some_iff.mp (show (inF B S p q).map (!·) = some b from eb)
  exact in_core hP hw hK hu true rfl I rx ry rs hp hq ec fun s' I' => ⟨.bl (!c), H, I', by cases c <;> rfl, o.now rs rfl⟩
/-- every comparison but == and != -/
theorem o_cmp (hP : X.prog = L.P) (hw : X.w = L.w) (hK : X.K = L.K) (hu : X.A.units + 65 < cLine) (op : COp) : OpR X (compareOp (opC op)) (r2 L E fun B S x y => Out.of ((cmpF B S op x y).map .bl) S) := by
  have h1 : X.A.units + 64 < cLine := by omega
  have h2 : X.A.units < cLine := by omega
  cases op with
  | eq => exact o_eq hK h1
  | ne =>
    have h := o_ne (L := L) (E := E) hK h1
    refine fun pins s σ H x y v u Q I rx ry q => h pins s σ H x y v u Q I rx ry ?_
    obtain ⟨μ, B, S, p, q', rs, hp, hq, o⟩ := q
    refine ⟨μ, B, S, p, q', rs, hp, hq, ?_⟩
    have e : ((cmpF B S .ne p q').map PV.bl) = (eqP (der B S p) (der B S q')).map fun b => .bl (!b) := by
      show ((eqP (der B S p) (der B S q')).map (!·)).map PV.bl = _
      rw [Option.map_map]; rfl
    have o : OutOk L E μ H B (Out.of ((cmpF B S .ne p q').map PV.bl) S) _ := o
    rw [e] at o
    exact o
  | lt => exact o_lt hK h2
  | le => exact o_le hK h2
  | gt => exact o_gt
  | ge => exact o_ge
  | is_ => exact o_is
  | isnot => exact o_isnot
  | in_ => exact o_in hP hw hK hu
  | notin => exact o_notin hP hw hK hu
/-! ### subscripts -/
theorem atP_atI {μ : Mu} {H : Hp} {xs : List PV} {ys : List V} {i : Int} {p : PV} (h : RelL L μ H xs ys) (e : atP xs i = some p) : ∃ v, atI ys i = some v ∧ RelP L μ H p v := by
  have hl := h.length
  cases i with
  | ofNat n =>
    have e : xs[n]? = some p := e
    obtain ⟨v, e1, r⟩ := h.get e
    exact ⟨v, atI_nat e1, r⟩
  | negSucc n =>
    have e : (match Nat.ble (n + 1) xs.length with | true => xs[xs.length - (n + 1)]? | false => none) = some p := e
    cases c : Nat.ble (n + 1) xs.length with
    | false => rw [c] at e; cases e
    | true =>
      rw [c] at e
      have hn := Nat.le_of_ble_eq_true c
      obtain ⟨v, e1, r⟩ := h.get (i := xs.length - (n + 1)) e
      refine ⟨v, ?_, r⟩
      unfold atI ixN
      rw [if_neg (by omega), if_pos (by omega)]
      show ys[_]? = some v
      rw [← e1]
      congr 1
      omega
theorem o_ix (hP : X.prog = L.P) (hw : X.w = L.w) (hK : X.K = L.K) (hu : X.A.units + 65 < cLine) : IxR X (r2 L E fun B S x y => Out.of (subF B S x y) S) := by
  intro value slice pins s σ H x y v u Q I rx ry h hs
  obtain ⟨μ, B, S, p, q, rs, hp, hq, o⟩ := h
  obtain ⟨r, er, o⟩ := o.of'
  have dm : Dem L μ H (B ++ S) r Q := o
  clear o
  have lists : ∀ (xs : List PV) (ys : List V) (a : Addr), x = .ref a → SqL L.K H a ys → RelL L μ H xs ys → atQ xs q = some r → wpAny (model X.prog X.w) X.A (subscriptTail value slice v u) (EP X pins σ Q) X.xe s := fun xs ys a ex hx rl e => by
    cases q with
    | int i =>
      obtain ⟨w, e1, rw'⟩ := atP_atI rl e
      exact ix_list value slice pins s σ H x y v u Q I rx ry ⟨a, ys, i, w, ex, hq, by rw [hK]; exact hx, e1, dm.now rs rw'⟩ hs
    | _ => cases e
  cases p with
  | tup xs =>
    obtain ⟨a, ys, ex, hx, rl⟩ := hp
    cases q with
    | int i =>
      obtain ⟨w, e1, rw'⟩ := atP_atI rl (show atP xs i = some r from er)
      exact ix_tup value slice pins s σ H x y v u Q I rx ry ⟨a, ys, i, w, ex, hq, by rw [hK]; exact hx, e1, dm.now rs rw'⟩ hs
    | _ => cases er
  | lst xs =>
    obtain ⟨a, ys, ex, hx, _, rl⟩ := hp
    exact lists xs ys a ex (SqL.of hx) rl er
  | obj n =>
    have er : (match getS B S n with
      | some (.lst xs) => atQ xs q
      | some (.dct kvs) => match findK true q kvs with
        | some (some v) => some v
        | _ => none
      | some (.dlf kvs) => match findK false q kvs with
        | some (some v) => some v
        | _ => none
      | _ => none) = some r := er
    cases g : getS B S n with
    | none => rw [g] at er; cases er
    | some ob =>
      rw [g] at er
      obtain ⟨a, e1, e2, ro⟩ := rs.get g hp
      cases ob with
      | lst xs =>
        obtain ⟨ys, h1, h2⟩ := ro
        exact lists xs ys a e1 (SqL.of h1) h2 er
      | ins c fs => cases er
      | dct kvs =>
        obtain ⟨xs, h1, h2, h3, h4⟩ := ro
        have er : (match (match keyOk true q with | true => some (findV q kvs) | false => none) with
          | some (some v) => some v
          | _ => none) = some r := er
        cases ck : keyOk true q with
        | false => rw [ck] at er; cases er
        | true =>
          rw [ck] at er
          obtain ⟨zs, ez, hz⟩ := keyT ck
          obtain ⟨c, ys, ec, hc, hl⟩ : ∃ c ys, y = .ref c ∧ SqT L.K H c ys ∧ RelL L μ H zs ys := by rw [ez] at hq; exact hq
          have hk := key_at I hK ck (by rw [← ec]; exact hq)
          have dd := dct_at I hK h1 h2 h4
          rcases RelD.find ck h4 with ⟨z1, z2⟩ | ⟨p', v', b', u', z1, z2, z3, z4⟩
          · rw [z1] at er; cases er
          · rw [z1] at er
            have er : some p' = some r := er
            cases er
            rw [ec] at ry; cases ry
            rw [e1] at rx; cases rx
            have hr : (nestedKind L.P L.w).room X.A.in1 := by show X.A.units + 1 + 8 < cLine; omega
            refine tail_any dd.typeIs PySem.F.slot_dict_getitem.lookup ?_ hs
            rw [hP, hw]
            exact wpAny_getItem_heap hr hk dd z2 ⟨v', H, I.tok _, z4, dm.now rs z3⟩
      | dlf kvs =>
        obtain ⟨gs, h1, h2, h3⟩ := ro
        have er : (match (match keyOk false q with | true => some (findV q kvs) | false => none) with
          | some (some v) => some v
          | _ => none) = some r := er
        cases ck : keyOk false q with
        | false => rw [ck] at er; cases er
        | true =>
          rw [ck] at er
          have ey := leaf_kV ck hq
          rcases RelK.find ck h3 with ⟨z1, z2⟩ | ⟨p', v', z1, z2, z3⟩
          · rw [z1] at er; cases er
          · rw [z1] at er
            have er : some p' = some r := er
            cases er
            rw [e1] at rx; cases rx
            have gd : DGet H a y (some v') := by rw [ey, ← z2]; exact DGet.k h1
            refine tail_any (dict_typeIs I gd) PySem.F.slot_dict_getitem.lookup ?_ hs
            exact d_getItem (by omega) I gd ry fun w' s' I' rw' => ⟨v', H, I', rw', dm.now rs z3⟩
  | _ => cases er
/-! ### slices -/
theorem clip_eq (n d : Nat) (o : Option Int) : clipI n d o = HT.sIx n d o := by
  cases o with
  | none => rfl
  | some i =>
    cases i with
    | ofNat k =>
      show min k n = (if (k : Int) < 0 then ((k : Int) + (n : Int)).toNat else min (k : Int).toNat n)
      rw [if_neg (by omega)]; rfl
    | negSucc k =>
      show n - (k + 1) = (if Int.negSucc k < 0 then (Int.negSucc k + (n : Int)).toNat else _)
      rw [if_pos (by omega)]
      omega
theorem RelL.cut {μ : Mu} {H : Hp} {xs : List PV} {ys : List V} (h : RelL L μ H xs ys) (lo hi : Option Int) : RelL L μ H (cutP xs lo hi) (cutV ys lo hi) := by
  unfold cutP cutV
  rw [clip_eq, clip_eq, ← h.length]
  exact (h.drop _).take _
theorem cut_whole {xs : List PV} {lo hi : Option Int} (h : HT.sIx xs.length 0 lo = 0 ∧ HT.sIx xs.length xs.length hi = xs.length) : cutP xs lo hi = xs := by
  unfold cutP
  rw [clip_eq, clip_eq, h.1, h.2]
  simp
end
end RV
end
section
/-! RVExp: subscripts, slices, displays, attributes, dict displays as expressions. -/
namespace RV
open PySem PySem.Spec PyProof.Rows L2
section
variable {L : Pl} {E : XK} {μ : Mu} {H : Hp} {B S : Sto}
/-- a new object of the store -/
theorem new_obj {o : SO} {ho : HO} {R : PV → Sto → Mu → Hp → Prop} (h : OutOk L E μ H B (newS B S o) R) (rs : RelS L μ H (B ++ S)) {a : Addr} (hn : H a = none)
    (hr : RelO L (μ.push (B ++ S).length a) (upd H a ho) o a) : R (.obj (B.length + S.length)) (S ++ [o]) (μ.push (B ++ S).length a) (upd H a ho) := by
  have h : ∀ μ' H', Ext μ H μ' H' → RelS L μ' H' (B ++ (S ++ [o])) → R (.obj (B.length + S.length)) (S ++ [o]) μ' H' := h
  refine h _ _ (Ext.push rs hn) ?_
  rw [← List.append_assoc]
  exact rs.push hn hr
theorem push_at {a : Addr} : (μ.push (B ++ S).length a) (B.length + S.length) = some a := by
  show (if B.length + S.length = (B ++ S).length then some a else μ (B.length + S.length)) = some a
  rw [if_pos (by rw [List.length_append])]
theorem new_lst {xs : List PV} {ys : List V} {Q : VK} (h : OutOk L E μ H B (newS B S (.lst xs)) (fun r _ μ' H' => ∀ v, RelP L μ' H' r v → Q v H')) (rs : RelS L μ H (B ++ S)) (hl : RelL L μ H xs ys) {a : Addr} (hn : H a = none) :
    Q (.ref a) (upd H a (.lst ys)) :=
  new_obj (ho := .lst ys) h rs hn ⟨ys, upd_same, RelL.mono (Ext.push rs hn) xs ys hl⟩ (.ref a) ⟨a, rfl, push_at⟩
theorem mk_lst {m : Bool} {xs : List PV} {ys : List V} {Q : VK} (h : OutOk L E μ H B (mkLst m B S xs) (fun r _ μ' H' => ∀ v, RelP L μ' H' r v → Q v H')) (rs : RelS L μ H (B ++ S)) (hl : RelL L μ H xs ys) :
    ys.length ≤ sizeLine ∧ ∀ a, H a = none → Q (.ref a) (upd H a (.lst ys)) := by
  have h : OutOk L E μ H B (match Nat.ble xs.length szL with
    | true => (match m with
      | true => newS B S (.lst xs)
      | false => .ok (.lst xs) S)
    | false => .fail) (fun r _ μ' H' => ∀ v, RelP L μ' H' r v → Q v H') := h
  cases c : Nat.ble xs.length szL with
  | false => rw [c] at h; exact False.elim h
  | true =>
    rw [c] at h
    refine ⟨by rw [← hl.length, ← szL_eq]; exact Nat.le_of_ble_eq_true c, fun a hn => ?_⟩
    cases m with
    | true => exact new_lst h rs hl hn
    | false => exact Dem.lst (show Dem L μ H (B ++ S) (.lst xs) Q from h) rs hl hn
end
section
variable {X : Cx} {L : Pl} {E : XK} {a b c : Expr} {fa fb fc : FE} {pos : Pos}
/-! ### subscripts -/
def plainIx : Expr → Bool
  | .Slice .. => false
  | _ => true
theorem plainIx_ok {b : Expr} (h : plainIx b = true) : PlainIx b := by
  intro o i
  cases b <;> first | rfl | cases h
theorem e_sub (hP : X.prog = L.P) (hw : X.w = L.w) (hK : X.K = L.K) (hu : X.A.units + 65 < cLine) (ha : PE X a (tE L E fa)) (hb : PE X b (tE L E fb)) (hs : plainIx b = true) :
    PE X (.Subscript a b pos) (tE L E fun B ρ S => (fa B ρ S).bind fun x S => (fb B ρ S).bind fun y S => Out.of (subF B S x y) S) :=
  PEw (pe_ix (o_ix hP hw hK hu) ha hb (plainIx_ok hs)) fun _ _ _ h => tE_two h
/-! ### slices -/
def tO (L : Pl) (E : XK) (f : Sto → Loc → Sto → Out (Option Int)) : TO := fun σ H Q => ∃ μ B ρ S, RelS L μ H (B ++ S) ∧ RelR L μ H ρ σ ∧ OutOk L E μ H B (f B ρ S) (fun i _ _ H' => Q i H')
theorem o_none : PO X none (tO L E fun _ _ S => .ok none S) := ⟨fun pins s σ H Q I h => po_none.run pins s σ H Q I (by
  obtain ⟨μ, B, ρ, S, rs, rl, o⟩ := h
  exact o.now rs)⟩
theorem o_some {f : FE} (h : PE X a (tE L E f)) : PO X (some a) (tO L E fun B ρ S => (f B ρ S).bind fun x S => match x with
    | .int i => .ok (some i) S
    | _ => .fail) := ⟨fun pins s σ H Q I q => (po_some h).run pins s σ H Q I (by
  obtain ⟨μ, B, ρ, S, rs, rl, o⟩ := q
  refine ⟨μ, B, ρ, S, rs, rl, o.bind.imp fun p S1 μ1 H1 e1 rs1 o1 v hv => ?_⟩
  cases p with
  | int i => exact ⟨i, hv, OutOk.now o1 rs1⟩
  | _ => exact False.elim o1)⟩
def slcO (m : Bool) (B S : Sto) (x : PV) (l h : Option Int) : Out PV := match m with
    | false => Out.of (slcF B S x l h) S
    | true => match slcF B S x l h with
      | some (.lst xs) => newS B S (.lst xs)
      | _ => .fail
theorem sl_any (hK : X.K = L.K) (m : Bool) : SlR X (fun x lo hi H Q => ∃ μ B S p, RelS L μ H (B ++ S) ∧ RelP L μ H p x ∧ OutOk L E μ H B (slcO m B S p lo hi) (fun r _ μ' H' => ∀ v, RelP L μ' H' r v → Q v H')) := by
  intro pins s σ H x v vl vu lo hi sl Q I rx hs pl pu h
  obtain ⟨μ, B, S, p, rs, hp, o⟩ := h
  have lists : ∀ xs, der B S p = .lst xs → slcF B S p lo hi = some (.lst (cutP xs lo hi)) → ∃ T id, typeLookup (.type T) "__getitem__" = pure (some (.builtin id)) ∧ s.TypeIs v T ∧ wpAny (model X.prog X.w) X.A (getItem v (.ref sl)) (EP X pins σ Q) X.xe s := fun xs e1 e2 => by
    obtain ⟨a, ys, ea, ha, la⟩ := der_rel rs hp e1
    refine sl_list pins s σ H x v vl vu lo hi sl Q I rx hs pl pu ⟨a, ys, ea, SqL.of ha, fun c hc => ?_⟩
    cases m with
    | false =>
      have o : OutOk L E μ H B (Out.of (slcF B S p lo hi) S) (fun r _ μ' H' => ∀ v, RelP L μ' H' r v → Q v H') := o
      rw [e2] at o
      exact Dem.lst (show Dem L μ H (B ++ S) _ Q from o) rs (la.cut lo hi) hc
    | true =>
      have o : OutOk L E μ H B (match slcF B S p lo hi with
        | some (.lst xs) => newS B S (.lst xs)
        | _ => .fail) (fun r _ μ' H' => ∀ v, RelP L μ' H' r v → Q v H') := o
      rw [e2] at o
      exact new_lst o rs (la.cut lo hi) hc
  cases p with
  | tup xs =>
    obtain ⟨a, ys, ea, ha, la⟩ := hp
    cases m with
    | true => exact False.elim o
    | false =>
      have dm : Dem L μ H (B ++ S) (.tup (cutP xs lo hi)) Q := o
      refine sl_tupA pins s σ H x v vl vu lo hi sl Q I rx hs pl pu ⟨a, ys, ea, by rw [hK]; exact ha, fun hw => ?_, fun _ c hc => dm.tup rs (la.cut lo hi) hc⟩
      rw [cut_whole (by rw [la.length]; exact hw)] at dm
      exact dm.now rs ⟨a, ys, rfl, ha, la⟩
  | lst xs => exact lists xs rfl rfl
  | obj n =>
    cases e : der B S (.obj n) with
    | lst xs => exact lists xs e (by show (match der B S (.obj n) with | .lst xs => some (PV.lst (cutP xs lo hi)) | _ => none) = _; rw [e])
    | _ =>
      have e2 : slcF B S (.obj n) lo hi = none := by
        show (match der B S (.obj n) with | .lst xs => some (PV.lst (cutP xs lo hi)) | _ => none) = none
        rw [e]
      cases m with
      | false =>
        have o : OutOk L E μ H B (Out.of (slcF B S (.obj n) lo hi) S) (fun r _ μ' H' => ∀ v, RelP L μ' H' r v → Q v H') := o
        rw [e2] at o
        exact False.elim o
      | true =>
        have o : OutOk L E μ H B (match slcF B S (.obj n) lo hi with
          | some (.lst xs) => newS B S (.lst xs)
          | _ => .fail) (fun r _ μ' H' => ∀ v, RelP L μ' H' r v → Q v H') := o
        rw [e2] at o
        exact False.elim o
  | _ => cases m <;> exact False.elim o
theorem e_slc (hK : X.K = L.K) (m : Bool) {lo hi : Option Expr} {fl fh : Sto → Loc → Sto → Out (Option Int)} {p2 : Pos} (ha : PE X a (tE L E fa)) (hl : PO X lo (tO L E fl)) (hh : PO X hi (tO L E fh)) :
    PE X (.Subscript a (.Slice lo hi none p2) pos) (tE L E fun B ρ S => (fa B ρ S).bind fun x S => (fl B ρ S).bind fun l S => (fh B ρ S).bind fun h S => slcO m B S x l h) :=
  PEw (pe_slice (sl_any (E := E) hK m) ha hl hh) fun σ H Q h => by
    obtain ⟨μ, B, ρ, S, rs, rl, o⟩ := h
    exact ⟨μ, B, ρ, S, rs, rl, o.bind.imp fun p S1 μ1 H1 e1 rs1 o1 v hv => ⟨μ1, B, ρ, S1, rs1, rl.mono e1, o1.bind.imp fun l S2 μ2 H2 e2 rs2 o2 => ⟨μ2, B, ρ, S2, rs2, (rl.mono e1).mono e2, o2.bind.imp fun h S3 μ3 H3 e3 rs3 o3 => ⟨μ3, B, S3, p, rs3, RelP.mono e3 p v (RelP.mono e2 p v hv), o3⟩⟩⟩⟩
theorem e_rev (hK : X.K = L.K) {k : Nat} {p1 p2 p3 : Pos} (ha : PE X a (tE L E fa)) : PE X (.Subscript a (.Slice none none (some (.UnaryOp .USub (.Constant (.int 1) k p1) p2)) p3) pos) (tE L E fun B ρ S => (fa B ρ S).bind fun x S => Out.of (revF B S x) S) :=
  PEw (pe_revL ha) fun σ H Q h => by
    obtain ⟨μ, B, ρ, S, rs, rl, o⟩ := h
    refine ⟨μ, B, ρ, S, rs, rl, o.bind.imp fun p S1 μ1 H1 e1 rs1 o1 v hv => ?_⟩
    obtain ⟨r, er, dm⟩ := o1.of'
    have dm : Dem L μ1 H1 (B ++ S1) r Q := dm
    have er : (match der B S1 p with
      | .lst xs => some (PV.lst xs.reverse)
      | _ => none) = some r := er
    cases e : der B S1 p with
    | lst xs =>
      rw [e] at er
      have er : some (PV.lst xs.reverse) = some r := er
      cases er
      obtain ⟨b, ys, eb, hb, lb⟩ := der_rel rs1 hv e
      exact ⟨b, ys, eb, SqL.of hb, fun c hc => dm.lst rs1 lb.reverse hc⟩
    | _ => rw [e] at er; cases er
/-! ### displays -/
theorem e_tup {es : List Expr} {fs : Sto → Loc → Sto → Out (List PV)} {k : Nat} (h : PA X es (tA L E fs)) : PE X (.Tuple es k pos) (tE L E fun B ρ S => (fs B ρ S).bind fun vs S => match Nat.ble vs.length szL with
    | true => .ok (.tup vs) S
    | false => .fail) := PEw (pe_tup h) fun σ H Q q => by
  obtain ⟨μ, B, ρ, S, rs, rl, o⟩ := q
  refine ⟨μ, B, ρ, S, rs, rl, o.bind.imp fun ps S1 μ1 H1 e1 rs1 o1 vs hv => ?_⟩
  cases c : Nat.ble ps.length szL with
  | false => rw [c] at o1; exact False.elim o1
  | true =>
    rw [c] at o1
    exact ⟨by rw [← hv.length, ← szL_eq]; exact Nat.le_of_ble_eq_true c, fun p hp => Dem.tup (show Dem L μ1 H1 (B ++ S1) (.tup ps) Q from o1) rs1 hv hp⟩
theorem e_lst (m : Bool) {es : List Expr} {fs : Sto → Loc → Sto → Out (List PV)} (h : PA X es (tA L E fs)) : PE X (.List es pos) (tE L E fun B ρ S => (fs B ρ S).bind fun vs S => mkLst m B S vs) := PEw (pe_lst h) fun σ H Q q => by
  obtain ⟨μ, B, ρ, S, rs, rl, o⟩ := q
  exact ⟨μ, B, ρ, S, rs, rl, o.bind.imp fun ps S1 μ1 H1 e1 rs1 o1 vs hv => mk_lst o1 rs1 hv⟩
/-- *e among arguments -/
theorem seq_rel {μ : Mu} {H : Hp} {B S : Sto} {p : PV} {x : V} {xs : List PV} (rs : RelS L μ H (B ++ S)) (hp : RelP L μ H p x) (e : seqOf B S p = some xs) : ∃ a ys, x = .ref a ∧ (SqT L.K H a ys ∨ SqL L.K H a ys) ∧ RelL L μ H xs ys := by
  cases p with
  | tup zs =>
    have e : some zs = some xs := e
    cases e
    obtain ⟨a, ys, e1, h1, h2⟩ := hp
    exact ⟨a, ys, e1, .inl h1, h2⟩
  | lst zs =>
    have e : some zs = some xs := e
    cases e
    obtain ⟨a, ys, e1, h1, _, h2⟩ := hp
    exact ⟨a, ys, e1, .inr (SqL.of h1), h2⟩
  | scr zs =>
    have e : some zs = some xs := e
    cases e
    obtain ⟨a, ys, e1, h1, h2⟩ := hp
    exact ⟨a, ys, e1, .inr h1.sq, h2⟩
  | obj n =>
    have e : (match getS B S n with | some (.lst xs) => some xs | _ => none) = some xs := e
    cases g : getS B S n with
    | none => rw [g] at e; cases e
    | some o =>
      rw [g] at e
      cases o with
      | lst zs =>
        have e : some zs = some xs := e
        cases e
        obtain ⟨a, e1, _, ys, h1, h2⟩ := rs.get g hp
        exact ⟨a, ys, e1, .inr (SqL.of h1), h2⟩
      | _ => cases e
  | _ => cases e
theorem a_star (hK : X.K = L.K) {es : List Expr} {fs : Sto → Loc → Sto → Out (List PV)} {p : Pos} (ha : PE X a (tE L E fa)) (hr : PA X es (tA L E fs)) :
    PA X (.Starred a p :: es) (tA L E fun B ρ S => (fa B ρ S).bind fun x S => match seqOf B S x with
      | some xs => (fs B ρ S).bind fun vs S => .ok (xs ++ vs) S
      | none => .fail) := PAw (StX.pa_star ha hr rfl) fun σ H Q h => by
  obtain ⟨μ, B, ρ, S, rs, rl, o⟩ := h
  refine ⟨μ, B, ρ, S, rs, rl, o.bind.imp fun q S1 μ1 H1 e1 rs1 o1 v hv => ?_⟩
  cases e : seqOf B S1 q with
  | none => rw [e] at o1; exact False.elim o1
  | some xs =>
    rw [e] at o1
    obtain ⟨b, ys, eb, hb, lb⟩ := seq_rel rs1 hv e
    refine ⟨b, ys, eb, by rw [hK]; exact hb, μ1, B, ρ, S1, rs1, rl.mono e1, (OutOk.bind o1).imp fun ps S2 μ2 H2 e2 rs2 o2 vs hvs => OutOk.now o2 rs2 _ ((RelL.mono e2 xs ys lb).append hvs)⟩
/-! ### attributes -/
theorem look_rel (inj : ∀ i j, i < L.nf → j < L.nf → L.fn i = L.fn j → i = j) {μ : Mu} {H : Hp} {f : Nat} (hf : f < L.nf) : ∀ {fs : List (Nat × PV)} {gs : List (Str × V)} {p : PV}, RelF L μ H fs gs → lookN f fs = some p → ∃ v, gs.lookup (L.fn f) = some v ∧ RelP L μ H p v
  | [], _, _, _, e => by cases e
  | (g, q) :: fs, _, p, h, e => by
    obtain ⟨v, r, e1, hg, h1, h2⟩ := h
    rw [e1]
    have e : (match Nat.beq g f with | true => some q | false => lookN f fs) = some p := e
    cases c : Nat.beq g f with
    | true =>
      rw [c] at e
      have e : some q = some p := e
      cases e
      have : g = f := Nat.eq_of_beq_eq_true c
      subst this
      exact ⟨v, by simp [List.lookup], h1⟩
    | false =>
      rw [c] at e
      have ne : g ≠ f := fun z => by rw [z, Nat.beq_refl] at c; cases c
      have nn : (L.fn f == L.fn g) = false := by
        apply beq_eq_false_iff_ne.mpr
        intro z
        exact ne (inj g f hg hf z.symm)
      obtain ⟨w, e3, r3⟩ := look_rel inj hf h2 e
      exact ⟨w, by simp [List.lookup, nn, e3], r3⟩
structure ClsF (L : Pl) (fld : Nat → List Nat) : Prop where
  inj : ∀ i j, i < L.nf → j < L.nf → L.fn i = L.fn j → i = j
  at_ : ∀ c f, f ∈ fld c → f < L.nf ∧ Cls L.K (L.ca c) ∧ NoAttr L.K (L.ca c) (L.fn f)
theorem mem_any {l : List Nat} {f : Nat} (h : (l.any fun g => Nat.beq g f) = true) : f ∈ l := by
  obtain ⟨g, hg, e⟩ := List.any_eq_true.mp h
  rw [← Nat.eq_of_beq_eq_true e]; exact hg
theorem e_attr (hK : X.K = L.K) {fld : Nat → List Nat} (cf : ClsF L fld) {f : Nat} {x : Str} (hx : L.fn f = x) (ha : PE X a (tE L E fa)) (hb : attributeBase a x X.env (eval a X.env) = eval a X.env) :
    PE X (.Attribute a x pos) (tE L E fun B ρ S => (fa B ρ S).bind fun x S => Out.of (attrF fld B S x f) S) := PEw (pe_fld ha hb) fun σ H Q h => by
  obtain ⟨μ, B, ρ, S, rs, rl, o⟩ := h
  refine ⟨μ, B, ρ, S, rs, rl, o.bind.imp fun p S1 μ1 H1 e1 rs1 o1 v hv => ?_⟩
  obtain ⟨r, er, dm⟩ := o1.of'
  have dm : Dem L μ1 H1 (B ++ S1) r Q := dm
  cases p with
  | obj n =>
    have er : (match getS B S1 n with
      | some (.ins c fs) => match (fld c).any fun g => Nat.beq g f with
        | true => lookN f fs
        | false => none
      | _ => none) = some r := er
    cases g : getS B S1 n with
    | none => rw [g] at er; cases er
    | some ob =>
      rw [g] at er
      cases ob with
      | ins c fs =>
        have er : (match (fld c).any fun g => Nat.beq g f with
          | true => lookN f fs
          | false => none) = some r := er
        cases m : (fld c).any fun g => Nat.beq g f with
        | false => rw [m] at er; cases er
        | true =>
          rw [m] at er
          obtain ⟨b, eb, _, dx, gs, h1, h2⟩ := rs1.get g hv
          obtain ⟨hf, hc, hn⟩ := cf.at_ c f (mem_any m)
          obtain ⟨w, e3, r3⟩ := look_rel cf.inj hf h2 er
          rw [hx] at hn e3
          exact ⟨b, L.ca c, dx, gs, w, eb, h1, by rw [hK]; exact hc, by rw [hK]; exact hn, e3, dm.now rs1 r3⟩
      | _ => cases er
  | _ => cases er
/-! ### {} -/
theorem e_dnew (t : Bool) (hP : X.prog = L.P) (hw : X.w = L.w) : PE X (.Dict [] [] pos) (tE L E fun B _ S => newS B S (mkD t [])) := by
  refine ⟨fun pins s σ H Q I h => ?_⟩
  obtain ⟨μ, B, ρ, S, rs, rl, o⟩ := h
  have hn : H s.heap.objs.size = none := I.hok.fresh (Nat.le_refl _)
  cases t with
  | false =>
    refine (pe_dnewK (X := X) (pos := pos)).run pins s σ H Q I fun p hp => ?_
    exact new_obj (ho := .dK []) o rs hp ⟨[], upd_same, List.nodup_nil, rfl⟩ (.ref p) ⟨p, rfl, push_at⟩
  | true =>
    have hb := I.big
    have hs : (s.heap.objs.size == sysModules) = false := by
      apply beq_eq_false_iff_ne.mpr
      exact Nat.ne_of_gt hb
    have fin := new_obj (ho := DctX L s.heap.objs.size []) o rs hn ⟨[], upd_same, List.nodup_nil, hs, rfl⟩ (.ref s.heap.objs.size) ⟨_, rfl, push_at⟩
    refine wpAny_Dict_empty ⟨.ref s.heap.objs.size, _, I.laid (a := s.heap.objs.size) (o := DctX L s.heap.objs.size []) (t' := s.toks) (fun _ _ q => Heap.get?_push_of_some _ q) (Nat.le_refl _) ?_, rfl, fin⟩
    have hg : (s.heap.push { cls := .type "dict", data := .dict #[] }).get? s.heap.objs.size = some { cls := .type "dict", data := .dict #[] } := Heap.get?_push_size _ rfl
    obtain ⟨o1, es, ep, h1, h2, h3, h4, _⟩ := Heap.DictOfH.new (knd := nestedKind L.P L.w) s.heap
    exact ⟨⟨o1, es, ep, h1, h2, h3, h4⟩, ⟨_, hg⟩, fun h1 h2 ⟨o, es, ep, a1, a2, a3, a4⟩ st => ⟨o, es, ep, st _ a1, a2, a3, a4⟩⟩
end
end RV
end
section
/-! RVBi: built-in functions and methods by values. -/
namespace RV
open PySem PySem.Spec PyProof.Rows L2
theorem setS_some {B S S' : Sto} {n : Nat} {o : SO} (h : setS B S n o = some S') : n < (B ++ S).length ∧ B ++ S' = (B ++ S).set n o := by
  have h : (match Nat.blt n B.length with
    | true => none
    | false => match Nat.blt (n - B.length) S.length with
      | true => some (S.set (n - B.length) o)
      | false => none) = some S' := h
  cases c : Nat.blt n B.length with
  | true => rw [c] at h; cases h
  | false =>
    rw [c] at h
    have h : (match Nat.blt (n - B.length) S.length with
      | true => some (S.set (n - B.length) o)
      | false => none) = some S' := h
    cases d : Nat.blt (n - B.length) S.length with
    | false => rw [d] at h; cases h
    | true =>
      rw [d] at h
      have h : some (S.set (n - B.length) o) = some S' := h
      cases h
      have c' : B.length ≤ n := by
        rcases Nat.lt_or_ge n B.length with z | z
        · rw [show Nat.blt n B.length = true from Nat.ble_eq_true_of_le z] at c; cases c
        · exact z
      have d' : n - B.length < S.length := Nat.le_of_ble_eq_true d
      refine ⟨by rw [List.length_append]; omega, ?_⟩
      rw [List.set_append_right _ _ c']
section
variable {X : Cx} {L : Pl} {E : XK}
theorem RelL.one_inv {μ : Mu} {H : Hp} {p : PV} {xs : List V} (h : RelL L μ H [p] xs) : ∃ x, xs = [x] ∧ RelP L μ H p x := by
  obtain ⟨y, r, e, h1, h2⟩ := h
  have h2 : r = [] := h2
  rw [h2] at e
  exact ⟨y, e, h1⟩
theorem RelL.two_inv {μ : Mu} {H : Hp} {p q : PV} {xs : List V} (h : RelL L μ H [p, q] xs) : ∃ x y, xs = [x, y] ∧ RelP L μ H p x ∧ RelP L μ H q y := by
  obtain ⟨y, r, e, h1, h2⟩ := h
  obtain ⟨z, e2, h3⟩ := h2.one_inv
  rw [e2] at e
  exact ⟨y, z, e, h1, h3⟩
theorem seq_sq (hK : X.K = L.K) {μ : Mu} {H : Hp} {B S : Sto} {p : PV} {x : V} {xs : List PV} (rs : RelS L μ H (B ++ S)) (hp : RelP L μ H p x) (e : seqOf B S p = some xs) : ∃ a ys, x = .ref a ∧ (SqL X.K H a ys ∨ SqT X.K H a ys) ∧ RelL L μ H xs ys := by
  obtain ⟨a, ys, e1, h1, h2⟩ := seq_rel rs hp e
  rw [hK]
  exact ⟨a, ys, e1, h1.symm, h2⟩
/-- one argument, by values -/
theorem c_one {f : Value} {b : BI} {g : Sto → Sto → PV → Out PV} (h1 : ∀ B S x, biF B S b [x] = g B S x) (h0 : ∀ B S, biF B S b [] = .fail) (h2 : ∀ B S x y r, biF B S b (x :: y :: r) = .fail)
    (h : ∀ (pins : List (Addr × Obj)) (s : Shared) (σ : L2.St) (H : Hp) (x : V) (u : Value) (Q : VK), Inv X pins σ H s → RelV x u → ∀ (μ : Mu) (B S : Sto) (p : PV), RelS L μ H (B ++ S) → RelP L μ H p x →
      OutOk L E μ H B (g B S p) (fun r _ μ' H' => ∀ v, RelP L μ' H' r v → Q v H') → wpAny (model X.prog X.w) X.A (call f [u]) (EP X pins σ Q) X.xe s) : CallR X f (rL L E fun B S vs => biF B S b vs) := by
  intro pins s σ H xs us Q I r q
  obtain ⟨μ, B, S, ps, rs, hl, o⟩ := q
  have o : OutOk L E μ H B (biF B S b ps) (fun r _ μ' H' => ∀ v, RelP L μ' H' r v → Q v H') := o
  match ps, hl, o with
  | [], _, o => rw [h0] at o; exact False.elim o
  | _ :: _ :: _, _, o => rw [h2] at o; exact False.elim o
  | [p], hl, o =>
    rw [h1] at o
    obtain ⟨x, ex, hp⟩ := hl.one_inv
    subst ex
    obtain ⟨u, rfl, ru⟩ := vals1 r
    exact h pins s σ H x u Q I ru μ B S p rs hp o
theorem c_len (hK : X.K = L.K) : CallR X (.builtin "len") (rL L E fun B S vs => biF B S .len vs) :=
  c_one (fun _ _ _ => rfl) (fun _ _ => rfl) (fun _ _ _ _ _ => rfl) fun pins s σ H x u Q I ru μ B S p rs hp o => by
    obtain ⟨r, er, dm⟩ := o.of'
    obtain ⟨zs, ez, rfl⟩ := Option.map_eq_some_iff.mp er
    obtain ⟨a, ys, ea, ha, la⟩ := seq_sq hK rs hp ez
    exact call_len_seq pins s σ H [x] [u] Q I (.cons ru .nil) ⟨a, ys, by rw [ea], ha, by rw [← la.length]; exact OutOk.now dm rs _ rfl⟩
theorem c_all (hK : X.K = L.K) (hc : X.calm = true) : CallR X (.builtin "all") (rL L E fun B S vs => biF B S .all vs) :=
  c_one (fun _ _ _ => rfl) (fun _ _ => rfl) (fun _ _ _ _ _ => rfl) fun pins s σ H x u Q I ru μ B S p rs hp o => by
    obtain ⟨r, er, dm⟩ := o.of'
    obtain ⟨b, eb, rfl⟩ := Option.map_eq_some_iff.mp er
    unfold allF at eb
    cases e : der B S p with
    | lst xs =>
      rw [e] at eb
      obtain ⟨bs, e2, rfl⟩ := Option.map_eq_some_iff.mp eb
      obtain ⟨a, ys, ea, ha, la⟩ := der_rel rs hp e
      rw [la.bools e2] at ha
      exact cr_all hc pins s σ H [x] [u] Q I (.cons ru .nil) ⟨a, bs, by rw [ea], SqL.of ha, OutOk.now dm rs _ rfl⟩
    | _ => rw [e] at eb; cases eb
theorem c_any (hK : X.K = L.K) (hc : X.calm = true) : CallR X (.builtin "any") (rL L E fun B S vs => biF B S .any vs) :=
  c_one (fun _ _ _ => rfl) (fun _ _ => rfl) (fun _ _ _ _ _ => rfl) fun pins s σ H x u Q I ru μ B S p rs hp o => by
    obtain ⟨r, er, dm⟩ := o.of'
    obtain ⟨b, eb, rfl⟩ := Option.map_eq_some_iff.mp er
    unfold anyF at eb
    cases e : der B S p with
    | lst xs =>
      rw [e] at eb
      obtain ⟨bs, e2, rfl⟩ := Option.map_eq_some_iff.mp eb
      obtain ⟨a, ys, ea, ha, la⟩ := der_rel rs hp e
      rw [la.bools e2] at ha
      exact cr_any hc pins s σ H [x] [u] Q I (.cons ru .nil) ⟨a, bs, by rw [ea], SqL.of ha, OutOk.now dm rs _ rfl⟩
    | _ => rw [e] at eb; cases eb
theorem sumI_sum : ∀ ns : List Int, sumI ns = ns.sum
  | [] => rfl
  | n :: ns => by rw [List.sum_cons, ← sumI_sum ns]; rfl
theorem tup_sum (hc : X.calm = true) : CallR X (.builtin "sum") (fun vs H Q => ∃ (a : Addr) (ns : List Int), vs = [V.ref a] ∧ SqT X.K H a (ns.map V.int) ∧ Q (.int ns.sum) H) := by
  intro pins s σ H vs us Q I r h
  obtain ⟨a, ns, rfl, hs, q⟩ := h
  obtain ⟨its, rv, ht, _⟩ := I.tuple hs
  obtain ⟨u, rfl, ru⟩ := vals1 r
  obtain rfl : u = Value.ref a := ru
  have hi : IntsAre its ns := rv.ints
  obtain ⟨xs, hx⟩ := hi.allInts.items
  have hn : numsOf its.toArray.toList = ns := by rw [show its.toArray.toList = its from rfl, hi.numsOf]
  rw [hx] at hn
  rw [nums_intItems] at hn
  have ht' : s.heap.IsTuple a (intItems xs) := by rw [← hx]; exact ht
  refine PySem.W.ktm_sumG (I.ok.hd hc) ht' fun h' tk t' k => ⟨.int ns.sum, H, I.kept k, ⟨t', ?_⟩, q⟩
  rw [← hn, preSum_eq, List.take_of_length_le (by simp)]
theorem c_sum (hK : X.K = L.K) (hc : X.calm = true) : CallR X (.builtin "sum") (rL L E fun B S vs => biF B S .sum vs) :=
  c_one (fun _ _ _ => rfl) (fun _ _ => rfl) (fun _ _ _ _ _ => rfl) fun pins s σ H x u Q I ru μ B S p rs hp o => by
    obtain ⟨r, er, dm⟩ := o.of'
    obtain ⟨i, ei, rfl⟩ := Option.map_eq_some_iff.mp er
    unfold sumF at ei
    cases e : seqOf B S p with
    | none => rw [e] at ei; cases ei
    | some xs =>
      rw [e] at ei
      obtain ⟨ns, e2, rfl⟩ := Option.map_eq_some_iff.mp ei
      obtain ⟨a, ys, ea, ha, la⟩ := seq_sq hK rs hp e
      rw [la.ints e2] at ha
      have fin : Q (.int ns.sum) H := by rw [← sumI_sum]; exact OutOk.now dm rs _ rfl
      rcases ha with ha | ha
      · exact cr_sum hc pins s σ H [x] [u] Q I (.cons ru .nil) ⟨a, ns, by rw [ea], ha, fin⟩
      · exact tup_sum hc pins s σ H [x] [u] Q I (.cons ru .nil) ⟨a, ns, by rw [ea], ha, fin⟩
theorem c_tuple (hK : X.K = L.K) : CallR X (.type "tuple") (rL L E fun B S vs => biF B S .tuple vs) :=
  c_one (fun _ _ _ => rfl) (fun _ _ => rfl) (fun _ _ _ _ _ => rfl) fun pins s σ H x u Q I ru μ B S p rs hp o => by
    obtain ⟨r, er, dm⟩ := o.of'
    obtain ⟨zs, ez, rfl⟩ := Option.map_eq_some_iff.mp er
    have dm : Dem L μ H (B ++ S) (.tup zs) Q := dm
    obtain ⟨a, ys, ea, ha, la⟩ := seq_sq hK rs hp ez
    refine call_tuple_of pins s σ H [x] [u] Q I (.cons ru .nil) ⟨a, ys, by rw [ea], ?_⟩
    rcases ha with ha | ha
    · exact .inl ⟨ha, fun l hl => dm.tup rs la hl⟩
    · exact .inr ⟨ha, dm.now rs ⟨a, ys, rfl, by rw [← hK]; exact ha, la⟩⟩
theorem c_int : CallR X (.type "int") (rL L E fun B S vs => biF B S .int vs) :=
  c_one (fun _ _ _ => rfl) (fun _ _ => rfl) (fun _ _ _ _ _ => rfl) fun pins s σ H x u Q I ru μ B S p rs hp o => by
    obtain ⟨r, er, dm⟩ := o.of'
    obtain ⟨i, ei, rfl⟩ := Option.map_eq_some_iff.mp er
    refine call_int1 pins s σ H [x] [u] Q I (.cons ru .nil) ?_
    cases p with
    | int j =>
      have ei : some j = some i := ei
      have ej : j = i := Option.some.inj ei
      have hp : x = .int j := hp
      exact .inl ⟨i, by rw [hp, ej], OutOk.now dm rs _ rfl⟩
    | bl b =>
      have hp : x = .bl b := hp
      refine .inr ⟨b, by rw [hp], ?_⟩
      cases b with
      | true =>
        have ei : some 1 = some i := ei
        cases ei
        exact OutOk.now dm rs _ rfl
      | false =>
        have ei : some 0 = some i := ei
        cases ei
        exact OutOk.now dm rs _ rfl
    | _ => cases ei
theorem c_min2 (hc : X.calm = true) : CallR X (.builtin "min") (rL L E fun B S vs => biF B S .min2 vs) := by
  intro pins s σ H xs us Q I r q
  obtain ⟨μ, B, S, ps, rs, hl, o⟩ := q
  have o : OutOk L E μ H B (biF B S .min2 ps) (fun r _ μ' H' => ∀ v, RelP L μ' H' r v → Q v H') := o
  by_cases hh : ∃ i j, ps = [.int i, .int j]
  · obtain ⟨i, j, rfl⟩ := hh
    obtain ⟨x, y, ex, h1, h2⟩ := hl.two_inv
    have h1 : x = .int i := h1
    have h2 : y = .int j := h2
    exact call_min2 hc pins s σ H xs us Q I r ⟨i, j, by rw [ex, h1, h2], OutOk.now o rs _ rfl⟩
  · have e : biF B S .min2 ps = .fail := by
      unfold biF
      split <;> first | rfl | (exfalso; simp_all; done) | skip
      all_goals first | rfl | exact (hh ⟨_, _, rfl⟩).elim
    rw [e] at o
    exact False.elim o
theorem c_max2 (hc : X.calm = true) : CallR X (.builtin "max") (rL L E fun B S vs => biF B S .max2 vs) := by
  intro pins s σ H xs us Q I r q
  obtain ⟨μ, B, S, ps, rs, hl, o⟩ := q
  have o : OutOk L E μ H B (biF B S .max2 ps) (fun r _ μ' H' => ∀ v, RelP L μ' H' r v → Q v H') := o
  by_cases hh : ∃ i j, ps = [.int i, .int j]
  · obtain ⟨i, j, rfl⟩ := hh
    obtain ⟨x, y, ex, h1, h2⟩ := hl.two_inv
    have h1 : x = .int i := h1
    have h2 : y = .int j := h2
    exact call_max2 hc pins s σ H xs us Q I r ⟨i, j, by rw [ex, h1, h2], OutOk.now o rs _ rfl⟩
  · have e : biF B S .max2 ps = .fail := by
      unfold biF
      split <;> first | rfl | (exfalso; simp_all; done) | skip
      all_goals first | rfl | exact (hh ⟨_, _, rfl⟩).elim
    rw [e] at o
    exact False.elim o
theorem c_min3 (hc : X.calm = true) : CallR X (.builtin "min") (rL L E fun B S vs => biF B S .min3 vs) := by
  intro pins s σ H xs us Q I r q
  obtain ⟨μ, B, S, ps, rs, hl, o⟩ := q
  have o : OutOk L E μ H B (biF B S .min3 ps) (fun r _ μ' H' => ∀ v, RelP L μ' H' r v → Q v H') := o
  by_cases hh : ∃ i j k, ps = [.int i, .int j, .int k]
  · obtain ⟨i, j, k, rfl⟩ := hh
    obtain ⟨x, r1, e1, h1, hl⟩ := hl
    obtain ⟨y, r2, e2, h2, hl⟩ := hl
    obtain ⟨z, r3, e3, h3, hl⟩ := hl
    have hl : r3 = [] := hl
    subst hl e3 e2 e1
    have h1 : x = .int i := h1
    have h2 : y = .int j := h2
    have h3 : z = .int k := h3
    subst h1 h2 h3
    cases r with
    | cons a1 r =>
      cases r with
      | cons a2 r =>
        cases r with
        | cons a3 r =>
          cases r
          obtain ⟨t1, rfl⟩ := a1
          obtain ⟨t2, rfl⟩ := a2
          obtain ⟨t3, rfl⟩ := a3
          refine min_three_ints (I.ok.hd hc) fun h' tk kk => ⟨_, H, I.kept kk, ?_, OutOk.now o rs _ rfl⟩
          by_cases c1 : j < i
          · rw [if_pos c1, if_pos c1]
            by_cases c2 : k < j
            · rw [if_pos c2, if_pos c2]; exact ⟨_, rfl⟩
            · rw [if_neg c2, if_neg c2]; exact ⟨_, rfl⟩
          · rw [if_neg c1, if_neg c1]
            by_cases c2 : k < i
            · rw [if_pos c2, if_pos c2]; exact ⟨_, rfl⟩
            · rw [if_neg c2, if_neg c2]; exact ⟨_, rfl⟩
  · have e : biF B S .min3 ps = .fail := by
      unfold biF
      split <;> first | rfl | (exfalso; simp_all; done) | skip
      all_goals first | rfl | exact (hh ⟨_, _, _, rfl⟩).elim
    rw [e] at o
    exact False.elim o
/-! ### methods of lists -/
theorem recv_lst {μ : Mu} {H : Hp} {B S : Sto} {b : BI} {p : PV} {x : V} (rs : RelS L μ H (B ++ S)) (hp : RelP L μ H p x) (h : recvOk B S b p = true) : tyV X.K "list" x H := by
  have key : ∀ n, p = .obj n → (match getS B S n with | some (.lst _) => true | _ => false) = true → tyV X.K "list" x H := fun n e h => by
    rw [e] at hp
    cases g : getS B S n with
    | none => rw [g] at h; cases h
    | some ob =>
      rw [g] at h
      cases ob with
      | lst xs =>
        obtain ⟨a, e1, e2, ys, h1, h2⟩ := rs.get g hp
        rw [e1]
        exact .inl ⟨rfl, ys, SqL.of h1⟩
      | _ => cases h
  cases b <;> first
    | (cases p <;> first | exact key _ rfl h | cases h)
    | cases h
theorem m_append (hK : X.K = L.K) : MtR X "list.append" (fun x xs H Q => ∃ μ B S p ps, RelS L μ H (B ++ S) ∧ RelP L μ H p x ∧ RelL L μ H ps xs ∧ OutOk L E μ H B (biF B S .append (p :: ps)) (fun r _ μ' H' => ∀ v, RelP L μ' H' r v → Q v H')) := by
  intro pins s σ H x xs v us Q I rx rv q
  obtain ⟨μ, B, S, p, ps, rs, hp, hl, o⟩ := q
  cases p with
  | obj n =>
    match ps, hl, o with
    | [], _, o => exact False.elim o
    | _ :: _ :: _, _, o => exact False.elim o
    | [y], hl, o =>
      obtain ⟨z, ez, hz⟩ := hl.one_inv
      have o : OutOk L E μ H B (match appF B S n y with
        | some S' => .ok .non S'
        | none => .fail) (fun r _ μ' H' => ∀ v, RelP L μ' H' r v → Q v H') := o
      cases e : appF B S n y with
      | none => rw [e] at o; exact False.elim o
      | some S' =>
        rw [e] at o
        unfold appF at e
        cases g : getS B S n with
        | none => rw [g] at e; cases e
        | some ob =>
          rw [g] at e
          cases ob with
          | lst zs =>
            have e : (match Nat.blt zs.length szL with
              | true => setS B S n (.lst (zs ++ [y]))
              | false => none) = some S' := e
            cases c : Nat.blt zs.length szL with
            | false => rw [c] at e; cases e
            | true =>
              rw [c] at e
              have e : setS B S n (.lst (zs ++ [y])) = some S' := e
              obtain ⟨hn, es⟩ := setS_some e
              obtain ⟨a, ea, em, ys, h1, h2⟩ := rs.get g hp
              have hlt : ys.length < sizeLine := by rw [← h2.length, ← szL_eq]; exact Nat.le_of_ble_eq_true c
              refine mt_append pins s σ H x xs v us Q I rx rv ⟨a, ys, z, ea, ez, h1, hlt, ?_⟩
              have ext := Ext.write (o := .lst (ys ++ [z])) rs em hn
              refine o μ _ ext ?_ .non rfl
              rw [es]
              exact rs.write em hn ⟨_, upd_same, (RelL.mono ext zs ys h2).snoc (RelP.mono ext y z hz)⟩
          | _ => cases e
  | _ => exact False.elim o
theorem m_extend (hK : X.K = L.K) : MtR X "list.extend" (fun x xs H Q => ∃ μ B S p ps, RelS L μ H (B ++ S) ∧ RelP L μ H p x ∧ RelL L μ H ps xs ∧ OutOk L E μ H B (biF B S .extend (p :: ps)) (fun r _ μ' H' => ∀ v, RelP L μ' H' r v → Q v H')) := by
  intro pins s σ H x xs v us Q I rx rv q
  obtain ⟨μ, B, S, p, ps, rs, hp, hl, o⟩ := q
  cases p with
  | obj n =>
    match ps, hl, o with
    | [], _, o => exact False.elim o
    | _ :: _ :: _, _, o => exact False.elim o
    | [y], hl, o =>
      obtain ⟨z, ez, hz⟩ := hl.one_inv
      have o : OutOk L E μ H B (match extF B S n y with
        | some S' => .ok .non S'
        | none => .fail) (fun r _ μ' H' => ∀ v, RelP L μ' H' r v → Q v H') := o
      cases e : extF B S n y with
      | none => rw [e] at o; exact False.elim o
      | some S' =>
        rw [e] at o
        unfold extF at e
        cases g : getS B S n with
        | none => rw [g] at e; cases e
        | some ob =>
          rw [g] at e
          cases ob with
          | lst zs =>
            have e : (match der B S y with
              | .lst ys => match Nat.ble (zs.length + ys.length) szL with
                | true => setS B S n (.lst (zs ++ ys))
                | false => none
              | _ => none) = some S' := e
            cases ed : der B S y with
            | lst ws =>
              rw [ed] at e
              have e : (match Nat.ble (zs.length + ws.length) szL with
                | true => setS B S n (.lst (zs ++ ws))
                | false => none) = some S' := e
              cases c : Nat.ble (zs.length + ws.length) szL with
              | false => rw [c] at e; cases e
              | true =>
                rw [c] at e
                have e : setS B S n (.lst (zs ++ ws)) = some S' := e
                obtain ⟨hn, es⟩ := setS_some e
                obtain ⟨a, ea, em, ys, h1, h2⟩ := rs.get g hp
                obtain ⟨b, bs, eb, hb, lb⟩ := der_rel rs hz ed
                have hlt : ys.length + bs.length ≤ sizeLine := by rw [← h2.length, ← lb.length, ← szL_eq]; exact Nat.le_of_ble_eq_true c
                refine mt_extend pins s σ H x xs v us Q I rx rv ⟨a, b, ys, bs, ea, by rw [ez, eb], h1, hb, hlt, ?_⟩
                have ext := Ext.write (o := .lst (ys ++ bs)) rs em hn
                refine o μ _ ext ?_ .non rfl
                rw [es]
                exact rs.write em hn ⟨_, upd_same, (RelL.mono ext zs ys h2).append (RelL.mono ext ws bs lb)⟩
            | _ => rw [ed] at e; cases e
          | _ => cases e
  | _ => exact False.elim o
theorem RelL.dropLast {μ : Mu} {H : Hp} {xs : List PV} {ys : List V} (h : RelL L μ H xs ys) : RelL L μ H xs.dropLast ys.dropLast := by
  rw [List.dropLast_eq_take, List.dropLast_eq_take, h.length]
  exact h.take _
theorem m_pop (hK : X.K = L.K) : MtR X "list.pop" (fun x xs H Q => ∃ μ B S p ps, RelS L μ H (B ++ S) ∧ RelP L μ H p x ∧ RelL L μ H ps xs ∧ OutOk L E μ H B (biF B S .pop (p :: ps)) (fun r _ μ' H' => ∀ v, RelP L μ' H' r v → Q v H')) := by
  intro pins s σ H x xs v us Q I rx rv q
  obtain ⟨μ, B, S, p, ps, rs, hp, hl, o⟩ := q
  cases p with
  | obj n =>
    match ps, hl, o with
    | _ :: _, _, o => exact False.elim o
    | [], hl, o =>
      have hl : xs = [] := hl
      have o : OutOk L E μ H B (match popF B S n with
        | some (v, S') => .ok v S'
        | none => .fail) (fun r _ μ' H' => ∀ v, RelP L μ' H' r v → Q v H') := o
      cases e : popF B S n with
      | none => rw [e] at o; exact False.elim o
      | some r =>
        obtain ⟨y, S'⟩ := r
        rw [e] at o
        unfold popF at e
        cases g : getS B S n with
        | none => rw [g] at e; cases e
        | some ob =>
          rw [g] at e
          cases ob with
          | lst zs =>
            have e : (match zs[zs.length - 1]? with
              | some v => (setS B S n (.lst zs.dropLast)).map fun S' => (v, S')
              | none => none) = some (y, S') := e
            cases ey : zs[zs.length - 1]? with
            | none => rw [ey] at e; cases e
            | some y' =>
              rw [ey] at e
              obtain ⟨S2, e2, e3⟩ := Option.map_eq_some_iff.mp e
              cases e3
              obtain ⟨hn, es⟩ := setS_some e2
              obtain ⟨a, ea, em, ys, h1, h2⟩ := rs.get g hp
              obtain ⟨w, ew, rw'⟩ := h2.get ey
              refine mt_pop pins s σ H x xs v us Q I rx rv ⟨a, ys, w, ea, hl, h1, by rw [← h2.length]; exact ew, ?_⟩
              have ext := Ext.write (o := .lst ys.dropLast) rs em hn
              refine o μ _ ext ?_ w (RelP.mono ext _ w rw')
              rw [es]
              exact rs.write em hn ⟨_, upd_same, (RelL.mono ext zs ys h2).dropLast⟩
          | _ => cases e
  | _ => exact False.elim o
end
end RV
end
section
/-! RVSort: sorted(..), list(..). -/
namespace RV
open PySem PySem.Calls PySem.Spec PyProof.Rows L2 PySem.W
/-! ### the plain law: insertion gives the one stable sorted list -/
section
variable {α : Type} {le : α → α → Bool}
def insB (le : α → α → Bool) (x : α) : List α → List α
  | [] => [x]
  | y :: r => match le x y with
    | true => x :: y :: r
    | false => y :: insB le x r
def sortB (le : α → α → Bool) : List α → List α
  | [] => []
  | x :: r => insB le x (sortB le r)
theorem insB_mem {x z : α} : ∀ {l : List α}, z ∈ insB le x l → z = x ∨ z ∈ l
  | [], h => by
    have h : z ∈ [x] := h
    exact .inl (List.mem_singleton.mp h)
  | y :: r, h => by
    have h : z ∈ (match le x y with
      | true => x :: y :: r
      | false => y :: insB le x r) := h
    cases c : le x y with
    | true => rw [c] at h; exact List.mem_cons.mp h
    | false =>
      rw [c] at h
      rcases List.mem_cons.mp h with h | h
      · rw [h]; exact .inr List.mem_cons_self
      · rcases insB_mem h with h | h
        · exact .inl h
        · exact .inr (List.mem_cons_of_mem _ h)
theorem insB_sorted (T : TotalLe le) (x : α) : ∀ (l : List α), l.Pairwise (fun a b => le a b = true) → (insB le x l).Pairwise (fun a b => le a b = true)
  | [], _ => by show [x].Pairwise _; simp
  | y :: r, h => by
    show (match le x y with
      | true => x :: y :: r
      | false => y :: insB le x r).Pairwise _
    rw [List.pairwise_cons] at h
    cases c : le x y with
    | true =>
      refine List.pairwise_cons.mpr ⟨fun z hz => ?_, List.pairwise_cons.mpr h⟩
      rcases List.mem_cons.mp hz with hz | hz
      · rw [hz]; exact c
      · exact T.trans _ _ _ c (h.1 z hz)
    | false =>
      refine List.pairwise_cons.mpr ⟨fun z hz => ?_, insB_sorted T x r h.2⟩
      rcases insB_mem hz with hz | hz
      · rw [hz]
        rcases T.total x y with q | q
        · rw [q] at c; cases c
        · exact q
      · exact h.1 z hz
theorem insB_filter (T : TotalLe le) (x c : α) : ∀ (l : List α), (insB le x l).filter (sameRank le c) = (x :: l).filter (sameRank le c)
  | [] => rfl
  | y :: r => by
    show (match le x y with
      | true => x :: y :: r
      | false => y :: insB le x r).filter _ = _
    cases q : le x y with
    | true => rfl
    | false =>
      show (y :: insB le x r).filter _ = _
      have ih := insB_filter T x c r
      by_cases hy : sameRank le c y = true
      · have hx : ¬ sameRank le c x = true := fun hx => by
          unfold sameRank at hx hy
          rw [Bool.and_eq_true] at hx hy
          have := T.trans _ _ _ hx.2 hy.1
          rw [this] at q; cases q
        rw [List.filter_cons_of_pos hy, ih, List.filter_cons_of_neg hx, List.filter_cons_of_neg hx, List.filter_cons_of_pos hy]
      · rw [List.filter_cons_of_neg hy, ih]
        by_cases hx : sameRank le c x = true
        · rw [List.filter_cons_of_pos hx, List.filter_cons_of_pos hx, List.filter_cons_of_neg hy]
        · rw [List.filter_cons_of_neg hx, List.filter_cons_of_neg hx, List.filter_cons_of_neg hy]
theorem sortB_sorted (T : TotalLe le) : ∀ (l : List α), (sortB le l).Pairwise (fun a b => le a b = true)
  | [] => List.Pairwise.nil
  | x :: r => insB_sorted T x _ (sortB_sorted T r)
theorem sortB_filter (T : TotalLe le) (c : α) : ∀ (l : List α), (sortB le l).filter (sameRank le c) = l.filter (sameRank le c)
  | [] => rfl
  | x :: r => by
    show (insB le x (sortB le r)).filter _ = _
    rw [insB_filter T, List.filter_cons, List.filter_cons, sortB_filter T c r]
theorem sortB_merge (T : TotalLe le) (l : List α) : sortB le l = l.mergeSort le := sort_unique T (sortB_sorted T l) fun c => sortB_filter T c l
end
/-! ### the order of what may be sorted -/
abbrev leD : PV → PV → Bool := dataLe false toD
theorem leD_total : TotalLe leD := sortLe_total _ _ _
theorem leD_eq (x y : PV) : leD x y = !dataLt (toD y) (toD x) := rfl
theorem eqv_int (i j : Int) : PyData.eqv (.int i) (.int j) = decide (i = j) := by
  unfold PyData.eqv
  by_cases h : i = j
  · simp [h]
  · simp [h]
mutual
theorem cmp3_data : ∀ (x y : PV) (d : Nat), sty x d = true → sty y d = true → alike (toD x) (toD y) = true ∧ ∃ o, cmp3 x y = some o ∧ (o = .lt ↔ dataLt (toD x) (toD y) = true) ∧ (o = .eq ↔ PyData.eqv (toD x) (toD y) = true)
  | .int i, y, d, hx, hy => by
    have hd : d = 0 := Nat.eq_of_beq_eq_true hx
    subst hd
    cases y with
    | int j =>
      refine ⟨by show alike (.int i) (.int j) = true; simp [alike], cmpI i j, rfl, ?_, ?_⟩
      · show cmpI i j = .lt ↔ dataLt (.int i) (.int j) = true
        rw [dataLt_int]
        unfold cmpI
        by_cases h : i < j
        · simp [h]
        · by_cases e : i = j
          · simp [e]
          · simp [h, e]
      · show cmpI i j = .eq ↔ PyData.eqv (.int i) (.int j) = true
        rw [eqv_int]
        unfold cmpI
        by_cases h : i < j
        · have e : i ≠ j := by omega
          simp [h, e]
        · by_cases e : i = j
          · simp [e]
          · simp [h, e]
    | tup ys => cases hy
    | _ => cases hy
  | .tup xs, y, d, hx, hy => by
    cases d with
    | zero => cases hx
    | succ d =>
      cases y with
      | tup ys =>
        obtain ⟨h1, o, h2, h3, h4⟩ := cmp3s_data xs ys d hx hy
        refine ⟨by show alike (.tuple (toDs xs)) (.tuple (toDs ys)) = true; simpa [alike] using h1, o, h2, ?_, ?_⟩
        · show o = .lt ↔ dataLt (.tuple (toDs xs)) (.tuple (toDs ys)) = true
          rw [dataLt_tuple]; exact h3
        · show o = .eq ↔ PyData.eqv (.tuple (toDs xs)) (.tuple (toDs ys)) = true
          rw [h4]; simp [PyData.eqv]
      | int j =>
        have hy : Nat.beq (d + 1) 0 = true := hy
        cases hy
      | _ => cases hy
  | .non, _, _, hx, _ => by cases hx
  | .bl _, _, _, hx, _ => by cases hx
  | .str _, _, _, hx, _ => by cases hx
  | .lst _, _, _, hx, _ => by cases hx
  | .scr _, _, _, hx, _ => by cases hx
  | .obj _, _, _, hx, _ => by cases hx
theorem cmp3s_data : ∀ (xs ys : List PV) (d : Nat), stys xs d = true → stys ys d = true → alikeAll (toDs xs) (toDs ys) = true ∧ ∃ o, cmp3s xs ys = some o ∧ (o = .lt ↔ PyProof.Rows.lexLt itemOrd (keyToksAll (toDs xs)) (keyToksAll (toDs ys)) = true) ∧ (o = .eq ↔ PyData.eqvAll (toDs xs) (toDs ys) = true)
  | [], [], _, _, _ => by
    refine ⟨by show alikeAll [] [] = true; simp [alikeAll], .eq, rfl, ?_, ?_⟩
    · have e : PyProof.Rows.lexLt itemOrd (keyToksAll []) (keyToksAll []) = false := lex_irrefl _
      show Ordering.eq = .lt ↔ PyProof.Rows.lexLt itemOrd (keyToksAll []) (keyToksAll []) = true
      rw [e]; simp
    · show Ordering.eq = .eq ↔ PyData.eqvAll [] [] = true
      simp [PyData.eqvAll]
  | [], y :: ys, _, _, _ => by
    refine ⟨by show alikeAll [] (toD y :: toDs ys) = true; simp [alikeAll], .lt, rfl, ?_, ?_⟩
    · have e : PyProof.Rows.lexLt itemOrd (keyToksAll []) (keyToksAll (toD y :: toDs ys)) = true := by
        rw [toks_all_cons]
        show PyProof.Rows.lexLt itemOrd [Sum.inl 0] (Sum.inl 1 :: _) = true
        rw [lex_atom (by simp)]
        decide
      show Ordering.lt = .lt ↔ PyProof.Rows.lexLt itemOrd (keyToksAll []) (keyToksAll (toD y :: toDs ys)) = true
      rw [e]; simp
    · show Ordering.lt = .eq ↔ PyData.eqvAll [] (toD y :: toDs ys) = true
      simp [PyData.eqvAll]
  | x :: xs, [], _, _, _ => by
    refine ⟨by show alikeAll (toD x :: toDs xs) [] = true; simp [alikeAll], .gt, rfl, ?_, ?_⟩
    · have e : PyProof.Rows.lexLt itemOrd (keyToksAll (toD x :: toDs xs)) (keyToksAll []) = false := by
        rw [toks_all_cons]
        show PyProof.Rows.lexLt itemOrd (Sum.inl 1 :: _) [Sum.inl 0] = false
        rw [lex_atom (by simp)]
        decide
      show Ordering.gt = .lt ↔ PyProof.Rows.lexLt itemOrd (keyToksAll (toD x :: toDs xs)) (keyToksAll []) = true
      rw [e]; simp
    · show Ordering.gt = .eq ↔ PyData.eqvAll (toD x :: toDs xs) [] = true
      simp [PyData.eqvAll]
  | x :: xs, y :: ys, d, hx, hy => by
    have hx : (sty x d && stys xs d) = true := hx
    have hy : (sty y d && stys ys d) = true := hy
    rw [Bool.and_eq_true] at hx hy
    obtain ⟨a1, o, e1, l1, q1⟩ := cmp3_data x y d hx.1 hy.1
    obtain ⟨a2, o2, e2, l2, q2⟩ := cmp3s_data xs ys d hx.2 hy.2
    refine ⟨by show alikeAll (toD x :: toDs xs) (toD y :: toDs ys) = true; rw [alikeAll, a1, a2]; rfl, ?_⟩
    show ∃ p, (match cmp3 x y with
      | some .eq => cmp3s xs ys
      | o => o) = some p ∧ (p = .lt ↔ PyProof.Rows.lexLt itemOrd (keyToksAll (toD x :: toDs xs)) (keyToksAll (toD y :: toDs ys)) = true) ∧ (p = .eq ↔ PyData.eqvAll (toD x :: toDs xs) (toD y :: toDs ys) = true)
    rw [dataLt_cons a1, eqv_all_cons, e1]
    cases o with
    | eq =>
      have z := q1.mp rfl
      rw [z]
      exact ⟨o2, e2, by simpa using l2, by simpa using q2⟩
    | lt =>
      have z : ¬ PyData.eqv (toD x) (toD y) = true := fun z => by have := q1.mpr z; cases this
      have z' : PyData.eqv (toD x) (toD y) = false := by simpa using z
      rw [z']
      exact ⟨.lt, rfl, by simpa using l1, by simp⟩
    | gt =>
      have z : ¬ PyData.eqv (toD x) (toD y) = true := fun z => by have := q1.mpr z; cases this
      have z' : PyData.eqv (toD x) (toD y) = false := by simpa using z
      rw [z']
      exact ⟨.gt, rfl, by simpa using l1, by simp⟩
end
theorem ltP_data {x y : PV} {d : Nat} (hx : sty x d = true) (hy : sty y d = true) : ltP x y = some (dataLt (toD x) (toD y)) := by
  obtain ⟨_, o, e, l, _⟩ := cmp3_data x y d hx hy
  unfold ltP
  rw [e]
  cases h : dataLt (toD x) (toD y) with
  | true => rw [l.mpr h]
  | false =>
    cases o with
    | lt => have := l.mp rfl; rw [this] at h; cases h
    | _ => rfl
theorem stys_mem {d : Nat} : ∀ {xs : List PV}, stys xs d = true → ∀ x ∈ xs, sty x d = true
  | [], _, _, h => by cases h
  | y :: r, h, x, hx => by
    have h : (sty y d && stys r d) = true := h
    rw [Bool.and_eq_true] at h
    rcases List.mem_cons.mp hx with e | e
    · rw [e]; exact h.1
    · exact stys_mem h.2 x e
theorem insL_eq {x : PV} {d : Nat} (hx : sty x d = true) : ∀ (l : List PV), (∀ y ∈ l, sty y d = true) → insL x l = some (insB leD x l)
  | [], _ => rfl
  | y :: r, h => by
    show (match ltP y x with
      | some true => (insL x r).map (y :: ·)
      | some false => some (x :: y :: r)
      | none => none) = some (match leD x y with
      | true => x :: y :: r
      | false => y :: insB leD x r)
    rw [ltP_data (h y List.mem_cons_self) hx, leD_eq]
    cases dataLt (toD y) (toD x) with
    | true =>
      show (insL x r).map (y :: ·) = some (y :: insB leD x r)
      rw [insL_eq hx r fun z hz => h z (List.mem_cons_of_mem _ hz)]
      rfl
    | false => rfl
theorem sortP_eq {d : Nat} : ∀ (l : List PV), (∀ y ∈ l, sty y d = true) → sortP l = some (sortB leD l) ∧ ∀ z ∈ sortB leD l, sty z d = true
  | [], _ => ⟨rfl, fun z hz => by cases hz⟩
  | x :: r, h => by
    obtain ⟨e, m⟩ := sortP_eq r fun z hz => h z (List.mem_cons_of_mem _ hz)
    have hx := h x List.mem_cons_self
    refine ⟨?_, fun z hz => ?_⟩
    · show (match sortP r with
        | some ys => insL x ys
        | none => none) = some (insB leD x (sortB leD r))
      rw [e]
      exact insL_eq hx _ m
    · rcases insB_mem (show z ∈ insB leD x (sortB leD r) from hz) with e | e
      · rw [e]; exact hx
      · exact m z e
mutual
theorem sty_ok : ∀ (p : PV) (d : Nat), sty p d = true → okP p d = true
  | .int _, _, _ => rfl
  | .tup xs, d, h => by
    cases d with
    | zero => cases h
    | succ d =>
      exact stys_ok xs d h
  | .non, _, h => by cases h
  | .bl _, _, h => by cases h
  | .str _, _, h => by cases h
  | .lst _, _, h => by cases h
  | .scr _, _, h => by cases h
  | .obj _, _, h => by cases h
theorem stys_ok : ∀ (ps : List PV) (d : Nat), stys ps d = true → okPs ps d = true
  | [], _, _ => rfl
  | x :: xs, d, h => by
    have h : (sty x d && stys xs d) = true := h
    rw [Bool.and_eq_true] at h
    show (okP x d && okPs xs d) = true
    rw [sty_ok x d h.1, stys_ok xs d h.2]
    rfl
end
/-- how the sort looks at the keys -/
def Looked (xs : List PV) (d : Nat) : Prop := (d ≠ 0 → ∀ x ∈ xs, neT x = true) ∨ (d = 1 ∧ mixT xs = true)
theorem styF_some {xs : List PV} (h : styF xs = true) : ∃ d, d ≤ 2 ∧ stys xs d = true ∧ Looked xs d := by
  unfold styF at h
  rw [Bool.or_eq_true, Bool.or_eq_true, Bool.or_eq_true, Bool.and_eq_true, Bool.and_eq_true, Bool.and_eq_true] at h
  rcases h with ((h | h) | h) | h
  · exact ⟨0, by omega, h, .inl fun z => absurd rfl z⟩
  · exact ⟨1, by omega, h.1, .inl fun _ => List.all_eq_true.mp h.2⟩
  · exact ⟨2, by omega, h.1, .inl fun _ => List.all_eq_true.mp h.2⟩
  · exact ⟨1, by omega, h.1, .inr ⟨rfl, h.2⟩⟩
theorem sty_alike {xs : List PV} {d : Nat} (h : ∀ x ∈ xs, sty x d = true) : AllAlike (xs.map toD) := by
  intro u hu v hv
  obtain ⟨x, hx, rfl⟩ := List.mem_map.mp hu
  obtain ⟨y, hy, rfl⟩ := List.mem_map.mp hv
  exact (cmp3_data x y d (h x hx) (h y hy)).1
theorem sty_sortable {xs : List PV} {d : Nat} (h : ∀ x ∈ xs, sty x d = true) (ne : d ≠ 0 → ∀ x ∈ xs, neT x = true) : Sortable (xs.map toD) := by
  cases d with
  | zero =>
    refine .inr fun u hu => ?_
    obtain ⟨x, hx, rfl⟩ := List.mem_map.mp hu
    have := h x hx
    cases x with
    | int i => exact ⟨fun e => (by cases e), fun _ e => (by cases e)⟩
    | _ => cases this
  | succ d =>
    refine .inl fun u hu => ?_
    obtain ⟨x, hx, rfl⟩ := List.mem_map.mp hu
    have := h x hx
    cases x with
    | tup ys =>
      cases ys with
      | nil => cases ne (by omega) _ hx
      | cons y r => exact ⟨toD y, toDs r, rfl⟩
    | int i =>
      have this : Nat.beq (d + 1) 0 = true := this
      cases this
    | _ => cases this
section
variable {X : Cx} {L : Pl} {E : XK} {μ : Mu} {H : Hp} {pins : List (Addr × Obj)} {σ : L2.St} {s : Shared}
/-- the values stand for these -/
abbrev StF (L : Pl) (μ : Mu) (H : Hp) (v : Value) (p : PV) : Prop := ∃ x, RelV x v ∧ RelP L μ H p x
theorem each_of : ∀ {xs : List PV} {ys : List V} {its : List Value}, RelL L μ H xs ys → Vals ys its → EachIs (StF L μ H) its xs
  | [], _, _, h, r => by
    have h : _ = [] := h
    rw [h] at r
    cases r
    exact .nil
  | p :: xs, _, _, h, r => by
    obtain ⟨y, q, e, h1, h2⟩ := h
    rw [e] at r
    cases r with
    | cons a b => exact .cons ⟨y, a, h1⟩ (each_of h2 b)
theorem each_back : ∀ {xs : List PV} {its : List Value}, EachIs (StF L μ H) its xs → ∃ ys, Vals ys its ∧ RelL L μ H xs ys
  | [], _, .nil => ⟨[], .nil, rfl⟩
  | p :: xs, _, .cons ⟨y, a, h1⟩ t => by
    obtain ⟨ys, h2, h3⟩ := each_back t
    exact ⟨y :: ys, .cons a h2, y, ys, rfl, h1, h3⟩
theorem each_reads (I : Inv X pins σ H s) (hK : X.K = L.K) {d : Nat} : ∀ {xs : List PV} {its : List Value}, (∀ x ∈ xs, sty x d = true) → EachIs (StF L μ H) its xs → EachIs (fun v p => ∃ as, Reads s.heap v (toD p) as) its xs
  | [], _, _, .nil => .nil
  | p :: xs, _, h, .cons ⟨y, a, h1⟩ t => .cons (by
      have hd := okP_dp p d y (sty_ok p d (h p List.mem_cons_self)) h1
      rw [← hK] at hd
      exact Dp.reads I _ y _ hd a) (each_reads I hK (fun z hz => h z (List.mem_cons_of_mem _ hz)) t)
mutual
theorem sty_noas {h : Heap} : ∀ (p : PV) (d : Nat) (v : Value) (as : List Addr), sty p d = true → Reads h v (toD p) as → as = []
  | .int i, d, v, as, _, r => by
    have r : Reads h v (.int i) as := r
    cases r
    rfl
  | .tup xs, d, v, as, q, r => by
    have r : Reads h v (.tuple (toDs xs)) as := r
    cases d with
    | zero => cases q
    | succ d =>
      cases r with
      | tuple h1 h2 h3 h4 => exact stys_noas xs d _ _ q h4
  | .non, _, _, _, h, _ => by cases h
  | .bl _, _, _, _, h, _ => by cases h
  | .str _, _, _, _, h, _ => by cases h
  | .lst _, _, _, _, h, _ => by cases h
  | .scr _, _, _, _, h, _ => by cases h
  | .obj _, _, _, _, h, _ => by cases h
theorem stys_noas {h : Heap} : ∀ (ps : List PV) (d : Nat) (vs : List Value) (as : List Addr), stys ps d = true → ReadsAll h vs (toDs ps) as → as = []
  | [], _, _, _, _, r => by
    have r : ReadsAll h _ [] _ := r
    cases r
    rfl
  | p :: ps, d, _, _, q, r => by
    have r : ReadsAll h _ (toD p :: toDs ps) _ := r
    have q : (sty p d && stys ps d) = true := q
    rw [Bool.and_eq_true] at q
    cases r with
    | cons h1 h2 => rw [sty_noas p d _ _ q.1 h1, stys_noas ps d _ _ q.2 h2]; rfl
end
/-- the first items of tuples: none where there is none -/
theorem firsts_of {M : Model} {A : Around} {E' : Value → Shared → Prop} {s : Shared} : ∀ (vs : List Value) (ds : List PyData) {Q : List (Option Value) → Shared → Prop}, EachIs (fun v d => ∃ as, Reads s.heap v d as) vs ds → (∀ d ∈ ds, ∃ xs, d = .tuple xs) →
    (∀ fs : List (Option Value), fs.map (·.isSome) = ds.map (fun d => match d with | .tuple (_ :: _) => true | _ => false) → Q fs s) → wpAny M A (vs.mapM firstOfTuple') Q E' s
  | [], _, Q, .nil, _, q => by
    rw [List.mapM_nil]
    exact wpAny_pure (q [] rfl)
  | v :: vs, d :: ds, Q, .cons ⟨as, r⟩ t, ht, q => by
    obtain ⟨xs, rfl⟩ := ht d (List.mem_cons_self ..)
    cases r with
    | @tuple a o its n _ _ ho hc hd hr =>
      rw [List.mapM_cons]
      apply wpAny_bind
      rw [kas_first_eq]
      refine wpAny_bind (Looks.here (show Looks M s.heap (typeOf (.ref a)) o.cls from (Looks.ld ho).andThen .now) ?_)
      rw [hc, if_neg (by decide)]
      refine wpAny_bind (listItems_at ho hd (wpAny_pure (wpAny_bind (firsts_of vs ds (Q := fun bs s' => wpAny M A (pure (its[0]? :: bs)) Q E' s') t (fun z hz => ht z (List.mem_cons_of_mem _ hz)) fun fs ef => wpAny_pure (q _ ?_)))))
      rw [List.map_cons, List.map_cons, ef]
      congr 1
      cases xs with
      | nil =>
        cases z : its.toList with
        | nil => rw [← Array.getElem?_toList, z]; rfl
        | cons _ _ => rw [z] at hr; cases hr
      | cons x r =>
        cases z : its.toList with
        | nil => rw [z] at hr; cases hr
        | cons y _ => rw [← Array.getElem?_toList, z]; rfl
/-- tuples, the first one not empty, but some other one -/
theorem sorts_mix {prog : Program} {w : World} {A : Around} {s : Shared} {vs : List Value} {ds : List PyData} (e : EachIs (fun v d => ∃ as, Reads s.heap v d as) vs ds) (hal : AllAlike ds) (hT : ∀ d ∈ ds, ∃ xs, d = .tuple xs) (h0 : ∃ x r ds', ds = .tuple (x :: r) :: ds') (hE : PyData.tuple [] ∈ ds)
    (hu : ∀ d, d ∈ ds → A.units + d.depth < cLine) : SortsAt prog w A s (dataKind s.heap ds) vs := by
  refine ⟨fun v hv => ?_, general', ?_, fun h2 E Q hq => ?_⟩
  · obtain ⟨d, hd, as, r⟩ := e.left v hv
    exact ⟨_, dataKind_some hal hd r⟩
  · intro E x y a b Q ha hb hq
    obtain ⟨d, as, hd, ra, rfl⟩ := dataKind_inv ha
    obtain ⟨d', as', hd', rb, rfl⟩ := dataKind_inv hb
    show wpAny _ _ (oneLt' false x y) _ _ _
    refine oneLt_alike (fun z => by cases z) ra rb (hal d hd d' hd') (fun z => ?_) (Nat.lt_of_le_of_lt (Nat.add_le_add_left (Nat.min_le_left _ _) _) (hu d hd)) hq
    obtain ⟨xs, q⟩ := hT d hd
    rw [q] at z
    cases z
  · rw [keyKind'_eq, List.mapM_toArray, map_eq_pure_bind]
    refine wpAny_bind (wpAny_bind (firsts_of vs ds e hT fun fs ef => wpAny_pure ?_))
    obtain ⟨x, r, ds', rfl⟩ := h0
    have n1 : ¬ (fs.toArray.all fun z => z.isSome) = true := fun z => by
      have z : ∀ o ∈ fs, o.isSome = true := by simpa using z
      have m : false ∈ fs.map (·.isSome) := by
        rw [ef]
        exact List.mem_map.mpr ⟨_, hE, rfl⟩
      obtain ⟨o, ho, eo⟩ := List.mem_map.mp m
      rw [z o ho] at eo
      cases eo
    rw [if_neg n1]
    cases fs with
    | nil => cases ef
    | cons o fr =>
      have eo : o.isSome = true := (List.cons.inj ef).1
      rw [if_pos (by simpa using eo)]
      exact wpAny_pure hq
/-- what is sorted, from the items -/
theorem sorted_items (I : Inv X pins σ H s) (hK : X.K = L.K) (hu : X.A.units + 65 < cLine) {xs zs : List PV} {its : List Value} {d : Nat} (hd : d ≤ 2) (hx : ∀ x ∈ xs, sty x d = true) (lo : Looked xs d) (e : EachIs (StF L μ H) its xs) (ez : sortP xs = some zs) (hL : xs.length ≤ sizeLine)
    {h₁ : Heap} {n : Nat} {a : Addr} {tk : Nat} (k1 : ∀ b o, s.heap.get? b = some o → h₁.get? b = some o) (ha : h₁.get? a = some (seqObj "list" its.toArray n)) (hn : s.heap.get? a = none) {A : Around} (hA : A.units ≤ X.A.units + 2) {Q : Value → Shared → Prop} {E' : Value → Shared → Prop}
    (q : ∀ h' ys, (∀ b o, s.heap.get? b = some o → h'.get? b = some o) → (∃ its' n', Vals ys its' ∧ h'.get? a = some (seqObj "list" its'.toArray n')) → RelL L μ H zs ys → ys.length ≤ sizeLine → Q .none { s with heap := h', toks := tk }) :
    wpAny (model X.prog X.w) A (call (.builtin "list.sort") [.ref a]) Q E' { s with heap := h₁, toks := tk } := by
  have er := each_reads I hK hx e
  have hal := sty_alike hx
  have er' : EachIs (fun v b => ∃ as, Reads h₁ v (toD b) as ∧ a ∉ as) its xs := (each_mem er).mono fun v p ⟨⟨as, r⟩, hp⟩ => ⟨as, PyProof.Rows.Reads.keeps k1 r, fun ham => by
    rw [sty_noas p d _ _ (hx p hp) r] at ham
    cases ham⟩
  have un : ∀ p ∈ xs, A.units + 1 + (toD p).depth < cLine := fun p hp => by
    have h1 := (okP_lay p d (sty_ok p d (hx p hp))).2
    have : cLine = cLine := rfl
    omega
  have es : EachIs (fun v b => ∃ as, Reads (sortingHeap h₁ a its) v (toD b) as) its xs := each_keepBut (h' := sortingHeap h₁ a its) (fun _ _ hb q => sortingHeap_old hb q) (fun o q => by rw [ha] at q; rw [← Option.some.inj q]) hal er'
  have em2 := each_map (R := fun v d => ∃ as, Reads (sortingHeap h₁ a its) v d as) toD es
  have sa : SortsAt X.prog X.w A.in1 { s with heap := sortingHeap h₁ a its, toks := tk } (dataKind (sortingHeap h₁ a its) (xs.map toD)) its := by
    rcases lo with ne | ⟨rfl, mx⟩
    · exact SortsAt.data (s := { s with heap := sortingHeap h₁ a its, toks := tk }) em2 hal (sty_sortable hx ne) (bound_map (A := A.in1) un)
    · have tp : ∀ x ∈ xs, ∃ zs, x = .tup zs := fun x hm => by
        have := hx x hm
        cases x with
        | tup zs => exact ⟨zs, rfl⟩
        | int i =>
          have this : Nat.beq 1 0 = true := this
          cases this
        | _ => cases this
      refine sorts_mix (s := { s with heap := sortingHeap h₁ a its, toks := tk }) em2 hal (fun z hz => ?_) ?_ ?_ (bound_map (A := A.in1) un)
      · obtain ⟨x, hm, rfl⟩ := List.mem_map.mp hz
        obtain ⟨zs, rfl⟩ := tp x hm
        exact ⟨toDs zs, rfl⟩
      · cases xs with
        | nil => cases mx
        | cons x r =>
          obtain ⟨zs, rfl⟩ := tp x (List.mem_cons_self ..)
          have mx : (neT (.tup zs) && r.any emT) = true := mx
          cases zs with
          | nil => cases mx
          | cons y zr => exact ⟨toD y, toDs zr, r.map toD, rfl⟩
      · cases xs with
        | nil => cases mx
        | cons x r =>
          have mx : (neT x && r.any emT) = true := mx
          rw [Bool.and_eq_true] at mx
          obtain ⟨z, hz, ez⟩ := List.any_eq_true.mp mx.2
          refine List.mem_map.mpr ⟨z, List.mem_cons_of_mem _ hz, ?_⟩
          obtain ⟨zs, rfl⟩ := tp z (List.mem_cons_of_mem _ hz)
          cases zs with
          | nil => rfl
          | cons _ _ => cases ez
  refine wpAny_call_entry PyProof.Rows.slot_list_sort ⟨_, ha, rfl⟩ PyProof.Rows.entry_list_sort (list_sort_vals (s := { s with heap := h₁, toks := tk }) (κ := dataKind (sortingHeap h₁ a its) (xs.map toD)) ha sa (by rw [e.length]; exact hL) ⟨.none, rfl, ?_⟩) (PyProof.Rows.args_list_sort _)
  · obtain ⟨out, hlen, eo, eout⟩ : ∃ out, out.length = xs.length ∧ EachIs (StF L μ H) out (xs.mergeSort (dataLe false toD)) ∧ out = sortVals (dataKind (sortingHeap h₁ a its) (xs.map toD)) false its its := ⟨_, by rw [sortVals_length false rfl]; exact e.length, sortVals_data false e es hal, rfl⟩
    rw [← eout]
    have em : xs.mergeSort (dataLe false toD) = zs := by
      have h1 := (sortP_eq xs hx).1
      rw [ez] at h1
      rw [← sortB_merge leD_total]
      exact (Option.some.inj h1).symm
    rw [em] at eo
    obtain ⟨ys, hv, hl⟩ := each_back eo
    obtain ⟨ep, he'⟩ := PyProof.Rows.sortedHeap_at (vs := its) (out := out.toArray) ha
    refine q _ ys (fun b o hb => ?_) ⟨out, ep, hv, he'⟩ hl (by rw [hv.length, hlen]; exact hL)
    have hne : b ≠ a := fun e => by rw [e, hn] at hb; cases hb
    show (sortedHeap h₁ a its _).get? b = _
    rw [PyProof.Rows.sortedHeap_old hne (Heap.lt_size (k1 b o hb))]
    exact k1 b o hb
theorem RelD.items {kvs : List (PV × PV)} : ∀ {xs : List (NestedKey × Addr × Value)}, RelD L μ H kvs xs → RelL L μ H (keysOf kvs) (xs.map fun x => V.ref x.2.1) := by
  induction kvs with
  | nil => intro xs h; have h : xs = [] := h; rw [h]; rfl
  | cons kv kvs ih =>
    intro xs h
    obtain ⟨k, p⟩ := kv
    obtain ⟨b, v, u, r, e, hk, h1, h2, h3, h4⟩ := h
    rw [e]
    exact ⟨.ref b, _, rfl, h1, ih h4⟩
theorem refs_vals : ∀ (as : List Addr), Vals (as.map V.ref) (as.map Value.ref)
  | [] => .nil
  | a :: as => .cons rfl (refs_vals as)
/-- the keys of a dict, as an iterable -/
theorem dict_src (I : Inv X pins σ H s) {kvs : List (PV × PV)} {a : Addr} {xs : List (NestedKey × Addr × Value)} (h1 : H a = some (DctX L a xs)) (h3 : (a == sysModules) = false) (h4 : RelD L μ H kvs xs) :
    ∃ es ep, KdlSrc X.prog X.w "dict" a a es.size (fun i v => ∃ hi : i < es.size, v = es[i].key) (fun h => h.DictRaw a es ep) ∧ s.heap.DictRaw a es ep ∧ es.size = kvs.length ∧
      ∀ acc : Array Value, ItemsOf (fun i v => ∃ hi : i < es.size, v = es[i].key) acc es.size → Vals (xs.map fun x => V.ref x.2.1) acc.toList := by
  obtain ⟨⟨o, es, ep, e1, e2, e3, e4⟩, _⟩ := I.hok a _ h1
  have hlen : es.size = xs.length := by rw [← Array.length_toList, e4, List.length_map]
  refine ⟨es, ep, KdlSrc.rawDict h3, ⟨o, e1, e2, e3⟩, ?_, fun acc hacc => ?_⟩
  · rw [hlen]
    have := h4.items.length
    unfold keysOf at this
    rw [List.length_map, List.length_map] at this
    exact this.symm
  · have e : acc.toList = (xs.map (·.2.1)).map Value.ref := by
      apply List.ext_getElem?
      intro i
      by_cases hi : i < es.size
      · have hia : i < acc.size := by rw [hacc.1]; exact hi
        have hv := hacc.2 i acc[i] (by simp [hia])
        obtain ⟨_, hv⟩ := hv
        have hx : i < xs.length := by rw [← hlen]; exact hi
        have hk : es.toList[i]? = some (entryOfKey (nestedKind L.P L.w) xs[i]) := by rw [e4]; simp [hx]
        have hk' : es[i] = entryOfKey (nestedKind L.P L.w) xs[i] := by
          have : es.toList[i]? = some es[i] := by simp [hi]
          rw [this] at hk
          exact Option.some.inj hk
        have : acc.toList[i]? = some acc[i] := by simp [hia]
        rw [this, hv, hk']
        simp [hx, entryOfKey]
      · have h1 : acc.toList[i]? = none := by
          apply List.getElem?_eq_none
          rw [Array.length_toList, hacc.1]
          exact Nat.not_lt.mp hi
        have h2 : ((xs.map (·.2.1)).map Value.ref)[i]? = none := by
          apply List.getElem?_eq_none
          rw [List.length_map, List.length_map, ← hlen]
          exact Nat.not_lt.mp hi
        rw [h1, h2]
    rw [e]
    have := refs_vals (xs.map (·.2.1))
    rw [List.map_map] at this
    exact this
/-- the items of what list() and sorted() take -/
theorem items_rel {B S : Sto} {p : PV} {x : V} {xs : List PV} (rs : RelS L μ H (B ++ S)) (hp : RelP L μ H p x) (e : itemsF B S p = some xs) :
    (∃ a ys, x = .ref a ∧ SqL L.K H a ys ∧ RelL L μ H xs ys) ∨ ∃ a kvs zs, x = .ref a ∧ H a = some (DctX L a zs) ∧ (a == sysModules) = false ∧ RelD L μ H kvs zs ∧ xs = keysOf kvs := by
  cases p with
  | lst zs =>
    have e : some zs = some xs := e
    cases e
    obtain ⟨a, ys, e1, h1, _, h2⟩ := hp
    exact .inl ⟨a, ys, e1, SqL.of h1, h2⟩
  | scr zs =>
    have e : some zs = some xs := e
    cases e
    obtain ⟨a, ys, e1, h1, h2⟩ := hp
    exact .inl ⟨a, ys, e1, h1.sq, h2⟩
  | obj n =>
    have e : (match getS B S n with
      | some (.lst xs) => some xs
      | some (.dct kvs) => some (keysOf kvs)
      | _ => none) = some xs := e
    cases g : getS B S n with
    | none => rw [g] at e; cases e
    | some o =>
      rw [g] at e
      cases o with
      | lst zs =>
        have e : some zs = some xs := e
        cases e
        obtain ⟨a, e1, _, ys, h1, h2⟩ := rs.get g hp
        exact .inl ⟨a, ys, e1, SqL.of h1, h2⟩
      | dct kvs =>
        have e : some (keysOf kvs) = some xs := e
        cases e
        obtain ⟨a, e1, _, zs, h1, h2, h3, h4⟩ := rs.get g hp
        exact .inr ⟨a, kvs, zs, e1, h1, h3, h4, rfl⟩
      | _ => cases e
  | _ => cases e
theorem get?_none_of_size {h : Heap} {a : Addr} (e : h.objs.size ≤ a) : h.get? a = none := by
  cases q : h.get? a with
  | none => rfl
  | some o => exact absurd (Heap.lt_size q) (Nat.not_lt.mpr e)
theorem mk_len {B S : Sto} {m : Bool} {xs : List PV} {R : PV → Sto → Mu → Hp → Prop} (h : OutOk L E μ H B (mkLst m B S xs) R) : xs.length ≤ sizeLine := by
  have h : OutOk L E μ H B (match Nat.ble xs.length szL with
    | true => (match m with
      | true => newS B S (.lst xs)
      | false => .ok (.lst xs) S)
    | false => .fail) R := h
  cases c : Nat.ble xs.length szL with
  | false => rw [c] at h; exact False.elim h
  | true => rw [← szL_eq]; exact Nat.le_of_ble_eq_true c
theorem c_sorted (m : Bool) (hK : X.K = L.K) (hc : X.calm = true) (hu : X.A.units + 65 < cLine) : CallR X (.builtin "sorted") (rL L E fun B S vs => biF B S (.sorted m) vs) :=
  c_one (fun _ _ _ => rfl) (fun _ _ => rfl) (fun _ _ _ _ _ => rfl) fun pins s σ H x u Q I ru μ B S p rs hp o => by
    have o : OutOk L E μ H B (match sortF B S p with
      | some xs => mkLst m B S xs
      | none => .fail) (fun r _ μ' H' => ∀ v, RelP L μ' H' r v → Q v H') := o
    cases ez : sortF B S p with
    | none => rw [ez] at o; exact False.elim o
    | some zs =>
      rw [ez] at o
      have o : OutOk L E μ H B (mkLst m B S zs) (fun r _ μ' H' => ∀ v, RelP L μ' H' r v → Q v H') := o
      have ez : (match itemsF B S p with
        | some xs => match styF xs with
          | true => sortP xs
          | false => none
        | none => none) = some zs := ez
      cases ei : itemsF B S p with
      | none => rw [ei] at ez; cases ez
      | some xs =>
        rw [ei] at ez
        have ez : (match styF xs with
          | true => sortP xs
          | false => none) = some zs := ez
        cases es : styF xs with
        | false => rw [es] at ez; cases ez
        | true =>
          rw [es] at ez
          have ez : sortP xs = some zs := ez
          obtain ⟨d, hd, hx, lo⟩ := styF_some es
          have hx := stys_mem hx
          have fin : ∀ (h' : Heap) (tk : Nat) (a : Addr) (ys : List V), s.heap.get? a = none → H a = none → (∀ b o, s.heap.get? b = some o → h'.get? b = some o) → (∃ its' n', Vals ys its' ∧ h'.get? a = some (seqObj "list" its'.toArray n')) → RelL L μ H zs ys → ys.length ≤ sizeLine → EP X pins σ Q (.ref a) { s with heap := h', toks := tk } := fun h' tk a ys ha hn k ⟨its', n', hv, hg⟩ hl hz =>
            ⟨.ref a, upd H a (.lst ys), I.laidN (t' := tk) k ha hn ⟨hz, its', n', hv, hg⟩, rfl, (mk_lst o rs hl).2 a hn⟩
          rcases items_rel rs hp ei with ⟨a, ys, ex, hs, hl⟩ | ⟨a, kvs, zs', ex, h1, h3, h4, exs⟩
          · rw [ex] at ru
            have ru : u = Value.ref a := ru
            rw [ru]
            obtain ⟨its, rv, hli, hz⟩ := I.list (by rw [hK]; exact hs)
            have hL : xs.length ≤ sizeLine := by rw [hl.length]; exact hz
            have hL' : its.length ≤ sizeLine := by rw [← rv.length]; exact hz
            refine call_function_entry kind_sorted plain_sorted entry_sorted (args_sorted1 _) ?_
            unfold Builtin.«sorted»
            refine wpAny_bind (m := checkCount "sorted" 1 1 _) (wpAny_pure ?_)
            refine wpAny_bind (collect_list hli.isList ?_ hL')
            refine wpAny_bind (wpAny_newList ?_ hL')
            have hsz : ((s.heap.push (seqObj "list" #[] 0)).update s.heap.objs.size (Obj.mapSeq (· ++ its.toArray))).objs.size = s.heap.objs.size + 1 := by
              rw [Heap.size_update, size_push']
            show wpAny _ _ _ _ _ { s with heap := copyHeap s.heap its }
            rw [hsz]
            have key := sorted_items (A := X.A.in1) (tk := s.toks) (Q := fun _ s' => EP X pins σ Q (.ref (s.heap.objs.size + 1)) s') (E' := X.xe) I hK hu hd hx lo (each_of hl rv) ez hL (h₁ := copyHeap s.heap its) (fun b o hb => copyHeap_old hb) (copyHeap_at s.heap its) (get?_none_of_size (Nat.le_succ _)) (by show X.A.units + 1 ≤ _; omega) fun h' ys k hv hl' hz' => fin h' s.toks _ ys (get?_none_of_size (Nat.le_succ _)) (I.hok.fresh (Nat.le_succ _)) k hv hl' hz'
            refine wpAny_bind (wpAny_holding (wpAny_mono key (fun _ s' x => ?_) fun _ _ e => e))
            exact wpAny_pure ⟨_, rfl, x⟩
          · rw [ex] at ru
            have ru : u = Value.ref a := ru
            rw [ru]
            obtain ⟨es, ep, src, hraw, hsz, hit⟩ := dict_src I h1 h3 h4
            have hlk : xs.length = es.size := by rw [exs, hsz]; unfold keysOf; rw [List.length_map]
            have hL : xs.length ≤ sizeLine := by
              have h1 := (sortP_eq xs hx).1
              rw [ez, sortB_merge leD_total] at h1
              have h2 := mk_len o
              rw [Option.some.inj h1, List.length_mergeSort] at h2
              exact h2
            refine call_function_entry kind_sorted plain_sorted entry_sorted (args_sorted1 _) ?_
            unfold Builtin.«sorted»
            refine wpAny_bind (m := checkCount "sorted" 1 1 _) (wpAny_pure ?_)
            refine wpAny_bind (kdu_collect (A := X.A.in1) src (I.ok.hd hc) hraw (by rw [← hlk]; exact hL) fun h' tk acc hk hacc => ?_)
            have hal : acc.toList.length = xs.length := by rw [Array.length_toList, hacc.1, hlk]
            refine wpAny_bind (wpAny_newList ?_ (by rw [hal]; exact hL))
            have hge : s.heap.get? h'.objs.size = none := by
              cases q : s.heap.get? h'.objs.size with
              | none => rfl
              | some o => exact absurd (Heap.lt_size (hk _ _ q)) (Nat.lt_irrefl _)
            have hne : H h'.objs.size = none := (I.hok.kept hk).fresh (Nat.le_refl _)
            have key := sorted_items (A := X.A.in1) (tk := tk) (Q := fun _ s' => EP X pins σ Q (.ref h'.objs.size) s') (E' := X.xe) I hK hu hd hx lo (each_of (by rw [exs]; exact h4.items) (hit acc hacc)) ez hL (h₁ := h'.push (seqObj "list" acc.toList.toArray 0)) (a := h'.objs.size) (n := 0) (fun b o hb => Heap.get?_push_of_some _ (hk b o hb)) (Heap.get?_push_size _ rfl) hge (by show X.A.units + 1 ≤ _; omega) fun h' ys k hv hl' hz' => fin h' tk _ ys hge hne k hv hl' hz'
            refine wpAny_bind (wpAny_holding (wpAny_mono key (fun _ s' x => ?_) fun _ _ e => e))
            exact wpAny_pure ⟨_, rfl, x⟩
theorem c_list (m : Bool) (hK : X.K = L.K) (hc : X.calm = true) : CallR X (.type "list") (rL L E fun B S vs => biF B S (.list m) vs) :=
  c_one (fun _ _ _ => rfl) (fun _ _ => rfl) (fun _ _ _ _ _ => rfl) fun pins s σ H x u Q I ru μ B S p rs hp o => by
    have o : OutOk L E μ H B (match itemsF B S p with
      | some xs => mkLst m B S xs
      | none => .fail) (fun r _ μ' H' => ∀ v, RelP L μ' H' r v → Q v H') := o
    cases ei : itemsF B S p with
    | none => rw [ei] at o; exact False.elim o
    | some xs =>
      rw [ei] at o
      have o : OutOk L E μ H B (mkLst m B S xs) (fun r _ μ' H' => ∀ v, RelP L μ' H' r v → Q v H') := o
      rcases items_rel rs hp ei with ⟨a, ys, ex, hs, hl⟩ | ⟨a, kvs, zs', ex, h1, h3, h4, exs⟩
      · exact call_list_of pins s σ H [x] [u] Q I (.cons ru .nil) ⟨a, ys, by rw [ex], .inl (by rw [hK]; exact hs), fun p hp => (mk_lst o rs hl).2 p hp⟩
      · rw [ex] at ru
        have ru : u = Value.ref a := ru
        rw [ru]
        obtain ⟨es, ep, src, hraw, hsz, hit⟩ := dict_src I h1 h3 h4
        have hlk : xs.length = es.size := by rw [exs, hsz]; unfold keysOf; rw [List.length_map]
        have hl : RelL L μ H xs (zs'.map fun x => V.ref x.2.1) := by rw [exs]; exact h4.items
        obtain ⟨hz, q⟩ := mk_lst o rs hl
        refine kdl_call src (I.ok.hd hc) hraw (by rw [← hlk]; exact mk_len o) fun h' tk acc' c' hk hg hacc => ?_
        exact ⟨.ref _, upd H s.heap.objs.size (.lst _), I.laid (t' := tk) hk (Nat.le_refl _) ⟨hz, acc'.toList, c', hit acc' hacc, hg⟩, rfl, q _ (I.hok.fresh (Nat.le_refl _))⟩
end
end RV
end
section
/-! RVBind: how arguments go to parameters. -/
namespace RV
open PySem PySem.Spec PyProof.Rows L2
/-- plain parameters -/
structure Par (fd : FuncData) (ps : List Str) : Prop where
  po : fd.params.posonlyargs = []
  ko : fd.params.kwonlyargs = []
  va : fd.params.vararg = none
  kw : fd.params.kwarg = none
  df : fd.defaults = .none
  nm : fd.params.args.map (·.arg) = ps
theorem kw_loop {ps : List Str} {ex : List (Str × Value)} (body : Str × Value → List (Str × Value) × List (Str × Value) → Sem (ForInStep (List (Str × Value) × List (Str × Value))))
    (hb : ∀ x st, ps.contains x.1 = true → (st.1.lookup x.1).isSome = false → body x st = pure (ForInStep.yield (st.1 ++ [(x.1, x.2)], st.2))) :
    ∀ (kw slots : List (Str × Value)), (∀ x ∈ kw, ps.contains x.1 = true) → (kw.map (·.1)).Nodup → (∀ x ∈ kw, slots.lookup x.1 = none) → forIn kw (slots, ex) body = pure (slots ++ kw, ex)
  | [], slots, _, _, _ => by rw [List.forIn_nil, List.append_nil]
  | x :: kw, slots, h1, h2, h3 => by
    rw [List.forIn_cons, hb x _ (h1 x List.mem_cons_self) (by rw [h3 x List.mem_cons_self]; rfl), pure_bind]
    show forIn kw (slots ++ [(x.1, x.2)], ex) body = _
    rw [List.map_cons, List.nodup_cons] at h2
    rw [kw_loop body hb kw (slots ++ [(x.1, x.2)]) (fun y hy => h1 y (List.mem_cons_of_mem _ hy)) h2.2 (fun y hy => ?_), List.append_assoc]
    · rfl
    · rw [List.lookup_append, h3 y (List.mem_cons_of_mem _ hy)]
      have : (y.1 == x.1) = false := beq_eq_false_iff_ne.mpr fun e => h2.1 (by rw [← e]; exact List.mem_map.mpr ⟨y, hy, rfl⟩)
      simp [List.lookup, this]
theorem bind_eq {fd : FuncData} {ps : List Str} (p : Par fd ps) {us : List Value} {kw : List (Str × Value)} (hu : us.length ≤ ps.length) (h1 : ∀ x ∈ kw, ps.contains x.1 = true) (h2 : (kw.map (·.1)).Nodup)
    (h3 : ∀ x ∈ kw, (ps.zip us).lookup x.1 = none) (h4 : ∀ n ∈ ps, ((ps.zip us ++ kw).lookup n).isSome = true) :
    bindArgs fd ⟨us, kw⟩ = pure (ps.filterMap fun n => ((ps.zip us ++ kw).lookup n).map (n, ·)) := by
  unfold bindArgs
  simp only [p.po, p.ko, p.va, p.kw, p.df, p.nm, List.map_nil, List.nil_append, List.append_nil, Option.isSome_none, Bool.false_eq_true, if_false]
  rw [kw_loop (ps := ps) _ ?hb kw (ps.zip us) h1 h2 h3]
  case hb =>
    intro x st e1 e2
    rw [if_pos (by rw [e1]; rfl), if_neg (by rw [e2]; exact Bool.false_ne_true)]
  have hm : (ps.filter fun n => ((ps.zip us ++ kw).lookup n).isNone) = [] := by
    apply List.filter_eq_nil_iff.mpr
    intro n hn e
    have := h4 n hn
    rw [Option.isNone_iff_eq_none] at e
    rw [e] at this
    cases this
  have hg : (decide (us.length > ps.length) && (none : Option Arg).isNone) = false := by
    have : ¬ us.length > ps.length := by omega
    simp [this]
  have hsi : seqItems? Value.none = pure none := rfl
  simp only [pure_bind, hsi, hg, Bool.false_eq_true, if_false, Option.getD_none, List.length_nil, Nat.sub_zero, List.drop_nil, List.take_length, hm, List.isEmpty_nil, Bool.not_true, List.drop_length, List.zip_nil_left, List.forIn_nil]
/-! the values in the order of the parameters -/
def pick {α : Type} (perm : List Nat) (l : List α) : List α := perm.filterMap fun i => l[i]?
def reorder {α : Type} (perm : List Nat) (l : List α) : List α := match perm with
  | [] => l
  | _ => pick perm l
def permOk (n : Nat) (ks : List Str) : Nat → List Str → List Nat → Bool
  | _, [], [] => true
  | i, p :: ps, j :: perm => (match Nat.blt i n with
    | true => Nat.beq i j
    | false => Nat.ble n j && (match ks[j - n]? with
      | some k => k == p
      | none => false)) && permOk n ks (i + 1) ps perm
  | _, _, _ => false
def nodupB : List Str → Bool
  | [] => true
  | x :: xs => !xs.contains x && nodupB xs
def bindOk (ps : List Str) (n : Nat) (ks : List Str) (perm : List Nat) : Bool := match perm with
  | [] => Nat.beq n ps.length && ks.isEmpty && nodupB ps
  | _ => Nat.beq (n + ks.length) ps.length && nodupB ps && nodupB ks && ks.all (fun k => ps.contains k && !(ps.take n).contains k) && permOk n ks 0 ps perm
theorem nodupB_ok : ∀ {xs : List Str}, nodupB xs = true → xs.Nodup
  | [], _ => List.nodup_nil
  | x :: xs, h => by
    have h : (!xs.contains x && nodupB xs) = true := h
    rw [Bool.and_eq_true, Bool.not_eq_true'] at h
    refine List.nodup_cons.mpr ⟨fun z => ?_, nodupB_ok h.2⟩
    have : xs.contains x = true := List.contains_iff_mem.mpr z
    rw [this] at h
    cases h.1
theorem lookup_zip {α : Type} : ∀ {ps : List Str} {us : List α} {i : Nat} {p : Str} {u : α}, ps.Nodup → ps[i]? = some p → us[i]? = some u → (ps.zip us).lookup p = some u
  | [], _, _, _, _, _, h, _ => by simp at h
  | _ :: _, [], _, _, _, _, _, h => by simp at h
  | q :: ps, w :: us, 0, p, u, _, h1, h2 => by
    simp at h1 h2
    subst h1 h2
    simp [List.lookup]
  | q :: ps, w :: us, i + 1, p, u, nd, h1, h2 => by
    have h1 : ps[i]? = some p := by simpa using h1
    have hne : (p == q) = false := beq_eq_false_iff_ne.mpr fun e => (List.nodup_cons.mp nd).1 (by rw [← e]; exact List.mem_of_getElem? h1)
    show ((q, w) :: ps.zip us).lookup p = some u
    rw [List.lookup_cons, hne]
    exact lookup_zip (List.nodup_cons.mp nd).2 h1 (by simpa using h2)
theorem lookup_out {α : Type} : ∀ {ps : List Str} {us : List α} {p : Str}, p ∉ ps.take us.length → (ps.zip us).lookup p = none
  | [], _, _, _ => rfl
  | _ :: _, [], _, _ => rfl
  | q :: ps, w :: us, p, h => by
    have h : p ∉ q :: ps.take us.length := h
    rw [List.mem_cons, not_or] at h
    show ((q, w) :: ps.zip us).lookup p = none
    rw [List.lookup_cons, beq_eq_false_iff_ne.mpr h.1]
    exact lookup_out h.2
theorem binds_zip {slots : List (Str × Value)} : ∀ {ps : List Str} {zs : List Value}, zs.length = ps.length → (∀ (i : Nat) (p : Str) (z : Value), ps[i]? = some p → zs[i]? = some z → slots.lookup p = some z) → (ps.filterMap fun n => (slots.lookup n).map (n, ·)) = ps.zip zs
  | [], [], _, _ => rfl
  | [], _ :: _, h, _ => by cases h
  | _ :: _, [], h, _ => by cases h
  | p :: ps, z :: zs, h, q => by
    have e := q 0 p z rfl rfl
    rw [List.filterMap_cons, e]
    show (p, z) :: _ = (p, z) :: ps.zip zs
    rw [binds_zip (by simpa using h) fun i p' z' h1 h2 => q (i + 1) p' z' (by simpa using h1) (by simpa using h2)]
/-- where each parameter's value comes from -/
theorem permOk_at {n : Nat} {ks : List Str} : ∀ {i : Nat} {ps : List Str} {perm : List Nat}, permOk n ks i ps perm = true → perm.length = ps.length ∧ ∀ (j : Nat) (p : Str), ps[j]? = some p → ∃ m, perm[j]? = some m ∧ ((i + j < n ∧ m = i + j) ∨ (n ≤ i + j ∧ n ≤ m ∧ ks[m - n]? = some p))
  | _, [], [], _ => ⟨rfl, fun _ _ h => by simp at h⟩
  | _, [], _ :: _, h => by cases h
  | _, _ :: _, [], h => by cases h
  | i, p :: ps, m :: perm, h => by
    have h : ((match Nat.blt i n with
      | true => Nat.beq i m
      | false => Nat.ble n m && (match ks[m - n]? with
        | some k => k == p
        | none => false)) && permOk n ks (i + 1) ps perm) = true := h
    rw [Bool.and_eq_true] at h
    obtain ⟨h0, h1⟩ := h
    obtain ⟨l, f⟩ := permOk_at h1
    refine ⟨by rw [List.length_cons, List.length_cons, l], fun j q hj => ?_⟩
    cases j with
    | zero =>
      have e : p = q := by simpa using hj
      subst e
      refine ⟨m, rfl, ?_⟩
      cases c : Nat.blt i n with
      | true =>
        rw [c] at h0
        exact .inl ⟨Nat.le_of_ble_eq_true c, (Nat.eq_of_beq_eq_true h0).symm⟩
      | false =>
        rw [c] at h0
        have h0 : (Nat.ble n m && (match ks[m - n]? with
          | some k => k == p
          | none => false)) = true := h0
        rw [Bool.and_eq_true] at h0
        have hn : n ≤ i := by
          rcases Nat.lt_or_ge i n with z | z
          · rw [show Nat.blt i n = true from Nat.ble_eq_true_of_le z] at c; cases c
          · exact z
        refine .inr ⟨hn, Nat.le_of_ble_eq_true h0.1, ?_⟩
        cases hk : ks[m - n]? with
        | none => rw [hk] at h0; cases h0.2
        | some k =>
          rw [hk] at h0
          have : (k == p) = true := h0.2
          rw [eq_of_beq this]
    | succ j =>
      obtain ⟨m', e1, e2⟩ := f j q (by simpa using hj)
      refine ⟨m', by simpa using e1, ?_⟩
      rcases e2 with ⟨a, b⟩ | ⟨a, b, c⟩
      · exact .inl ⟨by omega, by omega⟩
      · exact .inr ⟨by omega, b, c⟩
theorem pick_get {α : Type} {l : List α} : ∀ {perm : List Nat}, (∀ i ∈ perm, i < l.length) → (pick perm l).length = perm.length ∧ ∀ (j m : Nat) , perm[j]? = some m → (pick perm l)[j]? = l[m]?
  | [], _ => ⟨rfl, fun _ _ h => by simp at h⟩
  | m :: perm, h => by
    obtain ⟨a, b⟩ := pick_get (perm := perm) fun i hi => h i (List.mem_cons_of_mem _ hi)
    have hlt : m < l.length := h m List.mem_cons_self
    have hm : l[m]? = some l[m] := List.getElem?_eq_getElem hlt
    have e : pick (m :: perm) l = l[m] :: pick perm l := by
      unfold pick
      rw [List.filterMap_cons, hm]
    rw [e]
    refine ⟨by rw [List.length_cons, List.length_cons, a], fun j k hj => ?_⟩
    cases j with
    | zero =>
      have : m = k := by simpa using hj
      subst this
      simpa using hm.symm
    | succ j => simpa using b j k (by simpa using hj)
theorem bind_reorder {fd : FuncData} {ps ks : List Str} {perm : List Nat} {us ws : List Value} (p : Par fd ps) (h : bindOk ps us.length ks perm = true) (hw : ws.length = ks.length) :
    bindArgs fd ⟨us, ks.zip ws⟩ = pure (ps.zip (reorder perm (us ++ ws))) := by
  cases perm with
  | nil =>
    have h : (Nat.beq us.length ps.length && ks.isEmpty && nodupB ps) = true := h
    rw [Bool.and_eq_true, Bool.and_eq_true] at h
    have hl : us.length = ps.length := Nat.eq_of_beq_eq_true h.1.1
    have hk : ks = [] := List.isEmpty_iff.mp h.1.2
    have nd := nodupB_ok h.2
    subst hk
    have hw : ws = [] := List.length_eq_zero_iff.mp hw
    subst hw
    show bindArgs fd ⟨us, []⟩ = pure (ps.zip (us ++ []))
    rw [List.append_nil]
    have q : ∀ (i : Nat) (p : Str) (z : Value), ps[i]? = some p → us[i]? = some z → (ps.zip us ++ []).lookup p = some z := fun i p z h1 h2 => by rw [List.append_nil]; exact lookup_zip nd h1 h2
    rw [bind_eq (us := us) (kw := []) p (by omega) (fun x hx => by cases hx) List.nodup_nil (fun x hx => by cases hx) (fun n hn => ?_), binds_zip hl q]
    obtain ⟨i, hi, e⟩ := List.mem_iff_getElem.mp hn
    rw [q i n us[i] (by rw [← e]; exact List.getElem?_eq_getElem hi) (List.getElem?_eq_getElem (by omega))]
    rfl
  | cons m0 perm0 =>
    have h : (Nat.beq (us.length + ks.length) ps.length && nodupB ps && nodupB ks && ks.all (fun k => ps.contains k && !(ps.take us.length).contains k) && permOk us.length ks 0 ps (m0 :: perm0)) = true := h
    simp only [Bool.and_eq_true] at h
    obtain ⟨⟨⟨⟨h1, h2⟩, h3⟩, h4⟩, h5⟩ := h
    have hl : us.length + ks.length = ps.length := Nat.eq_of_beq_eq_true h1
    have nd := nodupB_ok h2
    have ndk := nodupB_ok h3
    obtain ⟨pl, pf⟩ := permOk_at h5
    have hkw : (ks.zip ws).map (·.1) = ks := by rw [List.map_fst_zip (by omega)]
    have hks : ∀ k ∈ ks, ps.contains k = true ∧ k ∉ ps.take us.length := fun k hk => by
      have := List.all_eq_true.mp h4 k hk
      rw [Bool.and_eq_true, Bool.not_eq_true'] at this
      refine ⟨this.1, fun z => ?_⟩
      have c : (ps.take us.length).contains k = true := List.contains_iff_mem.mpr z
      rw [c] at this
      cases this.2
    have hm : ∀ i ∈ m0 :: perm0, i < (us ++ ws).length := fun i hi => by
      obtain ⟨j, hj, e⟩ := List.mem_iff_getElem.mp hi
      have hj' : j < ps.length := by rw [← pl]; exact hj
      obtain ⟨m, e1, e2⟩ := pf j ps[j] (List.getElem?_eq_getElem hj')
      rw [List.getElem?_eq_getElem hj] at e1
      have : i = m := by rw [← e]; exact Option.some.inj e1
      rw [List.length_append]
      rcases e2 with ⟨a, b⟩ | ⟨a, b, c⟩
      · omega
      · have := (List.getElem?_eq_some_iff.mp c).1
        omega
    obtain ⟨q1, q2⟩ := pick_get hm
    show bindArgs fd ⟨us, ks.zip ws⟩ = pure (ps.zip (pick (m0 :: perm0) (us ++ ws)))
    have q : ∀ (i : Nat) (p : Str) (z : Value), ps[i]? = some p → (pick (m0 :: perm0) (us ++ ws))[i]? = some z → (ps.zip us ++ ks.zip ws).lookup p = some z := fun i p z e1 e2 => by
      obtain ⟨m, e3, e4⟩ := pf i p e1
      rw [q2 i m e3] at e2
      rw [List.lookup_append]
      rcases e4 with ⟨a, b⟩ | ⟨a, b, c⟩
      · have b : m = i := by omega
        subst b
        rw [List.getElem?_append_left (by omega)] at e2
        rw [lookup_zip nd e1 e2]
        rfl
      · rw [List.getElem?_append_right b] at e2
        rw [lookup_out (hks p (List.mem_of_getElem? c)).2, lookup_zip ndk c e2]
        rfl
    rw [bind_eq p (by omega) (fun x hx => (hks x.1 (by rw [← hkw]; exact List.mem_map.mpr ⟨x, hx, rfl⟩)).1) (by rw [hkw]; exact ndk) (fun x hx => lookup_out (hks x.1 (by rw [← hkw]; exact List.mem_map.mpr ⟨x, hx, rfl⟩)).2) (fun n hn => ?_),
      binds_zip (by rw [q1, pl]) q]
    obtain ⟨i, hi, e⟩ := List.mem_iff_getElem.mp hn
    have hi' : i < (pick (m0 :: perm0) (us ++ ws)).length := by rw [q1, pl]; exact hi
    rw [q i n _ (by rw [← e]; exact List.getElem?_eq_getElem hi) (List.getElem?_eq_getElem hi')]
    rfl
end RV
end
section
/-! RVCall: calls of own functions, methods, classes. -/
namespace RV
open PySem PySem.Spec PyProof.Rows L2
/-! ### the objects of a callee go -/
def Mu.cut (μ : Mu) (n : Nat) : Mu := ⟨fun k => if k < n then μ k else none, μ.hd⟩
section
variable {L : Pl} {μ μ' : Mu} {H H' : Hp} {S : Sto}
mutual
theorem RelP.below (d : ∀ n a, μ n = some a → n < S.length) : ∀ (p : PV) (v : V), RelP L μ H p v → below S.length p = true
  | .non, _, _ => rfl
  | .bl _, _, _ => rfl
  | .int _, _, _ => rfl
  | .str _, _, _ => rfl
  | .tup xs, _, h => by
    obtain ⟨a, ys, e1, h1, h2⟩ := h
    exact RelL.below d xs ys h2
  | .lst xs, _, h => by
    obtain ⟨a, ys, e1, h1, h2, h3⟩ := h
    exact RelL.below d xs ys h3
  | .scr xs, _, h => by
    obtain ⟨a, ys, e1, h1, h2⟩ := h
    exact RelL.below d xs ys h2
  | .obj n, _, h => by
    obtain ⟨a, e1, h1⟩ := h
    exact Nat.ble_eq_true_of_le (d n a h1)
theorem RelL.below (d : ∀ n a, μ n = some a → n < S.length) : ∀ (xs : List PV) (ys : List V), RelL L μ H xs ys → belowL S.length xs = true
  | [], _, _ => rfl
  | x :: xs, _, h => by
    obtain ⟨y, r, e1, h1, h2⟩ := h
    show (RV.below S.length x && belowL S.length xs) = true
    rw [RelP.below d x y h1, RelL.below d xs r h2]
    rfl
end
mutual
theorem RelP.cut {n : Nat} : ∀ (p : PV) (v : V), below n p = true → RelP L μ H p v → RelP L (μ.cut n) H p v
  | .non, _, _, h => h
  | .bl _, _, _, h => h
  | .int _, _, _, h => h
  | .str _, _, _, h => h
  | .tup xs, _, b, h => by
    obtain ⟨a, ys, e1, h1, h2⟩ := h
    exact ⟨a, ys, e1, h1, RelL.cutM xs ys b h2⟩
  | .lst xs, _, b, h => by
    obtain ⟨a, ys, e1, h1, h2, h3⟩ := h
    refine ⟨a, ys, e1, h1, ⟨fun k q => ?_, h2.2⟩, RelL.cutM xs ys b h3⟩
    have q : (if k < n then μ k else none) = some a := q
    split at q
    · exact h2.1 k q
    · cases q
  | .scr xs, _, b, h => by
    obtain ⟨a, ys, e1, h1, h2⟩ := h
    exact ⟨a, ys, e1, h1, RelL.cutM xs ys b h2⟩
  | .obj k, _, b, h => by
    obtain ⟨a, e1, h1⟩ := h
    refine ⟨a, e1, ?_⟩
    show (if k < n then μ k else none) = some a
    have hk : k < n := Nat.le_of_ble_eq_true b
    rw [if_pos hk]
    exact h1
theorem RelL.cutM {n : Nat} : ∀ (xs : List PV) (ys : List V), belowL n xs = true → RelL L μ H xs ys → RelL L (μ.cut n) H xs ys
  | [], _, _, h => h
  | x :: xs, _, b, h => by
    obtain ⟨y, r, e1, h1, h2⟩ := h
    have b : (RV.below n x && belowL n xs) = true := b
    rw [Bool.and_eq_true] at b
    exact ⟨y, r, e1, RelP.cut x y b.1 h1, RelL.cutM xs r b.2 h2⟩
end
theorem RelF.below (d : ∀ n a, μ n = some a → n < S.length) : ∀ (fs : List (Nat × PV)) (gs : List (Str × V)), RelF L μ H fs gs → belowF S.length fs = true
  | [], _, _ => rfl
  | (f, p) :: fs, _, h => by
    obtain ⟨v, r, e1, hf, h1, h2⟩ := h
    show (RV.below S.length p && belowF S.length fs) = true
    rw [RelP.below d p v h1, RelF.below d fs r h2]
    rfl
theorem RelF.cut {n : Nat} : ∀ (fs : List (Nat × PV)) (gs : List (Str × V)), belowF n fs = true → RelF L μ H fs gs → RelF L (μ.cut n) H fs gs
  | [], _, _, h => h
  | (f, p) :: fs, _, b, h => by
    obtain ⟨v, r, e1, hf, h1, h2⟩ := h
    have b : (RV.below n p && belowF n fs) = true := b
    rw [Bool.and_eq_true] at b
    exact ⟨v, r, e1, hf, RelP.cut p v b.1 h1, RelF.cut fs r b.2 h2⟩
theorem RelD.below (d : ∀ n a, μ n = some a → n < S.length) : ∀ (fs : List (PV × PV)) (gs : List (NestedKey × Addr × Value)), RelD L μ H fs gs → belowD S.length fs = true
  | [], _, _ => rfl
  | (k, p) :: fs, _, h => by
    obtain ⟨b, v, u, r, e1, hk, h1, h2, h3, h4⟩ := h
    show (RV.below S.length k && RV.below S.length p && belowD S.length fs) = true
    rw [RelP.below d k _ h1, RelP.below d p v h2, RelD.below d fs r h4]
    rfl
theorem RelD.cut {n : Nat} : ∀ (fs : List (PV × PV)) (gs : List (NestedKey × Addr × Value)), belowD n fs = true → RelD L μ H fs gs → RelD L (μ.cut n) H fs gs
  | [], _, _, h => h
  | (k, p) :: fs, _, z, h => by
    obtain ⟨b, v, u, r, e1, hk, h1, h2, h3, h4⟩ := h
    have z : (RV.below n k && RV.below n p && belowD n fs) = true := z
    rw [Bool.and_eq_true, Bool.and_eq_true] at z
    exact ⟨b, v, u, r, e1, hk, RelP.cut k _ z.1.1 h1, RelP.cut p v z.1.2 h2, h3, RelD.cut fs r z.2 h4⟩
theorem RelK.below (d : ∀ n a, μ n = some a → n < S.length) : ∀ (fs : List (PV × PV)) (gs : List (Key × V)), RelK L μ H fs gs → belowK S.length fs = true
  | [], _, _ => rfl
  | (k, p) :: fs, _, h => by
    obtain ⟨v, r, e1, hk, h1, h2⟩ := h
    show (RV.below S.length p && belowK S.length fs) = true
    rw [RelP.below d p v h1, RelK.below d fs r h2]
    rfl
theorem RelK.cut {n : Nat} : ∀ (fs : List (PV × PV)) (gs : List (Key × V)), belowK n fs = true → RelK L μ H fs gs → RelK L (μ.cut n) H fs gs
  | [], _, _, h => h
  | (k, p) :: fs, _, z, h => by
    obtain ⟨v, r, e1, hk, h1, h2⟩ := h
    have z : (RV.below n p && belowK n fs) = true := z
    rw [Bool.and_eq_true] at z
    exact ⟨v, r, e1, hk, RelP.cut p v z.1 h1, RelK.cut fs r z.2 h2⟩
theorem RelO.below (d : ∀ n a, μ n = some a → n < S.length) {o : SO} {a : Addr} (h : RelO L μ H o a) : belowO S.length o = true := by
  cases o with
  | lst xs => obtain ⟨ys, h1, h2⟩ := h; exact RelL.below d xs ys h2
  | ins c fs => obtain ⟨dx, gs, h1, h2⟩ := h; exact RelF.below d fs gs h2
  | dct kvs => obtain ⟨xs, h1, h2, h3, h4⟩ := h; exact RelD.below d kvs xs h4
  | dlf kvs => obtain ⟨gs, h1, h2, h3⟩ := h; exact RelK.below d kvs gs h3
theorem RelO.cut {n : Nat} {o : SO} {a : Addr} (b : belowO n o = true) (h : RelO L μ H o a) : RelO L (μ.cut n) H o a := by
  cases o with
  | lst xs => obtain ⟨ys, h1, h2⟩ := h; exact ⟨ys, h1, RelL.cutM xs ys b h2⟩
  | ins c fs => obtain ⟨dx, gs, h1, h2⟩ := h; exact ⟨dx, gs, h1, RelF.cut fs gs b h2⟩
  | dct kvs => obtain ⟨xs, h1, h2, h3, h4⟩ := h; exact ⟨xs, h1, h2, h3, RelD.cut kvs xs b h4⟩
  | dlf kvs => obtain ⟨gs, h1, h2, h3⟩ := h; exact ⟨gs, h1, h2, RelK.cut kvs gs b h3⟩
theorem cut_some {n k : Nat} {a : Addr} (h : (μ.cut n) k = some a) : k < n ∧ μ k = some a := by
  have h : (if k < n then μ k else none) = some a := h
  split at h
  · exact ⟨by assumption, h⟩
  · cases h
theorem RelS.cut {T : Sto} (r0 : RelS L μ H S) (r : RelS L μ' H' (S ++ T)) : RelS L (μ'.cut S.length) H' S where
  obj := fun n o e => by
    have hn : n < S.length := (List.getElem?_eq_some_iff.mp e).1
    obtain ⟨a, e1, h1⟩ := r.obj n o (by rw [List.getElem?_append_left hn]; exact e)
    obtain ⟨a0, _, h0⟩ := r0.obj n o e
    refine ⟨a, ?_, h1.cut (h0.below r0.dom)⟩
    show (if n < S.length then μ' n else none) = some a
    rw [if_pos hn]; exact e1
  inj := fun n m a h1 h2 => r.inj n m a (cut_some h1).2 (cut_some h2).2
  dom := fun n a h => (cut_some h).1
  hid := fun a h => ⟨(r.hid a h).1, fun n q => (r.hid a h).2 n (cut_some q).2⟩
  tab := r.tab.mono fun b u e k => ⟨e, fun n q => k.1 n (cut_some q).2, k.2⟩
theorem Ext.cut (r0 : RelS L μ H S) (e : Ext μ H μ' H') : Ext μ H (μ'.cut S.length) H' where
  sub := fun n a h => by
    show (if n < S.length then μ' n else none) = some a
    rw [if_pos (r0.dom n a h)]; exact e.sub n a h
  keep := fun a o h hn nt => e.keep a o h hn nt
  tups := e.tups
  frzs := e.frzs
  there := e.there
  new := fun n a h => e.new n a (cut_some h).2
  hd1 := e.hd1
  hd2 := e.hd2
end
/-! ### a call by values -/
theorem frzF_some {n : Nat} {S : Sto} {v r : PV} (h : frzF n S v = some r) : (below n v = true ∧ r = v) ∨ ∃ k xs, v = .obj k ∧ n ≤ k ∧ S[k - n]? = some (.lst xs) ∧ belowL n xs = true ∧ r = .lst xs := by
  unfold frzF at h
  cases b : below n v with
  | true =>
    rw [b] at h
    have h : some v = some r := h
    exact .inl ⟨rfl, (Option.some.inj h).symm⟩
  | false =>
    rw [b] at h
    cases v with
    | obj k =>
      have hk : n ≤ k := by
        rcases Nat.lt_or_ge k n with z | z
        · rw [show below n (.obj k) = true from Nat.ble_eq_true_of_le z] at b; cases b
        · exact z
      have h : (match S[k - n]? with
        | some (.lst xs) => match belowL n xs with
          | true => some (PV.lst xs)
          | false => none
        | _ => none) = some r := h
      cases g : S[k - n]? with
      | none => rw [g] at h; cases h
      | some so =>
        rw [g] at h
        cases so with
        | lst xs =>
          have h : (match belowL n xs with
            | true => some (PV.lst xs)
            | false => none) = some r := h
          cases bl : belowL n xs with
          | false => rw [bl] at h; cases h
          | true =>
            rw [bl] at h
            have h : some (PV.lst xs) = some r := h
            exact .inr ⟨k, xs, rfl, hk, g, bl, (Option.some.inj h).symm⟩
        | _ => cases h
    | _ => cases h
section
variable {L : Pl} {E : XK} {μ : Mu} {H : Hp} {B S : Sto}
theorem call_pure {F : DefF} {pu : Bool} {ws : List PV} {vs : List V} {Q : VK} (o : OutOk L E μ H B (callF F pu B S ws) (fun r _ μ' H' => ∀ v, RelP L μ' H' r v → Q v H')) (rs : RelS L μ H (B ++ S)) (hl : RelL L μ H ws vs) : spF L F vs H Q E := by
  cases pu with
  | false => exact ⟨μ, B, S, ws, rs, hl, o⟩
  | true =>
    have o : OutOk L E μ H B (match F (B ++ S) ws [] with
      | .ok v S' => Out.of (frzF (B.length + S.length) S' v) S
      | .exc c v S' => match below (B.length + S.length) v with
        | true => .exc c v S
        | false => .fail
      | .fail => .fail) (fun r _ μ' H' => ∀ v, RelP L μ' H' r v → Q v H') := o
    have hlen : B.length + S.length = (B ++ S).length := by rw [List.length_append]
    refine ⟨μ, B ++ S, [], ws, by rw [List.append_nil]; exact rs, hl, ?_⟩
    cases e : F (B ++ S) ws [] with
    | fail => rw [e] at o; exact False.elim o
    | exc c v S' =>
      rw [e] at o
      have o : OutOk L E μ H B (match below (B.length + S.length) v with
        | true => .exc c v S
        | false => .fail) (fun r _ μ' H' => ∀ v, RelP L μ' H' r v → Q v H') := o
      cases b : below (B.length + S.length) v with
      | false => rw [b] at o; exact False.elim o
      | true =>
        rw [b] at o
        intro μ' H' d x ex rs' hv hd
        have o : ∀ μ' H' d x, Ext μ H μ' H' → RelS L μ' H' (B ++ S) → RelP L μ' H' v x → H' d = some (.xd [(L.xf c, x)]) → E (.ref (L.ca c)) (some d) H' := o
        refine o (μ'.cut (B ++ S).length) H' d x (ex.cut rs) (RelS.cut rs rs') (RelP.cut v x (by rw [← hlen]; exact b) hv) hd
    | ok v S' =>
      rw [e] at o
      intro μ' H' ex rs' x hx
      have ex' := ex.cut rs
      have rs2 := RelS.cut rs rs'
      have o : OutOk L E μ H B (Out.of (frzF (B.length + S.length) S' v) S) (fun r _ μ' H' => ∀ v, RelP L μ' H' r v → Q v H') := o
      obtain ⟨r, er, o⟩ := o.of'
      have o : ∀ μ' H', Ext μ H μ' H' → RelS L μ' H' (B ++ S) → ∀ v, RelP L μ' H' r v → Q v H' := o
      refine o _ H' ex' rs2 x ?_
      rcases frzF_some er with ⟨b, e1⟩ | ⟨k, xs, ev, hk, g, bl, e1⟩
      · rw [e1]
        exact RelP.cut _ x (by rw [← hlen]; exact b) hx
      · rw [ev] at hx
        rw [e1]
        have hg : (B ++ S ++ S')[k]? = some (.lst xs) := by
          rw [List.getElem?_append_right (by rw [← hlen]; exact hk), ← hlen]
          exact g
        obtain ⟨a, e1, e2, ys, h1, h2⟩ := rs'.get hg hx
        refine ⟨a, ys, e1, h1, ⟨fun n q => ?_, fun q => (rs'.hid a q).2 k e2⟩, RelL.cutM xs ys (by rw [← hlen]; exact bl) h2⟩
        have q' := cut_some q
        have := rs'.inj n k a q'.2 e2
        omega
end
/-! ### arguments -/
theorem permF_eq : ∀ {perm : List Nat} {vs ws : List PV}, permF perm vs = some ws → ws = reorder perm vs ∧ ∀ i ∈ perm, i < vs.length
  | [], vs, ws, h => by
    have h : some vs = some ws := h
    cases h
    exact ⟨rfl, fun i hi => by cases hi⟩
  | [i], vs, ws, h => by
    have h : (match vs[i]? with
      | some v => some [v]
      | none => none) = some ws := h
    cases e : vs[i]? with
    | none => rw [e] at h; cases h
    | some v =>
      rw [e] at h
      have hi : i < vs.length := (List.getElem?_eq_some_iff.mp e).1
      have h : some [v] = some ws := h
      cases h
      refine ⟨?_, fun j hj => ?_⟩
      · show [v] = pick [i] vs
        unfold pick
        rw [List.filterMap_cons, e]; rfl
      · rw [List.mem_singleton.mp hj]; exact hi
  | i :: j :: r, vs, ws, h => by
    have h : (match vs[i]? with
      | some v => (permF (j :: r) vs).map (v :: ·)
      | none => none) = some ws := h
    cases e : vs[i]? with
    | none => rw [e] at h; cases h
    | some v =>
      rw [e] at h
      have hi : i < vs.length := (List.getElem?_eq_some_iff.mp e).1
      have h : (permF (j :: r) vs).map (v :: ·) = some ws := h
      obtain ⟨ws', e1, e2⟩ := Option.map_eq_some_iff.mp h
      obtain ⟨h1, h2⟩ := permF_eq e1
      refine ⟨?_, fun z hz => ?_⟩
      · rw [← e2, h1]
        show v :: pick (j :: r) vs = pick (i :: j :: r) vs
        unfold pick
        rw [List.filterMap_cons (a := i), e]
      · rcases List.mem_cons.mp hz with z' | z'
        · rw [z']; exact hi
        · exact h2 z z'
section
variable {L : Pl} {μ : Mu} {H : Hp}
theorem RelL.pick : ∀ {perm : List Nat} {xs : List PV} {ys : List V}, RelL L μ H xs ys → RelL L μ H (RV.pick perm xs) (RV.pick perm ys)
  | [], _, _, _ => rfl
  | i :: perm, xs, ys, h => by
    have ih := RelL.pick (perm := perm) h
    unfold RV.pick at ih ⊢
    rw [List.filterMap_cons, List.filterMap_cons]
    cases e : xs[i]? with
    | none =>
      have e2 : ys[i]? = none := by
        apply List.getElem?_eq_none
        rw [← h.length]
        exact List.getElem?_eq_none_iff.mp e
      rw [e2]
      exact ih
    | some p =>
      obtain ⟨v, e2, r⟩ := h.get e
      rw [e2]
      exact ⟨v, _, rfl, r, ih⟩
theorem RelL.reorder {perm : List Nat} {xs : List PV} {ys : List V} (h : RelL L μ H xs ys) : RelL L μ H (RV.reorder perm xs) (RV.reorder perm ys) := by
  cases perm with
  | nil => exact h
  | cons i r => exact h.pick
end
theorem Vals_pick : ∀ {perm : List Nat} {xs : List V} {ys : List Value}, Vals xs ys → Vals (RV.pick perm xs) (RV.pick perm ys)
  | [], _, _, _ => .nil
  | i :: perm, xs, ys, h => by
    have ih := Vals_pick (perm := perm) h
    unfold RV.pick at ih ⊢
    rw [List.filterMap_cons, List.filterMap_cons]
    cases e : xs[i]? with
    | none =>
      have e2 : ys[i]? = none := by
        apply List.getElem?_eq_none
        rw [← h.length]
        exact List.getElem?_eq_none_iff.mp e
      rw [e2]
      exact ih
    | some p =>
      obtain ⟨v, e2, r⟩ := h.get e
      rw [e2]
      exact .cons r ih
theorem Vals_reorder {perm : List Nat} {xs : List V} {ys : List Value} (h : Vals xs ys) : Vals (RV.reorder perm xs) (RV.reorder perm ys) := by
  cases perm with
  | nil => exact h
  | cons i r => exact Vals_pick h
theorem OutOk.imp2 {α : Type} {L : Pl} {E : XK} {μ : Mu} {H : Hp} {B : Sto} {o : Out α} {R R' : α → Sto → Mu → Hp → Prop} (h : OutOk L E μ H B o R) (f : ∀ a S μ' H', o = .ok a S → Ext μ H μ' H' → RelS L μ' H' (B ++ S) → R a S μ' H' → R' a S μ' H') : OutOk L E μ H B o R' := by
  cases o with
  | ok a S => exact fun μ' H' e r => f a S μ' H' rfl e r (h μ' H' e r)
  | exc c v S => exact h
  | fail => exact h
/-! ### the trees of arguments -/
def noStar : List Expr → Bool
  | [] => true
  | .Starred _ _ :: _ => false
  | _ :: r => noStar r
def kwNames : List Keyword → Option (List Str)
  | [] => some []
  | ⟨some k, _, _⟩ :: r => (kwNames r).map (k :: ·)
  | ⟨none, _, _⟩ :: _ => none
theorem star_cons {e : Expr} {r : List Expr} {env : Env} (h : noStar (e :: r) = true) : starEach (e :: r) env = (false, eval e env) :: starEach r env ∧ noStar r = true := by
  cases e <;> first | exact ⟨rfl, h⟩ | cases h
theorem star_plain {pos : Pos} {env : Env} : ∀ {args : List Expr}, noStar args = true → (backTo pos (starEach args env)).any (·.1) = false
  | [], _ => rfl
  | e :: r, h => by
    obtain ⟨h1, h2⟩ := star_cons (env := env) h
    rw [h1]
    show (false || (backTo pos (starEach r env)).any (·.1)) = false
    rw [star_plain h2]; rfl
theorem star_all {pos : Pos} {env : Env} : ∀ {args : List Expr}, noStar args = true → (backTo pos (starEach args env)).all (!·.1) = true
  | [], _ => rfl
  | e :: r, h => by
    obtain ⟨h1, h2⟩ := star_cons (env := env) h
    rw [h1]
    show (true && (backTo pos (starEach r env)).all (!·.1)) = true
    rw [star_all h2]; rfl
theorem kw_facts {pos : Pos} {env : Env} : ∀ {kws : List Keyword} {ks : List Str}, kwNames kws = some ks → (backToKw pos (keywordEach kws env)).all (·.1.isSome) = true ∧ (backToKw pos (keywordEach kws env)).any (·.1.isNone) = false ∧ (backToKw pos (keywordEach kws env)).filterMap (·.1) = ks ∧ ks.length = kws.length
  | [], ks, h => by
    have h : some [] = some ks := h
    cases h
    exact ⟨rfl, rfl, rfl, rfl⟩
  | ⟨some k, e, p⟩ :: r, ks, h => by
    have h : (kwNames r).map (k :: ·) = some ks := h
    obtain ⟨ks', e1, e2⟩ := Option.map_eq_some_iff.mp h
    obtain ⟨h1, h2, h3, h4⟩ := kw_facts (pos := pos) (env := env) e1
    subst e2
    refine ⟨?_, ?_, ?_, by rw [List.length_cons, List.length_cons, h4]⟩
    · show (true && (backToKw pos (keywordEach r env)).all (·.1.isSome)) = true
      rw [h1]; rfl
    · show (false || (backToKw pos (keywordEach r env)).any (·.1.isNone)) = false
      rw [h2]; rfl
    · show k :: (backToKw pos (keywordEach r env)).filterMap (·.1) = k :: ks'
      rw [h3]
  | ⟨none, _, _⟩ :: _, _, h => by cases h
section
variable {X : Cx} {L : Pl} {E : XK} {CX : CXT} {k : Nat} {fa C : Addr} {fd : FuncData} {ps ks : List Str} {sp : Sp} {x m : Str} {p pos apos : Pos} {args : List Expr} {kws : List Keyword} {f1 f2 : Sto → Loc → Sto → Out (List PV)} {F : DefF} {pu : Bool} {perm : List Nat}
/-- room, and no repr under way -/
structure Rm (k : Nat) (A : Around) : Prop where
  r : L2.Room k A
  gd : A.guards = some []
theorem Rm.mono {j k : Nat} {A : Around} (h : Rm k A) (l : j ≤ k) : Rm j A := ⟨h.r.mono l, h.gd⟩
theorem Rm.deeper {k : Nat} {A : Around} (h : Rm (k + 1) A) (env : Env) : Rm k (A.deeper env) := ⟨h.r.deeper env, h.gd⟩
theorem Rm.in1 {k : Nat} {A : Around} (h : Rm (k + 1) A) : Rm k A.in1 := ⟨h.r.in1, h.gd⟩
theorem Rm.make {k : Nat} {A : Around} (h : Rm (k + 1) A) (C : Addr) (us : List Value) (kw : List (Str × Value)) : Rm k (A.under (.builtin "type.__call__" ⟨.ref C :: us, kw⟩)) := by
  refine ⟨h.r.make C us kw, ?_⟩
  show pushGuards (Code.guards (.builtin "type.__call__" ⟨.ref C :: us, kw⟩)) A.guards = some []
  rw [h.gd]
  have e : Code.isGuard (.builtin "type.__call__" ⟨.ref C :: us, kw⟩) = false := by
    first | rfl | (simp [Code.isGuard, guardIds])
  unfold Code.guards
  rw [e]
  rfl
/-- a def keeps its promise wherever there is room and no repr is under way -/
structure FnO (P : Program) (w : World) (K : PySem.W.Frag) (mg : Str → Option Value) (base : Heap) (CX : CXT) (k : Nat) (f : Addr) (fd : FuncData) (ps : List Str) (sp : Sp) : Prop where
  len : ∀ vs H Q E, sp vs H Q E → vs.length = ps.length
  run : ∀ (A : Around) (outer : List Env) (s : Shared) (H : Hp) (args : Args) (us : List Value) (vs : List V) (Q : VK) (E : XK), Rm k A → Env0 P w K mg base A outer s H → BindsTo s fd args (ps.zip us) → Vals vs us → sp vs H Q E →
    codeAny (model P w) A (.call (.ref f) args) (CR CX outer P w H s Q E) s
theorem FnO.imp {P : Program} {w : World} {K : PySem.W.Frag} {mg : Str → Option Value} {base : Heap} {CX : CXT} {k : Nat} {f : Addr} {fd : FuncData} {ps : List Str} {sp sp' : Sp} (F : FnO P w K mg base CX k f fd ps sp) (h : ∀ vs H Q E, sp' vs H Q E → sp vs H Q E) : FnO P w K mg base CX k f fd ps sp' :=
  ⟨fun vs H Q E z => F.len vs H Q E (h vs H Q E z), fun A outer s H args us vs Q E r e b v z => F.run A outer s H args us vs Q E r e b v (h vs H Q E z)⟩
theorem run_own {pins : List (Addr × Obj)} {σ : L2.St} {H : Hp} {s : Shared} {Q : VK} {us ws : List Value} {vs zs : List V} (F : FnO X.prog X.w X.K X.mg X.base CX k fa fd ps sp) (hr : Rm k X.A) (hx : Passes CX X E) (par : Par fd ps)
    (hb : bindOk ps us.length ks perm = true) (I : Inv X pins σ H s) (r : Vals vs us) (rz : Vals zs ws) (hl : ws.length = ks.length) (h : sp (reorder perm (vs ++ zs)) H Q E) : wpAny (model X.prog X.w) X.A (call (.ref fa) us (ks.zip ws)) (EP X pins σ Q) X.xe s := by
  have r2 : Vals (reorder perm (vs ++ zs)) (reorder perm (us ++ ws)) := Vals_reorder (r.append rz)
  refine wpAny_call (codeAny_mono (F.run X.A X.stack s H ⟨us, ks.zip ws⟩ (reorder perm (us ++ ws)) (reorder perm (vs ++ zs)) Q E hr I.env0 (.of_eq (bind_reorder par hb hl)) r2 h) fun r s' hq => ?_)
  cases r with
  | error e => exact hx pins σ H s e s' I hq
  | ok fl =>
    cases fl with
    | ret u => exact I.after hq
    | next => exact False.elim hq
    | brk => exact False.elim hq
    | cont => exact False.elim hq
/-- the arguments, then the call -/
theorem args_call {first : List Value} {fv : Value} {pins : List (Addr × Obj)} {σ : L2.St} {H : Hp} {s : Shared} {Q : VK} (hk : PySem.W.keepIn X.K fv = true) (I : Inv X pins σ H s) (hst : noStar args = true) (hkn : kwNames kws = some ks) {t1 t2 : TA} (ha : PA X args t1) (hn : args = [] → ∀ σ H Q, t1 σ H Q → Q [] H) (hkw : PK X kws t2)
    (h : t1 σ H fun vs H1 => t2 σ H1 fun zs H2 => ∀ s2 us ws, Inv X pins σ H2 s2 → Vals vs us → Vals zs ws → wpAny (model X.prog X.w) X.A (call fv (first ++ us) (ks.zip ws)) (EP X pins σ Q) X.xe s2) :
    wpAny (model X.prog X.w) X.A (callWith pos fv first (backTo pos (starEach args X.env)) (backToKw pos (keywordEach kws X.env))) (EP X pins σ Q) X.xe s := by
  obtain ⟨k1, k2, k3, _⟩ := kw_facts (pos := pos) (env := X.env) hkn
  cases args with
  | nil =>
    refine PySem.W.callWith_KW0 (h₀ := X.base) I.ok.mod.kin hk k1 ?_ (by rw [k2]; rfl)
    refine thn (hkw.run pos pins s σ H _ I (hn rfl σ H _ h)) fun ws s2 ⟨zs, H2, I2, rz, q2⟩ => ⟨I2.kIn, ?_⟩
    rw [k3]
    exact q2 s2 [] ws I2 .nil rz
  | cons e rest =>
    obtain ⟨s1, s2⟩ := star_cons (env := X.env) hst
    refine PySem.W.callWith_KW (h₀ := X.base) I.ok.mod.kin hk k1 (thn (ha.run pos pins s σ H _ I h) fun us s1 ⟨vs, H1, I1, r, q⟩ => ?_) (by rw [star_plain hst, k2]; rfl) s1
    refine thn (hkw.run pos pins s1 σ H1 _ I1 q) fun ws s2 ⟨zs, H2, I2, rz, q2⟩ => ⟨I2.kIn, ?_⟩
    rw [k3]
    exact q2 s2 us ws I2 r rz
theorem a_nil_now {f : Sto → Loc → Sto → Out (List PV)} (hf : ∀ B ρ S, f B ρ S = .ok [] S) (σ : L2.St) (H : Hp) (Q : List V → Hp → Prop) (h : tA L E f σ H Q) : Q [] H := by
  obtain ⟨μ, B, ρ, S, rs, rl, o⟩ := h
  rw [hf] at o
  exact o.now rs [] rfl
theorem k_nil : PK X [] (tA L E fun _ _ S => .ok [] S) := ⟨fun pos pins s σ H Q I h => pk_nil.run pos pins s σ H Q I (a_nil_now (fun _ _ _ => rfl) σ H Q h)⟩
theorem k_cons {e : Expr} {fe : FE} {nm : Option Str} {kp : Pos} (ha : PE X e (tE L E fe)) (hr : PK X kws (tA L E f2)) : PK X (⟨nm, e, kp⟩ :: kws) (tA L E fun B ρ S => (fe B ρ S).bind fun x S => (f2 B ρ S).bind fun vs S => .ok (x :: vs) S) :=
  ⟨fun pos pins s σ H Q I h => (pk_cons ha hr).run pos pins s σ H Q I (by
    obtain ⟨μ, B, ρ, S, rs, rl, o⟩ := h
    exact ⟨μ, B, ρ, S, rs, rl, o.bind.imp fun p S1 μ1 H1 e1 rs1 o1 v hv => ⟨μ1, B, ρ, S1, rs1, rl.mono e1, o1.bind.imp fun ps S2 μ2 H2 e2 rs2 o2 vs hvs => o2.now rs2 _ ⟨v, vs, rfl, RelP.mono e2 p v hv, hvs⟩⟩⟩)⟩
/-- how many values -/
def Many (f : Sto → Loc → Sto → Out (List PV)) (n : Nat) : Prop := ∀ B ρ S vs S', f B ρ S = .ok vs S' → vs.length = n
def callO (F : DefF) (pu : Bool) (perm : List Nat) (B S : Sto) (vs : List PV) : Out PV := match permF perm vs with
  | some ws => callF F pu B S ws
  | none => .fail
theorem callO_sp {μ : Mu} {H : Hp} {B S : Sto} {vs : List PV} {xs : List V} {Q : VK} (o : OutOk L E μ H B (callO F pu perm B S vs) (fun r _ μ' H' => ∀ v, RelP L μ' H' r v → Q v H')) (rs : RelS L μ H (B ++ S)) (hl : RelL L μ H vs xs) : spF L F (reorder perm xs) H Q E := by
  unfold callO at o
  cases e : permF perm vs with
  | none => rw [e] at o; exact False.elim o
  | some ws =>
    rw [e] at o
    have h := (permF_eq e).1
    exact call_pure o rs (by rw [h]; exact hl.reorder)
/-- f(..) -/
theorem e_call (hF : FnO X.prog X.w X.K X.mg X.base CX k fa fd ps (spF L F)) (hr : Rm k X.A) (hx : Passes CX X E) (par : Par fd ps) (hk : PySem.W.keepIn X.K (.ref fa) = true) (hg : Gl X x) (hm : X.mg x = some (.ref fa)) (hdb : (x == ("__debug__" : Str)) = false)
    (hst : noStar args = true) (hkn : kwNames kws = some ks) (hb : bindOk ps args.length ks perm = true) (ha : PA X args (tA L E f1)) (hn : args = [] → ∀ B ρ S, f1 B ρ S = .ok [] S) (m1 : Many f1 args.length) (hkw : PK X kws (tA L E f2)) (m2 : Many f2 kws.length) :
    PE X (.Call (.Name x p) args kws pos) (tE L E fun B ρ S => (f1 B ρ S).bind fun vs S => (f2 B ρ S).bind fun zs S => callO F pu perm B S (vs ++ zs)) := by
  refine ⟨fun pins s σ H Q I h => ?_⟩
  obtain ⟨μ, B, ρ, S, rs, rl, o⟩ := h
  refine wpAny_Call_Name_kw (ld_glob I hg hm ?_ hdb)
  obtain ⟨_, _, _, kl⟩ := kw_facts (pos := pos) (env := X.env) hkn
  refine args_call hk I hst hkn ha (fun e σ H Q => a_nil_now (hn e) σ H Q) hkw ⟨μ, B, ρ, S, rs, rl, o.bind.imp2 fun vs S1 μ1 H1 q1 e1 rs1 o1 xs hv => ⟨μ1, B, ρ, S1, rs1, rl.mono e1, o1.bind.imp2 fun zs S2 μ2 H2 q2 e2 rs2 o2 ys hz => ?_⟩⟩
  intro s2 us ws I2 r rz
  have l1 : us.length = args.length := by rw [← r.length, ← hv.length, m1 _ _ _ _ _ q1]
  have l2 : ws.length = ks.length := by rw [← rz.length, ← hz.length, m2 _ _ _ _ _ q2, kl]
  exact run_own hF hr hx par (by show bindOk ps us.length ks perm = true; rw [l1]; exact hb) I2 r rz l2 (callO_sp o2 rs2 ((RelL.mono e2 vs xs hv).append hz))
/-! methods -/
def selfP : List Nat → List Nat
  | [] => []
  | i :: r => 0 :: (i :: r).map (· + 1)
theorem pick_self {α : Type} (x : α) (l : List α) : ∀ perm : List Nat, pick (perm.map (· + 1)) (x :: l) = pick perm l
  | [] => rfl
  | i :: r => by
    have ih := pick_self x l r
    unfold pick at ih ⊢
    rw [List.map_cons, List.filterMap_cons, List.filterMap_cons, ih]
    rfl
theorem reorder_self {α : Type} (x : α) (l : List α) (perm : List Nat) : reorder (selfP perm) (x :: l) = x :: reorder perm l := by
  cases perm with
  | nil => rfl
  | cons i r =>
    show pick (0 :: (i :: r).map (· + 1)) (x :: l) = x :: pick (i :: r) l
    have := pick_self x l (i :: r)
    unfold pick at this ⊢
    rw [List.filterMap_cons (a := 0), this]
    rfl
def absOk : Expr → Bool
  | .Call (.Name id _) [] [] _ => id != "super"
  | _ => true
theorem abase_ok {o : Expr} {attr : Str} {env : Env} {whole : Sem Value} (h : absOk o = true) : attributeBase o attr env whole = whole := by
  cases o with
  | Call f args kws q =>
    cases f with
    | Name id p =>
      cases args with
      | nil =>
        cases kws with
        | nil => exact abase_call h
        | cons _ _ => rfl
      | cons _ _ => rfl
    | _ => rfl
  | _ => rfl
/-- the tree of a plain method call -/
theorem meth_tree {o : Expr} {env : Env} (h0 : absOk o = true) (h1 : noStar args = true) (h2 : kwNames kws = some ks) (h3 : Nat.blt (args.length + kws.length + 1) 30 = true) (h4 : (apos.endLine == pos.line) = true) :
    eval (.Call (.Attribute o m apos) args kws pos) env = (do
      let ov ← eval o env
      standAt apos.atName
      let (f, first) ← holding [ov] (getMethod ov m (do return (← importBound o env).getD true))
      callWith pos f first (backTo pos (starEach args env)) (backToKw pos (keywordEach kws env))) := by
  obtain ⟨k1, _, _, _⟩ := kw_facts (pos := pos) (env := env) h2
  refine mcall_of (abase_ok h0) fun ov => ?_
  unfold methodCall
  have hf : methodCallForm (args.length + kws.length) (backTo pos (starEach args env)) (backToKw pos (keywordEach kws env)) = true := by
    unfold methodCallForm
    rw [star_all h1, k1]
    have : args.length + kws.length + 1 < 30 := Nat.le_of_ble_eq_true h3
    have : args.length + kws.length + (if (backToKw pos (keywordEach kws env)).isEmpty = true then 0 else 1) < 30 := by split <;> omega
    show (true && true && decide (args.length + kws.length + (if (backToKw pos (keywordEach kws env)).isEmpty = true then 0 else 1) < 30)) = true
    rw [decide_eq_true this]
    rfl
  rw [hf]
  unfold calleeOf methodCallPos
  rw [h4]
  simp
/-- o.m(..) -/
theorem e_meth {o : Expr} {fo : FE} {fld : Nat → List Nat} {c : Nat} (he : PE X o (tE L E fo)) (hC : L.ca c = C) (cl : Cls X.K C) (hm : Meth X.K C m fa) (hfm : ∀ f, f < L.nf → L.fn f ≠ m) (hF : FnO X.prog X.w X.K X.mg X.base CX k fa fd ps (spF L F)) (hr : Rm k X.A) (hx : Passes CX X E) (par : Par fd ps)
    (h0 : absOk o = true) (h4 : (apos.endLine == pos.line) = true) (h3 : Nat.blt (args.length + kws.length + 1) 30 = true)
    (hst : noStar args = true) (hkn : kwNames kws = some ks) (hb : bindOk ps (args.length + 1) ks (selfP perm) = true) (ha : PA X args (tA L E f1)) (hn : args = [] → ∀ B ρ S, f1 B ρ S = .ok [] S) (m1 : Many f1 args.length) (hkw : PK X kws (tA L E f2)) (m2 : Many f2 kws.length) :
    PE X (.Call (.Attribute o m apos) args kws pos) (tE L E fun B ρ S => (fo B ρ S).bind fun x S => match x with
      | .obj n => match getS B S n with
        | some (.ins d _) => match Nat.beq c d with
          | true => (f1 B ρ S).bind fun vs S => (f2 B ρ S).bind fun zs S => match permF perm (vs ++ zs) with
            | some ws => callF F pu B S (.obj n :: ws)
            | none => .fail
          | false => .fail
        | _ => .fail
      | _ => .fail) := by
  refine ⟨fun pins s σ H Q I h => ?_⟩
  obtain ⟨μ, B, ρ, S, rs, rl, ou⟩ := h
  obtain ⟨_, _, _, kl⟩ := kw_facts (pos := pos) (env := X.env) hkn
  refine PySem.W.methodCall_KW (thn (he.run pins s σ H (fun x H1 => ∀ s1 u, Inv X pins σ H1 s1 → RelV x u → wpAny (model X.prog X.w) X.A (getMethod u m (do return (← importBound o X.env).getD true)) (fun fx s₂ => wpAny (model X.prog X.w) X.A (callWith pos fx.1 fx.2 (backTo pos (starEach args X.env)) (backToKw pos (keywordEach kws X.env))) (EP X pins σ Q) X.xe s₂) X.xe s1) I ⟨μ, B, ρ, S, rs, rl, ou.bind.imp fun q S1 μ1 H1 e1 rs1 o1 v hv => ?_⟩) fun u s1 ⟨x, H1, I1, rx, q⟩ => q s1 u I1 rx) (meth_tree h0 hst hkn h3 h4)
  intro s1 u I1 rx
  cases q with
  | obj n =>
    have o1 : OutOk L E μ1 H1 B (match getS B S1 n with
        | some (.ins d _) => match Nat.beq c d with
          | true => (f1 B ρ S1).bind fun vs S => (f2 B ρ S).bind fun zs S => match permF perm (vs ++ zs) with
            | some ws => callF F pu B S (.obj n :: ws)
            | none => .fail
          | false => .fail
        | _ => .fail) _ := o1
    cases g : getS B S1 n with
    | none => rw [g] at o1; exact False.elim o1
    | some ob =>
      rw [g] at o1
      cases ob with
      | ins d fs =>
        have o1 : OutOk L E μ1 H1 B (match Nat.beq c d with
          | true => (f1 B ρ S1).bind fun vs S => (f2 B ρ S).bind fun zs S => match permF perm (vs ++ zs) with
            | some ws => callF F pu B S (.obj n :: ws)
            | none => .fail
          | false => .fail) _ := o1
        cases cd : Nat.beq c d with
        | false => rw [cd] at o1; exact False.elim o1
        | true =>
          rw [cd] at o1
          have cd' : c = d := Nat.eq_of_beq_eq_true cd
          rw [cd'] at hC
          obtain ⟨a, ea, em, dx, gs, h1, h2⟩ := rs1.get g hv
          have hl : gs.lookup m = none := by
            have all : ∀ {fs : List (Nat × PV)} {gs : List (Str × V)}, RelF L μ1 H1 fs gs → gs.lookup m = none := by
              intro fs
              induction fs with
              | nil => intro gs h; have h : gs = [] := h; rw [h]; rfl
              | cons fp fs ih =>
                obtain ⟨f, p⟩ := fp
                intro gs h
                obtain ⟨v, r, e1, hf, _, h2⟩ := h
                rw [e1, List.lookup_cons, beq_eq_false_iff_ne.mpr (fun z => hfm f hf z.symm)]
                exact ih h2
            exact all h2
          rw [ea] at rx
          have rx : u = Value.ref a := rx
          rw [rx]
          rw [hC] at h1
          refine getmeth_ok I1 h1 cl hm hl ?_
          have o1 : OutOk L E μ1 H1 B ((f1 B ρ S1).bind fun vs S => (f2 B ρ S).bind fun zs S => match permF perm (vs ++ zs) with
            | some ws => callF F pu B S (.obj n :: ws)
            | none => .fail) _ := o1
          refine args_call hm.kp I1 hst hkn ha (fun e σ H Q => a_nil_now (hn e) σ H Q) hkw ⟨μ1, B, ρ, S1, rs1, rl.mono e1, o1.bind.imp2 fun vs S2 μ2 H2 q1 e2 rs2 o2 xs hv' => ⟨μ2, B, ρ, S2, rs2, (rl.mono e1).mono e2, o2.bind.imp2 fun zs S3 μ3 H3 q2 e3 rs3 o3 ys hz => ?_⟩⟩
          intro s2 us ws I2 r rz
          have l1 : us.length = args.length := by rw [← r.length, ← hv'.length, m1 _ _ _ _ _ q1]
          have l2 : ws.length = ks.length := by rw [← rz.length, ← hz.length, m2 _ _ _ _ _ q2, kl]
          refine run_own (perm := selfP perm) (us := .ref a :: us) (vs := .ref a :: xs) hF hr hx par (by show bindOk ps (us.length + 1) ks (selfP perm) = true; rw [l1]; exact hb) I2 (.cons rfl r) rz l2 ?_
          show spF L F (reorder (selfP perm) (.ref a :: (xs ++ ys))) H3 Q E
          rw [reorder_self]
          cases e : permF perm (vs ++ zs) with
          | none => rw [e] at o3; exact False.elim o3
          | some ws' =>
            rw [e] at o3
            have hw := (permF_eq e).1
            have hself : RelP L μ3 H3 (.obj n) (.ref a) := RelP.mono e3 _ _ (RelP.mono e2 _ _ ⟨a, rfl, em⟩)
            exact call_pure o3 rs3 ⟨.ref a, _, rfl, hself, by rw [hw]; exact ((RelL.mono e3 vs xs hv').append hz).reorder⟩
      | _ => exact False.elim o1
  | _ => exact False.elim o1
/-! classes -/
theorem run_makeO {pins : List (Addr × Obj)} {σ : L2.St} {H : Hp} {s : Shared} {Q : VK} {us ws : List Value} {vs zs : List V} (M : Mk X.K C fa) (F : FnO X.prog X.w X.K X.mg X.base CX k fa fd ps sp) (hr : Rm (k + 1) X.A) (hx : Passes CX X E) (par : Par fd ps)
    (hb : bindOk ps (us.length + 1) ks (selfP perm) = true) (I : Inv X pins σ H s) (r : Vals vs us) (rz : Vals zs ws) (hl : ws.length = ks.length)
    (h : ∀ x dx, H x = none → H dx = none → dx ≠ x → sp (.ref x :: reorder perm (vs ++ zs)) (upd (upd H dx (.own x)) x (.ins C dx [])) (fun v H2 => v = .non ∧ Q (.ref x) H2) E) :
    wpAny (model X.prog X.w) X.A (call (.ref C) us (ks.zip ws)) (EP X pins σ Q) X.xe s := by
  have fr : ∀ j, H (s.heap.objs.size + j) = none := fun j => I.hok.fresh (Nat.le_add_right _ j)
  have J : Inv X pins σ _ _ := Inv.made (C := C) I
  have ra : Vals (V.ref (s.heap.objs.size + 1) :: (vs ++ zs)) (Value.ref (s.heap.objs.size + 1) :: (us ++ ws)) := .cons rfl (r.append rz)
  have ro := Vals_reorder (perm := selfP perm) ra
  rw [reorder_self] at ro
  have bo := bind_reorder (us := Value.ref (s.heap.objs.size + 1) :: us) (ws := ws) par hb hl
  have run := F.run _ X.stack _ _ ⟨Value.ref (s.heap.objs.size + 1) :: us, ks.zip ws⟩ (reorder (selfP perm) (Value.ref (s.heap.objs.size + 1) :: us ++ ws)) _ _ E (hr.make C us (ks.zip ws)) (J.env0.make C us (ks.zip ws)) (.of_eq bo) ro (h _ _ (fr 1) (fr 0) (Nat.ne_of_lt (Nat.lt_succ_self _)))
  exact wpAny_call (make_map (f := fa) I.kIn M.makes M.init (beq_iff_eq.mp M.fn) (codeAny_mono run fun
    | .error e, s', z => hx pins σ _ _ e s' J z
    | .ok (.ret u), s', z => by
      obtain ⟨v, G, J', rv, ev, q⟩ := J.after z
      cases ev
      exact ⟨rv, V.ref (s.heap.objs.size + 1), G, J', rfl, q⟩
    | .ok .next, _, z => z.elim
    | .ok .brk, _, z => z.elim
    | .ok .cont, _, z => z.elim))
def makeO (F : DefF) (c : Nat) (perm : List Nat) (B S : Sto) (vs : List PV) : Out PV := match permF perm vs with
  | some ws => (F B (.obj (B.length + S.length) :: ws) (S ++ [.ins c []])).bind fun v S' => match v with
    | .non => .ok (.obj (B.length + S.length)) S'
    | _ => .fail
  | none => .fail
theorem makeO_sp {μ : Mu} {H : Hp} {B S : Sto} {c : Nat} {vs : List PV} {xs : List V} {Q : VK} (hC : L.ca c = C) (o : OutOk L E μ H B (makeO F c perm B S vs) (fun r _ μ' H' => ∀ v, RelP L μ' H' r v → Q v H')) (rs : RelS L μ H (B ++ S)) (hl : RelL L μ H vs xs) {x dx : Addr} (hx : H x = none) (hdx : H dx = none) (hne : dx ≠ x) :
    spF L F (.ref x :: reorder perm xs) (upd (upd H dx (.own x)) x (.ins C dx [])) (fun v H2 => v = .non ∧ Q (.ref x) H2) E := by
  unfold makeO at o
  cases e : permF perm vs with
  | none => rw [e] at o; exact False.elim o
  | some ws =>
    rw [e] at o
    have h := (permF_eq e).1
    have o : OutOk L E μ H B ((F B (.obj (B.length + S.length) :: ws) (S ++ [.ins c []])).bind fun v S' => match v with
      | .non => .ok (.obj (B.length + S.length)) S'
      | _ => .fail) (fun r _ μ' H' => ∀ v, RelP L μ' H' r v → Q v H') := o
    have e1 : Ext μ H μ (upd H dx (.own x)) := Ext.laid rs hdx
    have rs1 : RelS L μ (upd H dx (.own x)) (B ++ S) := rs.laid hdx
    have hx1 : (upd H dx (.own x)) x = none := by rw [upd_ne (Ne.symm hne)]; exact hx
    have e2 : Ext μ (upd H dx (.own x)) (μ.push (B ++ S).length x) (upd (upd H dx (.own x)) x (.ins C dx [])) := Ext.push rs1 hx1
    have rs2 : RelS L (μ.push (B ++ S).length x) (upd (upd H dx (.own x)) x (.ins C dx [])) (B ++ S ++ [.ins c []]) := rs1.push hx1 ⟨dx, [], by rw [upd_same, hC], rfl⟩
    have e3 := e1.trans e2
    rw [List.append_assoc] at rs2
    refine ⟨_, B, S ++ [.ins c []], .obj (B.length + S.length) :: ws, rs2, ⟨.ref x, _, rfl, ⟨x, rfl, push_at⟩, by rw [h]; exact RelL.mono e3 _ _ hl.reorder⟩, (OutOk.shift e3 o.bind).imp2 fun r S3 μ3 H3 q3 e4 rs3 o3 v hv => ?_⟩
    cases r with
    | non => exact ⟨hv, OutOk.now o3 rs3 (.ref x) ⟨x, rfl, e4.sub _ _ push_at⟩⟩
    | _ => exact False.elim o3
/-- C(..) -/
theorem e_new {c : Nat} (hC : L.ca c = C) (M : Mk X.K C fa) (hF : FnO X.prog X.w X.K X.mg X.base CX k fa fd ps (spF L F)) (hr : Rm (k + 1) X.A) (hx : Passes CX X E) (par : Par fd ps) (hg : Gl X x) (hm : X.mg x = some (.ref C)) (hdb : (x == ("__debug__" : Str)) = false)
    (hst : noStar args = true) (hkn : kwNames kws = some ks) (hb : bindOk ps (args.length + 1) ks (selfP perm) = true) (ha : PA X args (tA L E f1)) (hn : args = [] → ∀ B ρ S, f1 B ρ S = .ok [] S) (m1 : Many f1 args.length) (hkw : PK X kws (tA L E f2)) (m2 : Many f2 kws.length) :
    PE X (.Call (.Name x p) args kws pos) (tE L E fun B ρ S => (f1 B ρ S).bind fun vs S => (f2 B ρ S).bind fun zs S => makeO F c perm B S (vs ++ zs)) := by
  refine ⟨fun pins s σ H Q I h => ?_⟩
  obtain ⟨μ, B, ρ, S, rs, rl, o⟩ := h
  refine wpAny_Call_Name_kw (ld_glob I hg hm ?_ hdb)
  obtain ⟨_, _, _, kl⟩ := kw_facts (pos := pos) (env := X.env) hkn
  refine args_call M.kp I hst hkn ha (fun e σ H Q => a_nil_now (hn e) σ H Q) hkw ⟨μ, B, ρ, S, rs, rl, o.bind.imp2 fun vs S1 μ1 H1 q1 e1 rs1 o1 xs hv => ⟨μ1, B, ρ, S1, rs1, rl.mono e1, o1.bind.imp2 fun zs S2 μ2 H2 q2 e2 rs2 o2 ys hz => ?_⟩⟩
  intro s2 us ws I2 r rz
  have l1 : us.length = args.length := by rw [← r.length, ← hv.length, m1 _ _ _ _ _ q1]
  have l2 : ws.length = ks.length := by rw [← rz.length, ← hz.length, m2 _ _ _ _ _ q2, kl]
  exact run_makeO M hF hr hx par (by show bindOk ps (us.length + 1) ks (selfP perm) = true; rw [l1]; exact hb) I2 r rz l2 fun a dx h1 h2 h3 => makeO_sp hC o2 rs2 ((RelL.mono e2 vs xs hv).append hz) h1 h2 h3
end
end RV
end
section
/-! RVG: calls that see what they are handed alone. -/
namespace RV
open PySem PySem.Spec PyProof.Rows L2
section
variable {L : Pl} {μ ν : Mu} {H : Hp}
/-! ### without objects -/
mutual
theorem RelP.sub (k : ∀ a, μ.Out a → ν.Out a) : ∀ (p : PV) (v : V), below 0 p = true → RelP L μ H p v → RelP L ν H p v
  | .non, _, _, h => h
  | .bl _, _, _, h => h
  | .int _, _, _, h => h
  | .str _, _, _, h => h
  | .tup xs, _, b, h => by
    obtain ⟨a, ys, h1, h2, h3⟩ := h
    exact ⟨a, ys, h1, h2, RelL.sub k xs ys b h3⟩
  | .lst xs, _, b, h => by
    obtain ⟨a, ys, h1, h2, h3, h4⟩ := h
    exact ⟨a, ys, h1, h2, k a h3, RelL.sub k xs ys b h4⟩
  | .scr xs, _, b, h => by
    obtain ⟨a, ys, h1, h2, h3⟩ := h
    exact ⟨a, ys, h1, h2, RelL.sub k xs ys b h3⟩
  | .obj n, _, b, h => absurd (Nat.le_of_ble_eq_true (show Nat.ble (n + 1) 0 = true from b)) (Nat.not_succ_le_zero n)
theorem RelL.sub (k : ∀ a, μ.Out a → ν.Out a) : ∀ (xs : List PV) (ys : List V), belowL 0 xs = true → RelL L μ H xs ys → RelL L ν H xs ys
  | [], _, _, h => h
  | x :: xs, _, b, h => by
    obtain ⟨y, r, h1, h2, h3⟩ := h
    have b : (RV.below 0 x && belowL 0 xs) = true := b
    rw [Bool.and_eq_true] at b
    exact ⟨y, r, h1, RelP.sub k x y b.1 h2, RelL.sub k xs r b.2 h3⟩
end
theorem RelF.sub (k : ∀ a, μ.Out a → ν.Out a) : ∀ (fs : List (Nat × PV)) (gs : List (Str × V)), belowF 0 fs = true → RelF L μ H fs gs → RelF L ν H fs gs
  | [], _, _, h => h
  | (f, p) :: fs, _, b, h => by
    obtain ⟨v, r, h1, h2, h3, h4⟩ := h
    have b : (RV.below 0 p && belowF 0 fs) = true := b
    rw [Bool.and_eq_true] at b
    exact ⟨v, r, h1, h2, RelP.sub k p v b.1 h3, RelF.sub k fs r b.2 h4⟩
theorem RelD.sub (k : ∀ a, μ.Out a → ν.Out a) : ∀ (fs : List (PV × PV)) (gs : List (NestedKey × Addr × Value)), belowD 0 fs = true → RelD L μ H fs gs → RelD L ν H fs gs
  | [], _, _, h => h
  | (q, p) :: fs, _, b, h => by
    obtain ⟨c, v, u, r, h1, h2, h3, h4, h5, h6⟩ := h
    have b : (RV.below 0 q && RV.below 0 p && belowD 0 fs) = true := b
    rw [Bool.and_eq_true, Bool.and_eq_true] at b
    exact ⟨c, v, u, r, h1, h2, RelP.sub k q _ b.1.1 h3, RelP.sub k p v b.1.2 h4, h5, RelD.sub k fs r b.2 h6⟩
theorem RelK.sub (k : ∀ a, μ.Out a → ν.Out a) : ∀ (fs : List (PV × PV)) (gs : List (Key × V)), belowK 0 fs = true → RelK L μ H fs gs → RelK L ν H fs gs
  | [], _, _, h => h
  | (q, p) :: fs, _, b, h => by
    obtain ⟨v, r, h1, h2, h3, h4⟩ := h
    have b : (RV.below 0 p && belowK 0 fs) = true := b
    rw [Bool.and_eq_true] at b
    exact ⟨v, r, h1, h2, RelP.sub k p v b.1 h3, RelK.sub k fs r b.2 h4⟩
theorem RelO.sub (k : ∀ a, μ.Out a → ν.Out a) {so : SO} {a : Addr} (b : belowO 0 so = true) (h : RelO L μ H so a) : RelO L ν H so a := by
  cases so with
  | lst xs => obtain ⟨ys, h1, h2⟩ := h; exact ⟨ys, h1, RelL.sub k xs ys b h2⟩
  | ins c fs => obtain ⟨dx, gs, h1, h2⟩ := h; exact ⟨dx, gs, h1, RelF.sub k fs gs b h2⟩
  | dct kvs => obtain ⟨xs, h1, h2, h3, h4⟩ := h; exact ⟨xs, h1, h2, h3, RelD.sub k kvs xs b h4⟩
  | dlf kvs => obtain ⟨gs, h1, h2, h3⟩ := h; exact ⟨gs, h1, h2, RelK.sub k kvs gs b h3⟩
/-! ### the objects chosen -/
def Mu.sel (μ : Mu) (s : List Nat) : Mu := ⟨fun i => (s[i]?).bind μ.ob, fun a => μ.hd a ∨ ∃ n, μ n = some a ∧ n ∉ s⟩
theorem sel_some {s : List Nat} {i : Nat} {a : Addr} (h : (μ.sel s) i = some a) : ∃ n, s[i]? = some n ∧ μ n = some a := by
  have h : (s[i]?).bind μ.ob = some a := h
  cases q : s[i]? with
  | none => rw [q] at h; cases h
  | some n => rw [q] at h; exact ⟨n, rfl, h⟩
theorem sel_out {s : List Nat} {a : Addr} (h : μ.Out a) : (μ.sel s).Out a := by
  refine ⟨fun i e => ?_, fun z => ?_⟩
  · obtain ⟨n, _, e2⟩ := sel_some e
    exact h.1 n e2
  · rcases z with z | ⟨n, z, _⟩
    · exact h.2 z
    · exact h.1 n z
/-- the chosen part of a store -/
theorem RelS.sel {T T' : Sto} {s : List Nat} (rs : RelS L μ H T) (nd : s.Nodup) (hl : T'.length = s.length) (ht : ∀ (i n : Nat) (o : SO), s[i]? = some n → T'[i]? = some o → T[n]? = some o) (hb : ∀ o ∈ T', belowO 0 o = true) : RelS L (μ.sel s) H T' where
  obj := fun i o e => by
    have hi : i < s.length := by rw [← hl]; exact (List.getElem?_eq_some_iff.mp e).1
    have e1 : s[i]? = some s[i] := List.getElem?_eq_getElem hi
    obtain ⟨a, h1, h2⟩ := rs.obj _ _ (ht i _ o e1 e)
    refine ⟨a, ?_, h2.sub (fun b => sel_out) (hb o (List.mem_of_getElem? e))⟩
    show (s[i]?).bind μ.ob = some a
    rw [e1]
    exact h1
  inj := fun i j a h1 h2 => by
    obtain ⟨n, e1, e2⟩ := sel_some h1
    obtain ⟨m, e3, e4⟩ := sel_some h2
    have : n = m := rs.inj n m a e2 e4
    subst this
    exact (List.getElem?_inj (List.getElem?_eq_some_iff.mp e1).1 nd).mp (e1.trans e3.symm)
  dom := fun i a h => by
    obtain ⟨n, e1, _⟩ := sel_some h
    rw [hl]
    exact (List.getElem?_eq_some_iff.mp e1).1
  hid := fun a h => by
    rcases h with h | ⟨n, h, hn⟩
    · refine ⟨(rs.hid a h).1, fun i e => ?_⟩
      obtain ⟨n, _, e2⟩ := sel_some e
      exact (rs.hid a h).2 n e2
    · obtain ⟨o, eo⟩ : ∃ o, T[n]? = some o := ⟨_, List.getElem?_eq_getElem (rs.dom n a h)⟩
      obtain ⟨a', h1, h2⟩ := rs.obj n o eo
      rw [h] at h1
      cases h1
      refine ⟨?_, fun i e => ?_⟩
      · obtain ⟨u, hu⟩ := h2.tracked
        rw [hu]
        exact fun z => nomatch z
      · obtain ⟨m, e1, e2⟩ := sel_some e
        have := rs.inj n m a h e2
        subst this
        exact hn (List.mem_of_getElem? e1)
  tab := rs.tab.mono fun b u e k => ⟨e, sel_out k⟩
/-- .. and back: the whole store behind what was done to the chosen part -/
def Mu.back (μ μ2 : Mu) : Mu := ⟨μ.ob, fun a => μ2.hd a ∧ ∀ n, μ n ≠ some a⟩
section
variable {T T2 T3 S' : Sto} {s : List Nat} {μ2 : Mu} {H2 : Hp}
theorem back_out (e : Ext (μ.sel s) H μ2 H2) {a : Addr} (h : μ2.Out a) : (μ.back μ2).Out a := by
  refine ⟨fun n z => ?_, fun z => h.2 z.1⟩
  have z : μ n = some a := z
  by_cases hn : n ∈ s
  · obtain ⟨i, hi⟩ := List.mem_iff_getElem?.mp hn
    refine h.1 i (e.sub i a ?_)
    show (s[i]?).bind μ.ob = some a
    rw [hi]
    exact z
  · exact h.2 (e.hd1 a (.inr ⟨n, z, hn⟩))
theorem Ext.back (rs : RelS L μ H T) (e : Ext (μ.sel s) H μ2 H2) : Ext μ H (μ.back μ2) H2 where
  sub := fun n a h => h
  keep := fun a o h hn nt => e.keep a o h (fun i z => by
    obtain ⟨n, _, e2⟩ := sel_some z
    exact hn n e2) nt
  tups := e.tups
  frzs := e.frzs
  there := e.there
  new := fun n a h => .inl h
  hd1 := fun a h => ⟨e.hd1 a (.inl h), (rs.hid a h).2⟩
  hd2 := fun a h => by
    rcases e.hd2 a h.1 with (z | ⟨n, z, _⟩) | z
    · exact .inl z
    · exact absurd z (h.2 n)
    · exact .inr z
theorem RelS.back (rs : RelS L μ H T) (e : Ext (μ.sel s) H μ2 H2) (rs2 : RelS L μ2 H2 (T2 ++ S')) (hl : T2.length = s.length) (hb : ∀ o ∈ T2, belowO 0 o = true) (h3 : T3.length = T.length)
    (ht : ∀ (n : Nat) (o : SO), T3[n]? = some o → (∃ i : Nat, s[i]? = some n ∧ T2[i]? = some o) ∨ (n ∉ s ∧ T[n]? = some o)) : RelS L (μ.back μ2) H2 T3 where
  obj := fun n o h => by
    rcases ht n o h with ⟨i, e1, e2⟩ | ⟨hn, e1⟩
    · have hi : i < T2.length := (List.getElem?_eq_some_iff.mp e2).1
      obtain ⟨a, h1, h2⟩ := rs2.obj i o (by rw [List.getElem?_append_left hi]; exact e2)
      obtain ⟨o', eo⟩ : ∃ o', T[n]? = some o' := ⟨_, List.getElem?_eq_getElem (by rw [← h3]; exact (List.getElem?_eq_some_iff.mp h).1)⟩
      obtain ⟨a', g1, g2⟩ := rs.obj n o' eo
      have : μ2 i = some a' := e.sub i a' (by show (s[i]?).bind μ.ob = some a'; rw [e1]; exact g1)
      rw [h1] at this
      cases this
      exact ⟨a, g1, h2.sub (fun b => back_out e) (hb o (List.mem_of_getElem? e2))⟩
    · obtain ⟨a, g1, g2⟩ := rs.obj n o e1
      refine ⟨a, g1, RelO.mono (Ext.back rs e) g2 ?_⟩
      obtain ⟨u, hu⟩ := g2.tracked
      rw [hu]
      refine e.keep a u hu (fun i z => ?_) (g2.ntb hu)
      obtain ⟨m, z1, z2⟩ := sel_some z
      have := rs.inj n m a g1 z2
      subst this
      exact hn (List.mem_of_getElem? z1)
  inj := rs.inj
  dom := fun n a h => by rw [h3]; exact rs.dom n a h
  hid := fun a h => ⟨(rs2.hid a h.1).1, h.2⟩
  tab := rs2.tab.mono fun b u z k => ⟨z, back_out e k⟩
end
/-! ### what is chosen -/
theorem idxN_none {n : Nat} : ∀ {l : List Nat} {i : Nat}, idxN n l i = none → n ∉ l
  | [], _, _ => by simp
  | m :: r, i, h => by
    have h : (match Nat.beq m n with
      | true => some i
      | false => idxN n r (i + 1)) = none := h
    cases q : Nat.beq m n with
    | true => rw [q] at h; cases h
    | false =>
      rw [q] at h
      intro z
      rcases List.mem_cons.mp z with z | z
      · rw [z, Nat.beq_refl] at q; cases q
      · exact idxN_none h z
theorem idxN_some {n : Nat} : ∀ {l : List Nat} {i j : Nat}, idxN n l i = some j → ∃ k, j = i + k ∧ l[k]? = some n
  | [], _, _, h => by cases h
  | m :: r, i, j, h => by
    have h : (match Nat.beq m n with
      | true => some i
      | false => idxN n r (i + 1)) = some j := h
    cases q : Nat.beq m n with
    | true =>
      rw [q] at h
      cases h
      exact ⟨0, rfl, by rw [Nat.eq_of_beq_eq_true q]; rfl⟩
    | false =>
      rw [q] at h
      obtain ⟨k, h1, h2⟩ := idxN_some h
      exact ⟨k + 1, by omega, h2⟩
theorem selA_ok {T : Sto} : ∀ {vs ws : List PV} {acc s : List Nat}, selA T vs acc = some (ws, s) → acc.Nodup → (∀ n ∈ acc, ∃ o, T[n]? = some o ∧ belowO 0 o = true) →
    (∃ r, s = acc ++ r) ∧ s.Nodup ∧ (∀ n ∈ s, ∃ o, T[n]? = some o ∧ belowO 0 o = true) ∧ ∀ xs, RelL L μ H vs xs → RelL L (μ.sel s) H ws xs
  | [], ws, acc, s, h, nd, hb => by
    have h : some (([] : List PV), acc) = some (ws, s) := h
    cases h
    exact ⟨⟨[], (List.append_nil _).symm⟩, nd, hb, fun xs hx => hx⟩
  | v :: r, ws, acc, s, h, nd, hb => by
    have dat : ∀ (ob : ∀ n, v ≠ .obj n), (match below 0 v with
        | true => (selA T r acc).map fun p => (v :: p.1, p.2)
        | false => none) = some (ws, s) → (∃ r, s = acc ++ r) ∧ s.Nodup ∧ (∀ n ∈ s, ∃ o, T[n]? = some o ∧ belowO 0 o = true) ∧ ∀ xs, RelL L μ H (v :: r) xs → RelL L (μ.sel s) H ws xs := fun ob h => by
      cases q : below 0 v with
      | false => rw [q] at h; cases h
      | true =>
        rw [q] at h
        have h : ((selA T r acc).map fun p => (v :: p.1, p.2)) = some (ws, s) := h
        cases q2 : selA T r acc with
        | none => rw [q2] at h; cases h
        | some p =>
          obtain ⟨p1, p2⟩ := p
          rw [q2] at h
          have h : some (v :: p1, p2) = some (ws, s) := h
          cases h
          obtain ⟨g1, g2, g3, g4⟩ := selA_ok q2 nd hb
          refine ⟨g1, g2, g3, fun xs hx => ?_⟩
          obtain ⟨y, z, e1, e2, e3⟩ := hx
          exact ⟨y, z, e1, RelP.sub (fun a => sel_out) v y q e2, g4 z e3⟩
    cases v with
    | obj n =>
      have h : (match idxN n acc 0 with
        | some i => (selA T r acc).map fun p => (PV.obj i :: p.1, p.2)
        | none => match T[n]? with
          | some o => match belowO 0 o with
            | true => (selA T r (acc ++ [n])).map fun p => (PV.obj acc.length :: p.1, p.2)
            | false => none
          | none => none) = some (ws, s) := h
      cases q : idxN n acc 0 with
      | some i =>
        rw [q] at h
        have h : ((selA T r acc).map fun p => (PV.obj i :: p.1, p.2)) = some (ws, s) := h
        cases q2 : selA T r acc with
        | none => rw [q2] at h; cases h
        | some p =>
          obtain ⟨p1, p2⟩ := p
          rw [q2] at h
          have h : some (PV.obj i :: p1, p2) = some (ws, s) := h
          cases h
          obtain ⟨⟨r', g1⟩, g2, g3, g4⟩ := selA_ok q2 nd hb
          refine ⟨⟨r', g1⟩, g2, g3, fun xs hx => ?_⟩
          obtain ⟨y, z, e1, ⟨a, e2, e2'⟩, e3⟩ := hx
          refine ⟨y, z, e1, ⟨a, e2, ?_⟩, g4 z e3⟩
          obtain ⟨k, k1, k2⟩ := idxN_some q
          have k1 : i = k := by omega
          subst k1
          show (s[i]?).bind μ.ob = some a
          rw [g1, List.getElem?_append_left (List.getElem?_eq_some_iff.mp k2).1, k2]
          exact e2'
      | none =>
        rw [q] at h
        have h : (match T[n]? with
          | some o => match belowO 0 o with
            | true => (selA T r (acc ++ [n])).map fun p => (PV.obj acc.length :: p.1, p.2)
            | false => none
          | none => none) = some (ws, s) := h
        cases q3 : T[n]? with
        | none => rw [q3] at h; cases h
        | some o =>
          rw [q3] at h
          have h : (match belowO 0 o with
            | true => (selA T r (acc ++ [n])).map fun p => (PV.obj acc.length :: p.1, p.2)
            | false => none) = some (ws, s) := h
          cases q4 : belowO 0 o with
          | false => rw [q4] at h; cases h
          | true =>
            rw [q4] at h
            have h : ((selA T r (acc ++ [n])).map fun p => (PV.obj acc.length :: p.1, p.2)) = some (ws, s) := h
            cases q2 : selA T r (acc ++ [n]) with
            | none => rw [q2] at h; cases h
            | some p =>
              obtain ⟨p1, p2⟩ := p
              rw [q2] at h
              have h : some (PV.obj acc.length :: p1, p2) = some (ws, s) := h
              cases h
              have nn := idxN_none q
              obtain ⟨⟨r', g1⟩, g2, g3, g4⟩ := selA_ok q2 (by
                rw [List.nodup_append]
                refine ⟨nd, by simp, fun a ha b hb' => ?_⟩
                rw [List.mem_singleton.mp hb']
                exact fun z => nn (by rw [← z]; exact ha)) (fun m hm => by
                rcases List.mem_append.mp hm with hm | hm
                · exact hb m hm
                · rw [List.mem_singleton.mp hm]; exact ⟨o, q3, q4⟩)
              refine ⟨⟨n :: r', by rw [g1, List.append_assoc]; rfl⟩, g2, g3, fun xs hx => ?_⟩
              obtain ⟨y, z, e1, ⟨a, e2, e2'⟩, e3⟩ := hx
              refine ⟨y, z, e1, ⟨a, e2, ?_⟩, g4 z e3⟩
              show (s[acc.length]?).bind μ.ob = some a
              rw [g1, List.append_assoc, List.getElem?_append_right (Nat.le_refl _), Nat.sub_self]
              exact e2'
    | non => exact dat (fun n z => nomatch z) h
    | bl _ => exact dat (fun n z => nomatch z) h
    | int _ => exact dat (fun n z => nomatch z) h
    | str _ => exact dat (fun n z => nomatch z) h
    | tup _ => exact dat (fun n z => nomatch z) h
    | lst _ => exact dat (fun n z => nomatch z) h
    | scr _ => exact dat (fun n z => nomatch z) h
theorem pickT_ok {T : Sto} : ∀ {s : List Nat} {T' : Sto}, pickT T s = some T' → T'.length = s.length ∧ ∀ (i n : Nat), s[i]? = some n → ∃ o, T'[i]? = some o ∧ T[n]? = some o
  | [], T', h => by
    have h : some ([] : Sto) = some T' := h
    cases h
    exact ⟨rfl, fun i n e => by cases e⟩
  | n :: r, T', h => by
    have h : (match T[n]? with
      | some o => (pickT T r).map (o :: ·)
      | none => none) = some T' := h
    cases q : T[n]? with
    | none => rw [q] at h; cases h
    | some o =>
      rw [q] at h
      have h : (pickT T r).map (o :: ·) = some T' := h
      cases q2 : pickT T r with
      | none => rw [q2] at h; cases h
      | some T1 =>
        rw [q2] at h
        have h : some (o :: T1) = some T' := h
        cases h
        obtain ⟨g1, g2⟩ := pickT_ok q2
        refine ⟨by simp [g1], fun i m e => ?_⟩
        cases i with
        | zero =>
          have e : some n = some m := e
          cases e
          exact ⟨o, rfl, q⟩
        | succ i => exact g2 i m e
variable {E : XK} {B S : Sto}
/-- the callee's store -/
theorem sel_rel {T T' : Sto} {vs ws : List PV} {xs : List V} {s : List Nat} (rs : RelS L μ H T) (q1 : selA T vs [] = some (ws, s)) (q2 : pickT T s = some T') (hl : RelL L μ H vs xs) :
    RelS L (μ.sel s) H T' ∧ RelL L (μ.sel s) H ws xs ∧ s.Nodup ∧ T'.length = s.length ∧ (∀ o ∈ T', belowO 0 o = true) ∧ ∀ (i n : Nat), s[i]? = some n → T'[i]? = T[n]? := by
  obtain ⟨_, nd, hb, hr⟩ := selA_ok (L := L) (μ := μ) (H := H) q1 .nil (fun n hn => by cases hn)
  obtain ⟨l1, l2⟩ := pickT_ok q2
  have at_ : ∀ (i n : Nat), s[i]? = some n → T'[i]? = T[n]? := fun i n e => by
    obtain ⟨o, e1, e2⟩ := l2 i n e
    rw [e1, e2]
  have hb' : ∀ o ∈ T', belowO 0 o = true := fun o ho => by
    obtain ⟨i, hi⟩ := List.mem_iff_getElem?.mp ho
    have hlt : i < s.length := by rw [← l1]; exact (List.getElem?_eq_some_iff.mp hi).1
    obtain ⟨o', e1, e2⟩ := l2 i _ (List.getElem?_eq_getElem hlt)
    rw [hi] at e1
    cases e1
    obtain ⟨o2, g1, g2⟩ := hb _ (List.getElem_mem hlt)
    rw [e2] at g1
    cases g1
    exact g2
  exact ⟨rs.sel nd l1 (fun i n o e1 e2 => by rw [← at_ i n e1]; exact e2) hb', hr xs hl, nd, l1, hb', at_⟩
theorem sp_gc {F : DefF} {vs : List V} {Q : VK} (h : spF L (gcD F) vs H Q E) : spF L F vs H Q E := by
  obtain ⟨μ, B, S, ps, rs, hl, o⟩ := h
  have o : OutOk L E μ H B (match selA (B ++ S) ps [] with
    | some (ws, sel) => match pickT (B ++ S) sel with
      | some T => gcEnd S (F T ws [])
      | none => .fail
    | none => .fail) (fun p _ μ' H' => ∀ v, RelP L μ' H' p v → Q v H') := o
  cases q1 : selA (B ++ S) ps [] with
  | none => rw [q1] at o; exact False.elim o
  | some z =>
    obtain ⟨ws, s⟩ := z
    rw [q1] at o
    have o : OutOk L E μ H B (match pickT (B ++ S) s with
      | some T => gcEnd S (F T ws [])
      | none => .fail) (fun p _ μ' H' => ∀ v, RelP L μ' H' p v → Q v H') := o
    cases q2 : pickT (B ++ S) s with
    | none => rw [q2] at o; exact False.elim o
    | some T' =>
      rw [q2] at o
      have o : OutOk L E μ H B (gcEnd S (F T' ws [])) (fun p _ μ' H' => ∀ v, RelP L μ' H' p v → Q v H') := o
      obtain ⟨r1, r2, nd, l1, hb, at_⟩ := sel_rel rs q1 q2 hl
      have back : ∀ {μ2 H2 S'}, Ext (μ.sel s) H μ2 H2 → RelS L μ2 H2 (T' ++ S') → RelS L (μ.back μ2) H2 (B ++ S) := fun e rs2 => RelS.back rs e rs2 l1 hb rfl fun n o hn => by
        by_cases hm : n ∈ s
        · obtain ⟨i, hi⟩ := List.mem_iff_getElem?.mp hm
          exact .inl ⟨i, hi, by rw [at_ i n hi]; exact hn⟩
        · exact .inr ⟨hm, hn⟩
      refine ⟨μ.sel s, T', [], ws, by rw [List.append_nil]; exact r1, r2, ?_⟩
      cases q3 : F T' ws [] with
      | fail => rw [q3] at o; exact False.elim o
      | ok v S' =>
        rw [q3] at o
        have o : OutOk L E μ H B (match below 0 v with
          | true => .ok v S
          | false => .fail) (fun p _ μ' H' => ∀ v, RelP L μ' H' p v → Q v H') := o
        cases q4 : below 0 v with
        | false => rw [q4] at o; exact False.elim o
        | true =>
          rw [q4] at o
          intro μ2 H2 e rs2 x hx
          exact o (μ.back μ2) H2 (Ext.back rs e) (back e rs2) x (RelP.sub (fun a => back_out e) v x q4 hx)
      | exc c v S' =>
        rw [q3] at o
        have o : OutOk L E μ H B (match below 0 v with
          | true => .exc c v S
          | false => .fail) (fun p _ μ' H' => ∀ v, RelP L μ' H' p v → Q v H') := o
        cases q4 : below 0 v with
        | false => rw [q4] at o; exact False.elim o
        | true =>
          rw [q4] at o
          intro μ2 H2 d x e rs2 hx hd
          exact o (μ.back μ2) H2 d x (Ext.back rs e) (back e rs2) (RelP.sub (fun a => back_out e) v x q4 hx) hd
theorem gcSt_some {n : Nat} {S1 S' : Sto} (h : gcSt B S n S1 = some S') : ∃ so, S1 = [so] ∧ belowO 0 so = true ∧ setS B S n so = some S' := by
  rcases S1 with _ | ⟨so, _ | ⟨s2, r⟩⟩
  · cases h
  · have h : (match belowO 0 so with
      | true => setS B S n so
      | false => none) = some S' := h
    cases q : belowO 0 so with
    | false => rw [q] at h; cases h
    | true => rw [q] at h; exact ⟨so, rfl, q, h⟩
  · cases h
theorem sel_re {s : List Nat} {n : Nat} : ReOk (μ.sel s) (μ.sel (s ++ [n])) where
  sub := fun i a h => by
    obtain ⟨m, e1, e2⟩ := sel_some h
    show ((s ++ [n])[i]?).bind μ.ob = some a
    rw [List.getElem?_append_left (List.getElem?_eq_some_iff.mp e1).1, e1]
    exact e2
  out := fun a h => by
    refine ⟨fun i z => ?_, fun z => ?_⟩
    · obtain ⟨m, e1, e2⟩ := sel_some z
      by_cases hm : m ∈ s
      · obtain ⟨j, hj⟩ := List.mem_iff_getElem?.mp hm
        exact h.1 j (by show (s[j]?).bind μ.ob = some a; rw [hj]; exact e2)
      · exact h.2 (.inr ⟨m, e2, hm⟩)
    · rcases z with z | ⟨m, e2, hm⟩
      · exact h.2 (.inl z)
      · exact h.2 (.inr ⟨m, e2, fun z => hm (List.mem_append_left _ z)⟩)
theorem sp_gcI {F : DefF} {vs : List V} {Q : VK} (h : spF L (gcI F) vs H Q E) : spF L F vs H Q E := by
  obtain ⟨μ, B, S, ps, rs, hl, o⟩ := h
  rcases ps with _ | ⟨p, ps⟩
  · exact False.elim o
  cases p with
  | obj n =>
    have o : OutOk L E μ H B (match (B ++ S)[n]? with
      | some o => match belowO 0 o with
        | true => match selA (B ++ S) ps [] with
          | some (ws, sel) => match idxN n sel 0 with
            | none => match pickT (B ++ S) sel with
              | some T => gcIe B S n (F T (.obj T.length :: ws) [o])
              | none => .fail
            | some _ => .fail
          | none => .fail
        | false => .fail
      | none => .fail) (fun p _ μ' H' => ∀ v, RelP L μ' H' p v → Q v H') := o
    cases q0 : (B ++ S)[n]? with
    | none => rw [q0] at o; exact False.elim o
    | some o0 =>
      rw [q0] at o
      have o : OutOk L E μ H B (match belowO 0 o0 with
        | true => match selA (B ++ S) ps [] with
          | some (ws, sel) => match idxN n sel 0 with
            | none => match pickT (B ++ S) sel with
              | some T => gcIe B S n (F T (.obj T.length :: ws) [o0])
              | none => .fail
            | some _ => .fail
          | none => .fail
        | false => .fail) (fun p _ μ' H' => ∀ v, RelP L μ' H' p v → Q v H') := o
      cases qb : belowO 0 o0 with
      | false => rw [qb] at o; exact False.elim o
      | true =>
        rw [qb] at o
        have o : OutOk L E μ H B (match selA (B ++ S) ps [] with
          | some (ws, sel) => match idxN n sel 0 with
            | none => match pickT (B ++ S) sel with
              | some T => gcIe B S n (F T (.obj T.length :: ws) [o0])
              | none => .fail
            | some _ => .fail
          | none => .fail) (fun p _ μ' H' => ∀ v, RelP L μ' H' p v → Q v H') := o
        cases q1 : selA (B ++ S) ps [] with
        | none => rw [q1] at o; exact False.elim o
        | some z =>
          obtain ⟨ws, s⟩ := z
          rw [q1] at o
          have o : OutOk L E μ H B (match idxN n s 0 with
            | none => match pickT (B ++ S) s with
              | some T => gcIe B S n (F T (.obj T.length :: ws) [o0])
              | none => .fail
            | some _ => .fail) (fun p _ μ' H' => ∀ v, RelP L μ' H' p v → Q v H') := o
          cases qi : idxN n s 0 with
          | some j => rw [qi] at o; exact False.elim o
          | none =>
            rw [qi] at o
            have o : OutOk L E μ H B (match pickT (B ++ S) s with
              | some T => gcIe B S n (F T (.obj T.length :: ws) [o0])
              | none => .fail) (fun p _ μ' H' => ∀ v, RelP L μ' H' p v → Q v H') := o
            cases q2 : pickT (B ++ S) s with
            | none => rw [q2] at o; exact False.elim o
            | some T' =>
              rw [q2] at o
              have o : OutOk L E μ H B (gcIe B S n (F T' (.obj T'.length :: ws) [o0])) (fun p _ μ' H' => ∀ v, RelP L μ' H' p v → Q v H') := o
              obtain ⟨y, r, ev, ⟨a, ea, ma⟩, hl⟩ := hl
              subst ev ea
              obtain ⟨r1, r2, nd, l1, hb, at_⟩ := sel_rel rs q1 q2 hl
              have hns := idxN_none qi
              have nd' : (s ++ [n]).Nodup := by
                rw [List.nodup_append]
                refine ⟨nd, by simp, fun a ha b hb' => ?_⟩
                rw [List.mem_singleton.mp hb']
                exact fun z => hns (by rw [← z]; exact ha)
              have last : ∀ {x : Nat}, (s ++ [x])[s.length]? = some x := fun {x} => by rw [List.getElem?_append_right (Nat.le_refl _), Nat.sub_self]; rfl
              have lastT : ∀ {x : SO}, (T' ++ [x])[s.length]? = some x := fun {x} => by rw [← l1, List.getElem?_append_right (Nat.le_refl _), Nat.sub_self]; rfl
              have cas : ∀ (i m : Nat), (s ++ [n])[i]? = some m → (i < s.length ∧ s[i]? = some m) ∨ (i = s.length ∧ m = n) := fun i m e => by
                rcases Nat.lt_or_ge i s.length with hi | hi
                · rw [List.getElem?_append_left hi] at e
                  exact .inl ⟨hi, e⟩
                · have hi2 := (List.getElem?_eq_some_iff.mp e).1
                  rw [List.length_append] at hi2
                  have hi2 : i < s.length + 1 := hi2
                  have : i = s.length := by omega
                  subst this
                  rw [last] at e
                  cases e
                  exact .inr ⟨rfl, rfl⟩
              have rsS : RelS L (μ.sel (s ++ [n])) H (T' ++ [o0]) := rs.sel nd' (by simp [l1]) (fun i m o e1 e2 => by
                rcases cas i m e1 with ⟨hi, e⟩ | ⟨hi, e⟩
                · rw [List.getElem?_append_left (by rw [l1]; exact hi)] at e2
                  rw [← at_ i m e]
                  exact e2
                · subst hi e
                  rw [lastT] at e2
                  cases e2
                  exact q0) (fun o ho => by
                rcases List.mem_append.mp ho with ho | ho
                · exact hb o ho
                · rw [List.mem_singleton.mp ho]; exact qb)
              have back : ∀ {μ2 H2 so S'}, belowO 0 so = true → setS B S n so = some S' → Ext (μ.sel (s ++ [n])) H μ2 H2 → RelS L μ2 H2 (T' ++ [so]) → RelS L (μ.back μ2) H2 (B ++ S') := fun {μ2 H2 so S'} hso hset e rs2 => by
                obtain ⟨hn, eS⟩ := setS_some hset
                refine RelS.back (S' := []) (T2 := T' ++ [so]) rs e (by rw [List.append_nil]; exact rs2) (by simp [l1]) (fun o ho => ?_) (by rw [eS, List.length_set]) fun m o hm => ?_
                · rcases List.mem_append.mp ho with ho | ho
                  · exact hb o ho
                  · rw [List.mem_singleton.mp ho]; exact hso
                · rw [eS] at hm
                  by_cases hmn : m = n
                  · subst hmn
                    rw [List.getElem?_set_self hn] at hm
                    cases hm
                    exact .inl ⟨s.length, last, lastT⟩
                  · rw [List.getElem?_set_ne (Ne.symm hmn)] at hm
                    by_cases hms : m ∈ s
                    · obtain ⟨i, hi⟩ := List.mem_iff_getElem?.mp hms
                      have hil := (List.getElem?_eq_some_iff.mp hi).1
                      exact .inl ⟨i, by rw [List.getElem?_append_left hil]; exact hi, by rw [List.getElem?_append_left (by rw [l1]; exact hil), at_ i m hi]; exact hm⟩
                    · refine .inr ⟨fun z => ?_, hm⟩
                      rcases List.mem_append.mp z with z | z
                      · exact hms z
                      · exact hmn (List.mem_singleton.mp z)
              refine ⟨μ.sel (s ++ [n]), T', [o0], .obj T'.length :: ws, rsS, ⟨.ref a, r, rfl, ⟨a, rfl, ?_⟩, RelL.re sel_re _ _ r2⟩, ?_⟩
              · show ((s ++ [n])[T'.length]?).bind μ.ob = some a
                rw [l1, last]
                exact ma
              cases q3 : F T' (.obj T'.length :: ws) [o0] with
              | fail => rw [q3] at o; exact False.elim o
              | ok v S1 =>
                rw [q3] at o
                cases v with
                | non =>
                  have o : OutOk L E μ H B (match gcSt B S n S1 with
                    | some S' => .ok .non S'
                    | none => .fail) (fun p _ μ' H' => ∀ v, RelP L μ' H' p v → Q v H') := o
                  cases qs : gcSt B S n S1 with
                  | none => rw [qs] at o; exact False.elim o
                  | some S' =>
                    rw [qs] at o
                    have oo : OutOk L E μ H B (.ok .non S') (fun p _ μ' H' => ∀ v, RelP L μ' H' p v → Q v H') := o
                    clear o
                    obtain ⟨so, e1, e2, e3⟩ := gcSt_some qs
                    subst e1
                    intro μ2 H2 e rs2 x hx
                    exact oo (μ.back μ2) H2 (Ext.back rs e) (back e2 e3 e rs2) x hx
                | _ => exact False.elim o
              | exc c v S1 =>
                rw [q3] at o
                have o : OutOk L E μ H B (match below 0 v with
                  | true => match gcSt B S n S1 with
                    | some S' => .exc c v S'
                    | none => .fail
                  | false => .fail) (fun p _ μ' H' => ∀ v, RelP L μ' H' p v → Q v H') := o
                cases q4 : below 0 v with
                | false => rw [q4] at o; exact False.elim o
                | true =>
                  rw [q4] at o
                  have o : OutOk L E μ H B (match gcSt B S n S1 with
                    | some S' => .exc c v S'
                    | none => .fail) (fun p _ μ' H' => ∀ v, RelP L μ' H' p v → Q v H') := o
                  cases qs : gcSt B S n S1 with
                  | none => rw [qs] at o; exact False.elim o
                  | some S' =>
                    rw [qs] at o
                    have oo : OutOk L E μ H B (.exc c v S') (fun p _ μ' H' => ∀ v, RelP L μ' H' p v → Q v H') := o
                    clear o
                    obtain ⟨so, e1, e2, e3⟩ := gcSt_some qs
                    subst e1
                    intro μ2 H2 d x e rs2 hx hd
                    exact oo (μ.back μ2) H2 d x (Ext.back rs e) (back e2 e3 e rs2) (RelP.sub (fun a => back_out e) v x q4 hx) hd
  | _ => exact False.elim o
end
end RV
end
section
/-! RVLoop: loops by values; what an iterator gives. -/
namespace RV
open PySem PySem.Spec PyProof.Rows L2
/-! ### the plain side -/
def itemAt (B S : Sto) (src : PV) (i : Nat) : Option (Option PV) := match seqOf B S src with
  | some xs => some xs[i]?
  | none => none
/-- behind a turn -/
def afterT {α : Type} (halt : α → Bool) (k : α → Sto → Out α) : Out α → Out α
  | .ok a S => match halt a with
    | true => .ok a S
    | false => k a S
  | .exc c v S => .exc c v S
  | .fail => .fail
def stepG {α : Type} (halt : α → Bool) (turn : PV → α → Sto → Out α) (a : α) (S : Sto) (k : α → Sto → Out α) : Option (Option PV) → Out α
  | none => .fail
  | some none => .ok a S
  | some (some x) => afterT halt k (turn x a S)
def loopG {α : Type} (item : Nat → Sto → Option (Option PV)) (halt : α → Bool) (turn : PV → α → Sto → Out α) : Nat → Nat → α → Sto → Out α
  | 0, _, _, _ => .fail
  | k + 1, i, a, S => stepG halt turn a S (loopG item halt turn k (i + 1)) (item i S)
section
variable {α : Type} {B : Sto} {halt : α → Bool} {turn : PV → α → Sto → Out α}
theorem afterT_eq {k k' : α → Sto → Out α} (h : ∀ a S, k a S = k' a S) (o : Out α) : afterT halt k o = afterT halt k' o := by
  have : k = k' := funext fun a => funext fun S => h a S
  rw [this]
theorem loopV_cons (x : PV) (xs : List PV) (a : α) (S : Sto) : loopV halt turn (x :: xs) a S = afterT halt (loopV halt turn xs) (turn x a S) := by
  show (match turn x a S with
    | .ok a' S' => (match halt a' with
      | true => Out.ok a' S'
      | false => loopV halt turn xs a' S')
    | .exc c v S' => .exc c v S'
    | .fail => .fail) = _
  cases turn x a S with
  | ok a' S' => rfl
  | exc c v S' => rfl
  | fail => rfl
theorem loopV_G (xs : List PV) : ∀ (n i : Nat) (a : α) (S : Sto), xs.length = i + n → loopV halt turn (xs.drop i) a S = loopG (fun i _ => some xs[i]?) halt turn (n + 1) i a S
  | 0, i, a, S, h => by
    rw [List.drop_of_length_le (by omega)]
    show Out.ok a S = stepG halt turn a S _ (some xs[i]?)
    rw [List.getElem?_eq_none (by omega)]
    rfl
  | n + 1, i, a, S, h => by
    have hi : i < xs.length := by omega
    rw [List.drop_eq_getElem_cons hi, loopV_cons]
    show _ = stepG halt turn a S (loopG (fun i _ => some xs[i]?) halt turn (n + 1) (i + 1)) (some xs[i]?)
    rw [List.getElem?_eq_getElem hi]
    exact afterT_eq (fun a S => loopV_G xs n (i + 1) a S (by omega)) _
theorem loopL_lst {n k i : Nat} {a : α} {S : Sto} {xs : List PV} (g : getS B S n = some (.lst xs)) : loopL B n halt turn (k + 1) i a S = stepG halt turn a S (loopL B n halt turn k (i + 1)) (some xs[i]?) := by
  show (match getS B S n with
    | some (.lst xs) => (match xs[i]? with
      | none => Out.ok a S
      | some x => match turn x a S with
        | .ok a' S' => (match halt a' with
          | true => .ok a' S'
          | false => loopL B n halt turn k (i + 1) a' S')
        | .exc c v S' => .exc c v S'
        | .fail => .fail)
    | _ => .fail) = _
  rw [g]
  show (match xs[i]? with
    | none => Out.ok a S
    | some x => match turn x a S with
      | .ok a' S' => (match halt a' with
        | true => .ok a' S'
        | false => loopL B n halt turn k (i + 1) a' S')
      | .exc c v S' => .exc c v S'
      | .fail => .fail) = _
  cases xs[i]? with
  | none => rfl
  | some x =>
    show (match turn x a S with
      | .ok a' S' => (match halt a' with
        | true => Out.ok a' S'
        | false => loopL B n halt turn k (i + 1) a' S')
      | .exc c v S' => .exc c v S'
      | .fail => .fail) = afterT halt (loopL B n halt turn k (i + 1)) (turn x a S)
    cases turn x a S with
    | ok a' S' => rfl
    | exc c v S' => rfl
    | fail => rfl
theorem loopL_no {n k i : Nat} {a : α} {S : Sto} (g : ∀ xs, getS B S n ≠ some (.lst xs)) : loopL B n halt turn (k + 1) i a S = .fail := by
  show (match getS B S n with
    | some (.lst xs) => (match xs[i]? with
      | none => Out.ok a S
      | some x => match turn x a S with
        | .ok a' S' => (match halt a' with
          | true => .ok a' S'
          | false => loopL B n halt turn k (i + 1) a' S')
        | .exc c v S' => .exc c v S'
        | .fail => .fail)
    | _ => .fail) = _
  cases q : getS B S n with
  | none => rfl
  | some o =>
    cases o with
    | lst xs => exact (g xs q).elim
    | _ => rfl
theorem item_lst {n i : Nat} {S : Sto} {xs : List PV} (g : getS B S n = some (.lst xs)) : itemAt B S (.obj n) i = some xs[i]? := by
  have : seqOf B S (.obj n) = some xs := by
    show (match getS B S n with | some (.lst xs) => some xs | _ => none) = some xs
    rw [g]
  unfold itemAt
  rw [this]
theorem item_no {n i : Nat} {S : Sto} (g : ∀ xs, getS B S n ≠ some (.lst xs)) : seqOf B S (.obj n) = none := by
  show (match getS B S n with | some (.lst xs) => some xs | _ => none) = none
  cases q : getS B S n with
  | none => rfl
  | some o =>
    cases o with
    | lst xs => exact (g xs q).elim
    | _ => rfl
theorem loopL_G (n : Nat) : ∀ (k i : Nat) (a : α) (S : Sto), loopL B n halt turn k i a S = loopG (fun i S => itemAt B S (.obj n) i) halt turn k i a S
  | 0, _, _, _ => rfl
  | k + 1, i, a, S => by
    show _ = stepG halt turn a S (loopG (fun i S => itemAt B S (.obj n) i) halt turn k (i + 1)) (itemAt B S (.obj n) i)
    by_cases g : ∃ xs, getS B S n = some (.lst xs)
    · obtain ⟨xs, g⟩ := g
      rw [loopL_lst g, item_lst g]
      have : loopL B n halt turn k (i + 1) = loopG (fun i S => itemAt B S (.obj n) i) halt turn k (i + 1) := funext fun a => funext fun S => loopL_G n k (i + 1) a S
      rw [this]
    · have g : ∀ xs, getS B S n ≠ some (.lst xs) := fun xs q => g ⟨xs, q⟩
      rw [loopL_no g]
      unfold itemAt
      rw [item_no (i := i) g]
      rfl
theorem loop_G {src : PV} {a : α} {S : Sto} : loop B halt turn src a S = match seqOf B S src with
    | some xs => loopG (fun i S => itemAt B S src i) halt turn (xs.length + 1) 0 a S
    | none => .fail := by
  have vals : ∀ xs : List PV, loopV halt turn xs a S = loopG (fun i _ => some xs[i]?) halt turn (xs.length + 1) 0 a S := fun xs => by
    have := loopV_G (halt := halt) (turn := turn) xs xs.length 0 a S (by omega)
    rw [List.drop_zero] at this
    exact this
  cases src with
  | tup xs => exact vals xs
  | lst xs => exact vals xs
  | scr xs => exact vals xs
  | obj n =>
    have e : loop B halt turn (.obj n) a S = (match getS B S n with
      | some (.lst xs) => loopL B n halt turn (xs.length + 1) 0 a S
      | _ => .fail) := rfl
    rw [e]
    by_cases g : ∃ xs, getS B S n = some (.lst xs)
    · obtain ⟨xs, g⟩ := g
      have q : seqOf B S (.obj n) = some xs := by
        show (match getS B S n with | some (.lst xs) => some xs | _ => none) = some xs
        rw [g]
      rw [g, q]
      exact loopL_G n (xs.length + 1) 0 a S
    · have g : ∀ xs, getS B S n ≠ some (.lst xs) := fun xs q => g ⟨xs, q⟩
      rw [item_no (i := 0) g]
      cases q : getS B S n with
      | none => rfl
      | some o =>
        cases o with
        | lst xs => exact (g xs q).elim
        | _ => rfl
  | _ => rfl
end
/-! ### what an iterator gives -/
/-- the turns that have been -/
def Past (B : Sto) (src : PV) (i : Nat) : Prop := ∀ j, j < i → ∃ S q, itemAt B S src j = some (some q)
theorem Past.zero {B : Sto} {src : PV} : Past B src 0 := fun j h => absurd h (Nat.not_lt_zero _)
theorem Past.succ {B S : Sto} {src : PV} {i : Nat} {q : PV} (h : Past B src i) (e : itemAt B S src i = some (some q)) : Past B src (i + 1) := fun j hj => by
  by_cases z : j = i
  · rw [z]; exact ⟨S, q, e⟩
  · exact h j (by omega)
structure ItOk (L : Pl) (μ0 : Mu) (H0 : Hp) (B : Sto) (src : PV) (J : It) : Prop where
  go : ∀ μ H S i p, Ex0 μ0 H0 μ H → RelS L μ H (B ++ S) → itemAt B S src i = some (some p) → J.go i H ∧ ∀ x H', J.yld i H x H' → Ext μ H μ H' ∧ RelS L μ H' (B ++ S) ∧ RelP L μ H' p x
  stop : ∀ μ H S i, Ex0 μ0 H0 μ H → RelS L μ H (B ++ S) → Past B src i → itemAt B S src i = some none → J.stop i H
def tI (L : Pl) (E : XK) (f : FE) : TI := fun σ H R => ∃ μ B ρ S, RelS L μ H (B ++ S) ∧ RelR L μ H ρ σ ∧ OutOk L E μ H B (f B ρ S) (fun src S' μ' H' => (∃ xs, seqOf B S' src = some xs) ∧ ∀ J, ItOk L μ' H' B src J → R J H')
section
variable {X : Cx} {L : Pl} {E : XK}
theorem Itl_ok {μ : Mu} {H : Hp} {B : Sto} {src : PV} {a : Addr} (h : ∀ μ' H' S xs, Ex0 μ H μ' H' → RelS L μ' H' (B ++ S) → seqOf B S src = some xs → ∃ ys, SqL L.K H' a ys ∧ RelL L μ' H' xs ys) : ItOk L μ H B src (Itl L.K a) where
  go := fun μ' H' S i p e rs hi => by
    unfold itemAt at hi
    cases q : seqOf B S src with
    | none => rw [q] at hi; cases hi
    | some xs =>
      rw [q] at hi
      have hi : xs[i]? = some p := Option.some.inj hi
      obtain ⟨ys, hs, hl⟩ := h μ' H' S xs e rs q
      obtain ⟨v, ev, rv⟩ := hl.get hi
      refine ⟨⟨ys, v, hs, ev⟩, fun x H2 hy => ?_⟩
      obtain ⟨e2, hy⟩ := hy
      rw [e2]
      have := hy ys hs
      rw [ev] at this
      cases this
      exact ⟨Ext.refl _ _, rs, rv⟩
  stop := fun μ' H' S i e rs _ hi => by
    unfold itemAt at hi
    cases q : seqOf B S src with
    | none => rw [q] at hi; cases hi
    | some xs =>
      rw [q] at hi
      have hi : xs[i]? = none := Option.some.inj hi
      obtain ⟨ys, hs, hl⟩ := h μ' H' S xs e rs q
      exact ⟨ys, hs, by rw [← hl.length]; exact List.getElem?_eq_none_iff.mp hi⟩
theorem Itt_ok {μ : Mu} {H : Hp} {B : Sto} {xs : List PV} {a : Addr} {ys : List V} (h1 : SqT L.K H a ys) (h2 : RelL L μ H xs ys) : ItOk L μ H B (.tup xs) (Itt L.K a) where
  go := fun μ' H' S i p e rs hi => by
    have hi : xs[i]? = some p := Option.some.inj hi
    obtain ⟨v, ev, rv⟩ := (RelL.mono0 e xs ys h2).get hi
    have hs := SqT.ext0 e h1
    refine ⟨⟨ys, v, hs, ev⟩, fun x H2 hy => ?_⟩
    obtain ⟨e2, hy⟩ := hy
    rw [e2]
    have := hy ys hs
    rw [ev] at this
    cases this
    exact ⟨Ext.refl _ _, rs, rv⟩
  stop := fun μ' H' S i e rs _ hi => by
    have hi : xs[i]? = none := Option.some.inj hi
    exact ⟨ys, SqT.ext0 e h1, by rw [← h2.length]; exact List.getElem?_eq_none_iff.mp hi⟩
/-- a new iterator, alone in its cell -/
theorem new_it {pins : List (Addr × Obj)} {σ : L2.St} {H : Hp} {s : Shared} {tg : Expr} {R : It → Hp → Prop} {J : It} {tn : Nat → Heap → Prop} {o : Obj} {v : Value} (I : L2.Inv X pins σ H s) (T : Turn X.prog X.w X.K tg J [s.heap.objs.size] s.heap.objs.size tn) (ev : v = .ref s.heap.objs.size) (h0 : tn 0 (s.heap.push o)) (q : R J H) :
    PIE X pins σ tg R v { s with heap := s.heap.push o } :=
  ⟨_, _, tn, J, H, ev, I.kept (t' := s.toks) fun _ _ => Heap.get?_push_of_some _, T, h0, List.forall_mem_singleton.mpr (I.fpOk Nat.le.refl (I.hok.fresh Nat.le.refl)), q⟩
/-- a list or a tuple, whichever comes -/
theorem i_any {tg e : Expr} {f : FE} (hK : X.K = L.K) (he : PE X e (tE L E f)) : PI X tg e (tI L E f) := by
  refine ⟨fun pins s σ H R I h => ?_⟩
  obtain ⟨μ, B, ρ, S, rs, rl, o⟩ := h
  refine thn (he.run pins s σ H (fun x H1 => ∃ a, x = .ref a ∧ ((∃ ys, SqL X.K H1 a ys) ∧ R (Itl X.K a) H1 ∨ (∃ ys, SqT X.K H1 a ys) ∧ R (Itt X.K a) H1)) I ⟨μ, B, ρ, S, rs, rl, o.imp fun src S1 μ1 H1 e1 rs1 ⟨⟨zs, hz⟩, q⟩ v hv => ?_⟩) fun v s1 ⟨x, H1, I1, r1, a, ex, q1⟩ => ?_
  · rw [hK]
    have lists : ∀ a ys, SqL L.K H1 a ys → (∀ (μ' : Mu) (H' : Hp) (S : Sto) (xs : List PV), Ex0 μ1 H1 μ' H' → RelS L μ' H' (B ++ S) → seqOf B S src = some xs → ∃ ys, SqL L.K H' a ys ∧ RelL L μ' H' xs ys) → (∃ ys, SqL L.K H1 a ys) ∧ R (Itl L.K a) H1 ∨ (∃ ys, SqT L.K H1 a ys) ∧ R (Itt L.K a) H1 := fun a ys hs hq =>
      .inl ⟨⟨ys, hs⟩, q _ (Itl_ok hq)⟩
    cases src with
    | tup xs =>
      obtain ⟨a, ys, ev, h1, h2⟩ := hv
      exact ⟨a, ev, .inr ⟨⟨ys, h1⟩, q _ (Itt_ok h1 h2)⟩⟩
    | lst xs =>
      obtain ⟨a, ys, ev, h1, h2, h3⟩ := hv
      refine ⟨a, ev, lists a ys (SqL.of h1) fun μ' H' S ws e rs' hq => ?_⟩
      have hq : some xs = some ws := hq
      cases hq
      exact ⟨ys, SqL.of (e.keep _ _ h1 h2), RelL.mono0 e xs ys h3⟩
    | scr xs =>
      obtain ⟨a, ys, ev, h1, h2⟩ := hv
      refine ⟨a, ev, lists a ys h1.sq fun μ' H' S ws e rs' hq => ?_⟩
      have hq : some xs = some ws := hq
      cases hq
      refine ⟨ys, SqF.sq ?_, RelL.mono0 e xs ys h2⟩
      rcases h1 with ⟨o, h1⟩ | h1
      · exact .inl ⟨o, e.frzs _ _ _ h1⟩
      · exact .inr h1
    | obj n =>
      have obj : ∀ (μ' : Mu) (H' : Hp) (S : Sto) (xs : List PV) (a : Addr), μ' n = some a → RelS L μ' H' (B ++ S) → seqOf B S (.obj n) = some xs → ∃ ys, SqL L.K H' a ys ∧ RelL L μ' H' xs ys := fun μ' H' S xs a em rs' hq => by
        by_cases g : ∃ xs, getS B S n = some (.lst xs)
        · obtain ⟨ws, g⟩ := g
          have hq' : seqOf B S (.obj n) = some ws := by
            show (match getS B S n with | some (.lst xs) => some xs | _ => none) = some ws
            rw [g]
          rw [hq'] at hq
          cases hq
          obtain ⟨b, eb, _, ys, h1, h2⟩ := rs'.get (v := .ref a) g ⟨a, rfl, em⟩
          cases eb
          exact ⟨ys, SqL.of h1, h2⟩
        · rw [item_no (i := 0) fun xs q => g ⟨xs, q⟩] at hq
          cases hq
      obtain ⟨a, ev, em⟩ := hv
      obtain ⟨ys, h1, _⟩ := obj μ1 H1 S1 zs a em rs1 hz
      exact ⟨a, ev, lists a ys h1 fun μ' H' S ws e rs' hq => obj μ' H' S ws a (e.sub _ _ em) rs' hq⟩
    | _ => cases hz
  · rw [ex] at r1
    have r1 : v = Value.ref a := r1
    rw [r1]
    rcases q1 with ⟨⟨ys, hq⟩, q⟩ | ⟨⟨ys, hq⟩, q⟩
    · obtain ⟨its, rv, p, hz⟩ := I1.list hq
      exact wpAny_pyIter_list p.isList (new_it I1 (turn_list a _) rfl ⟨_, Heap.get?_push_size _ rfl, rfl, rfl⟩ q)
    · obtain ⟨its, rv, p, hz⟩ := I1.tuple hq
      exact wpAny_pyIter_tuple (show s1.heap.IsTuple a its.toArray from p) (new_it I1 (turn_tuple a _) rfl ⟨_, Heap.get?_push_size _ rfl, rfl, rfl⟩ q)
end
end RV
end
section
/-! RVTgt: targets. -/
namespace RV
open PySem PySem.Spec PyProof.Rows L2
mutual
def tv : IE → List Nat
  | .var i => [i]
  | .tup ts => tvs ts
  | _ => []
def tvs : List IE → List Nat
  | [] => []
  | t :: ts => tv t ++ tvs ts
end
mutual
def ckT (N : List Str) (loc : Str → Bool) : Expr → IE → Bool
  | .Name x _, .var i => (match N[i]? with
    | some y => x == y && loc x
    | none => false)
  | .Tuple es _ _, .tup ts => ckTs N loc es ts
  | _, _ => false
def ckTs (N : List Str) (loc : Str → Bool) : List Expr → List IE → Bool
  | [], [] => true
  | e :: es, t :: ts => ckT N loc e t && ckTs N loc es ts
  | _, _ => false
end
def gT (L : Pl) (t : IE) : TG := fun v σ H Q => ∃ μ ρ p ρ', RelR L μ H ρ σ ∧ RelP L μ H p v ∧ tgt t p ρ = some ρ' ∧ ∀ σ', RelR L μ H ρ' σ' → (∀ i, i ∉ tv t → σ'[i]? = σ[i]?) → Q σ' H
def gTs (L : Pl) (ts : List IE) : TGs := fun vs σ H Q => ∃ μ ρ ps ρ', RelR L μ H ρ σ ∧ RelL L μ H ps vs ∧ tgts ts ps ρ = some ρ' ∧ ∀ σ', RelR L μ H ρ' σ' → (∀ i, i ∉ tvs ts → σ'[i]? = σ[i]?) → Q σ' H
/-- names may be stored here -/
structure LocOk (X : Cx) (loc : Str → Bool) : Prop where
  at_ : ∀ x, loc x = true → L2.Loc X.env.scope x ∧ (X.fn x = true ∨ X.env.scope.names.lookup x = some .local)
theorem PGsw {X : Cx} {es : List Expr} {t t' : TGs} (h : PGs X es t) (f : ∀ vs σ H Q, t' vs σ H Q → t vs σ H Q) : PGs X es t' := ⟨fun pins s σ H vs us Q I r q => h.run pins s σ H vs us Q I r (f vs σ H Q q)⟩
section
variable {L : Pl} {μ : Mu} {H : Hp}
theorem RelR.set {ρ : Loc} {σ : L2.St} {i : Nat} {p : PV} {v : V} (r : RelR L μ H ρ σ) (h : RelP L μ H p v) : RelR L μ H (ρ.set i (some p)) (σ.set i (some v)) where
  len := by rw [List.length_set, List.length_set]; exact r.len
  at_ := fun j q e => by
    by_cases hj : i = j
    · subst hj
      by_cases hl : i < ρ.length
      · rw [List.getElem?_set_self hl] at e
        have e : p = q := by simpa using e
        subst e
        exact ⟨v, List.getElem?_set_self (by rw [← r.len]; exact hl), h⟩
      · rw [List.getElem?_eq_none (by rw [List.length_set]; omega)] at e
        cases e
    · rw [List.getElem?_set_ne hj] at e
      obtain ⟨w, e1, r1⟩ := r.at_ j q e
      exact ⟨w, by rw [List.getElem?_set_ne hj]; exact e1, r1⟩
end
theorem tgt_var {i : Nat} {p : PV} {ρ ρ' : Loc} (h : tgt (.var i) p ρ = some ρ') : ρ' = ρ.set i (some p) := by
  have h : (match Nat.blt i ρ.length with
    | true => some (ρ.set i (some p))
    | false => none) = some ρ' := h
  cases c : Nat.blt i ρ.length with
  | false => rw [c] at h; cases h
  | true =>
    rw [c] at h
    exact (Option.some.inj h).symm
mutual
theorem tgt_len : ∀ {t : IE} {p : PV} {ρ ρ' : Loc}, tgt t p ρ = some ρ' → ρ'.length = ρ.length
  | .var i, p, ρ, ρ', h => by rw [tgt_var h, List.length_set]
  | .tup ts, p, ρ, ρ', h => by
    cases p with
    | tup xs => exact tgts_llen (show tgts ts xs ρ = some ρ' from h)
    | _ => cases h
  | .cst _, _, _, _, h => by cases h
  | .glob _ _, _, _, _, h => by cases h
  | .star _, _, _, _, h => by cases h
  | .lst _ _, _, _, _, h => by cases h
  | .dct _ _, _, _, _, h => by cases h
  | .bin _ _ _, _, _, _, h => by cases h
  | .neg _, _, _, _, h => by cases h
  | .not _, _, _, _, h => by cases h
  | .cmp _ _ _, _, _, _, h => by cases h
  | .chain _ _ _ _ _, _, _, _, h => by cases h
  | .and _, _, _, _, h => by cases h
  | .or _, _, _, _, h => by cases h
  | .ite _ _ _, _, _, _, h => by cases h
  | .sub _ _, _, _, _, h => by cases h
  | .slc _ _ _ _, _, _, _, h => by cases h
  | .rev _, _, _, _, h => by cases h
  | .attr _ _, _, _, _, h => by cases h
  | .lc _ _ _ _ _ _, _, _, _, h => by cases h
  | .lc2 _ _ _ _ _ _ _ _ _, _, _, _, h => by cases h
  | .srt2 _ _ _ _ _ _ _, _, _, _, h => by cases h
  | .dc _ _ _ _ _ _, _, _, _, h => by cases h
  | .bi _ _, _, _, _, h => by cases h
  | .mth _ _ _, _, _, _, h => by cases h
  | .bad, _, _, _, h => by cases h
  | .isi _ _, _, _, _, h => by cases h
  | .call _ _ _ _, _, _, _, h => by cases h
  | .new _ _ _, _, _, _, h => by cases h
  | .callG _ _ _, _, _, _, h => by cases h
  | .newG _ _ _, _, _, _, h => by cases h
  | .meth _ _ _ _ _ _ _, _, _, _, h => by cases h
  | .rng1 _, _, _, _, h => by cases h
  | .rng2 _ _, _, _, _, h => by cases h
  | .zip2 _ _, _, _, _, h => by cases h
  | .enum _ _, _, _, _, h => by cases h
  | .hrd _ _ _, _, _, _, h => by cases h
  | .rne _ _, _, _, _, h => by cases h
  | .trng _, _, _, _, h => by cases h
  | .dget _ _, _, _, _, h => by cases h
theorem tgts_llen : ∀ {ts : List IE} {xs : List PV} {ρ ρ' : Loc}, tgts ts xs ρ = some ρ' → ρ'.length = ρ.length
  | [], [], _, _, h => by cases h; rfl
  | [], _ :: _, _, _, h => by cases h
  | _ :: _, [], _, _, h => by cases h
  | t :: ts, x :: xs, ρ, ρ', h => by
    have h : (match tgt t x ρ with
      | some ρ' => tgts ts xs ρ'
      | none => none) = some ρ' := h
    cases e1 : tgt t x ρ with
    | none => rw [e1] at h; cases h
    | some ρ1 =>
      rw [e1] at h
      rw [tgts_llen h, tgt_len e1]
end
theorem tgts_len : ∀ {ts : List IE} {xs : List PV} {ρ ρ' : Loc}, tgts ts xs ρ = some ρ' → xs.length = ts.length
  | [], [], _, _, _ => rfl
  | [], _ :: _, _, _, h => by cases h
  | _ :: _, [], _, _, h => by cases h
  | t :: ts, x :: xs, ρ, ρ', h => by
    have h : (match tgt t x ρ with
      | some ρ' => tgts ts xs ρ'
      | none => none) = some ρ' := h
    cases e1 : tgt t x ρ with
    | none => rw [e1] at h; cases h
    | some ρ1 =>
      rw [e1] at h
      rw [List.length_cons, List.length_cons, tgts_len h]
theorem assign_cons {N : List Str} {loc : Str → Bool} {env : Env} {e : Expr} {es : List Expr} {t : IE} (h : ckT N loc e t = true) : assignEach (e :: es) env = (false, assign e env) :: assignEach es env := by
  cases e with
  | Name x p => rfl
  | Tuple es k p => rfl
  | _ => cases t <;> cases h
theorem assign_len {N : List Str} {loc : Str → Bool} {env : Env} : ∀ {es : List Expr} {ts : List IE}, ckTs N loc es ts = true → (assignEach es env).length = ts.length ∧ (assignEach es env).findIdx? (·.1) = none
  | [], [], _ => ⟨rfl, rfl⟩
  | [], _ :: _, h => by cases h
  | _ :: _, [], h => by cases h
  | e :: es, t :: ts, h => by
    have h : (ckT N loc e t && ckTs N loc es ts) = true := h
    rw [Bool.and_eq_true] at h
    obtain ⟨h1, h2⟩ := assign_len (env := env) h.2
    rw [assign_cons h.1]
    refine ⟨by rw [List.length_cons, List.length_cons, h1], ?_⟩
    rw [List.findIdx?_cons]
    show (if false = true then some 0 else Option.map (fun i => i + 1) (List.findIdx? (fun x => x.fst) (assignEach es env))) = none
    rw [h2]
    rfl
mutual
theorem g_any {X : Cx} {L : Pl} {loc : Str → Bool} (hK : X.K = L.K) (hc : X.calm = true) (hN : X.N.Nodup) (lo : LocOk X loc) : ∀ (tg : Expr) (t : IE), ckT X.N loc tg t = true → PG X tg (gT L t)
  | tg, .var i, h => by
    cases tg with
    | Name x p =>
      have h : (match X.N[i]? with
        | some y => x == y && loc x
        | none => false) = true := h
      cases e : X.N[i]? with
      | none => rw [e] at h; cases h
      | some y =>
        rw [e] at h
        have h : (x == y && loc x) = true := h
        rw [Bool.and_eq_true] at h
        have hx : x = y := eq_of_beq h.1
        subst hx
        obtain ⟨l1, l2⟩ := lo.at_ x h.2
        refine PGw (pg_name hN e l1 l2) fun v σ H Q q => ?_
        obtain ⟨μ, ρ, p, ρ', rl, hp, et, q⟩ := q
        have et : (match Nat.blt i ρ.length with
          | true => some (ρ.set i (some p))
          | false => none) = some ρ' := et
        cases c : Nat.blt i ρ.length with
        | false => rw [c] at et; cases et
        | true =>
          rw [c] at et
          have et : some (ρ.set i (some p)) = some ρ' := et
          cases et
          refine q _ (rl.set hp) fun j hj => ?_
          exact List.getElem?_set_ne (fun z => hj (by rw [← z]; exact List.mem_singleton.mpr rfl))
    | _ => cases h
  | tg, .tup ts, h => by
    cases tg with
    | Tuple es k p =>
      have h : ckTs X.N loc es ts = true := h
      obtain ⟨l1, l2⟩ := assign_len (env := X.env) h
      refine PGw (pg_tup hc (gs_any hK hc hN lo es ts h) l1 l2) fun v σ H Q q => ?_
      obtain ⟨μ, ρ, p, ρ', rl, hp, et, q⟩ := q
      cases p with
      | tup xs =>
        obtain ⟨a, ys, ev, h1, h2⟩ := hp
        have et : tgts ts xs ρ = some ρ' := et
        refine ⟨a, ys, ev, by rw [hK]; exact h1, ?_, μ, ρ, xs, ρ', rl, h2, et, q⟩
        rw [← h2.length]
        exact tgts_len et
      | _ => cases et
    | _ => cases h
  | tg, .cst _, h => by cases tg <;> cases h
  | tg, .glob _ _, h => by cases tg <;> cases h
  | tg, .star _, h => by cases tg <;> cases h
  | tg, .lst _ _, h => by cases tg <;> cases h
  | tg, .dct _ _, h => by cases tg <;> cases h
  | tg, .bin _ _ _, h => by cases tg <;> cases h
  | tg, .neg _, h => by cases tg <;> cases h
  | tg, .not _, h => by cases tg <;> cases h
  | tg, .cmp _ _ _, h => by cases tg <;> cases h
  | tg, .chain _ _ _ _ _, h => by cases tg <;> cases h
  | tg, .and _, h => by cases tg <;> cases h
  | tg, .or _, h => by cases tg <;> cases h
  | tg, .ite _ _ _, h => by cases tg <;> cases h
  | tg, .sub _ _, h => by cases tg <;> cases h
  | tg, .slc _ _ _ _, h => by cases tg <;> cases h
  | tg, .rev _, h => by cases tg <;> cases h
  | tg, .attr _ _, h => by cases tg <;> cases h
  | tg, .lc _ _ _ _ _ _, h => by cases tg <;> cases h
  | tg, .lc2 _ _ _ _ _ _ _ _ _, h => by cases tg <;> cases h
  | tg, .srt2 _ _ _ _ _ _ _, h => by cases tg <;> cases h
  | tg, .dc _ _ _ _ _ _, h => by cases tg <;> cases h
  | tg, .bi _ _, h => by cases tg <;> cases h
  | tg, .mth _ _ _, h => by cases tg <;> cases h
  | tg, .bad, h => by cases tg <;> cases h
  | tg, .isi _ _, h => by cases tg <;> cases h
  | tg, .call _ _ _ _, h => by cases tg <;> cases h
  | tg, .new _ _ _, h => by cases tg <;> cases h
  | tg, .callG _ _ _, h => by cases tg <;> cases h
  | tg, .newG _ _ _, h => by cases tg <;> cases h
  | tg, .meth _ _ _ _ _ _ _, h => by cases tg <;> cases h
  | tg, .rng1 _, h => by cases tg <;> cases h
  | tg, .rng2 _ _, h => by cases tg <;> cases h
  | tg, .zip2 _ _, h => by cases tg <;> cases h
  | tg, .enum _ _, h => by cases tg <;> cases h
  | tg, .hrd _ _ _, h => by cases tg <;> cases h
  | tg, .rne _ _, h => by cases tg <;> cases h
  | tg, .trng _, h => by cases tg <;> cases h
  | tg, .dget _ _, h => by cases tg <;> cases h
theorem gs_any {X : Cx} {L : Pl} {loc : Str → Bool} (hK : X.K = L.K) (hc : X.calm = true) (hN : X.N.Nodup) (lo : LocOk X loc) : ∀ (es : List Expr) (ts : List IE), ckTs X.N loc es ts = true → PGs X es (gTs L ts)
  | [], [], _ => PGsw pgs_nil fun vs σ H Q q => by
    obtain ⟨μ, ρ, ps, ρ', rl, hp, et, q⟩ := q
    cases ps with
    | nil =>
      have et : some ρ = some ρ' := et
      cases et
      have hp : vs = [] := hp
      exact ⟨hp, q σ rl fun _ _ => rfl⟩
    | cons _ _ => cases et
  | [], _ :: _, h => by cases h
  | _ :: _, [], h => by cases h
  | e :: es, t :: ts, h => by
    have h : (ckT X.N loc e t && ckTs X.N loc es ts) = true := h
    rw [Bool.and_eq_true] at h
    refine PGsw (pgs_cons (g_any hK hc hN lo e t h.1) (gs_any hK hc hN lo es ts h.2) (by rw [assign_cons h.1]; rfl)) fun vs σ H Q q => ?_
    obtain ⟨μ, ρ, ps, ρ', rl, hp, et, q⟩ := q
    cases ps with
    | nil => cases et
    | cons p ps =>
      have et : (match tgt t p ρ with
        | some ρ' => tgts ts ps ρ'
        | none => none) = some ρ' := et
      cases e1 : tgt t p ρ with
      | none => rw [e1] at et; cases et
      | some ρ1 =>
        rw [e1] at et
        have et : tgts ts ps ρ1 = some ρ' := et
        obtain ⟨v, r, ev, h1, h2⟩ := hp
        refine ⟨v, r, ev, μ, ρ, p, ρ1, rl, h1, e1, fun σ1 rl1 k1 => ⟨μ, ρ1, ps, ρ', rl1, h2, et, fun σ2 rl2 k2 => q σ2 rl2 fun i hi => ?_⟩⟩
        have hi : i ∉ tv t ++ tvs ts := hi
        rw [List.mem_append, not_or] at hi
        rw [k2 i hi.2, k1 i hi.1]
end
end RV
end
section
/-! RVStm: statements. -/
namespace RV
open PySem PySem.Spec PyProof.Rows L2
def EndOk (L : Pl) (D : Ends) (μ : Mu) (H : Hp) (r : Loc × Flow) : Prop := match r.2 with
  | .nx => ∀ σ', RelR L μ H r.1 σ' → D.nx σ' H
  | .ret v => ∀ x, RelP L μ H v x → D.rt x H
abbrev FS := Sto → Loc → Sto → Out (Loc × Flow)
def tS (L : Pl) (E : XK) (f : FS) : TS := fun D σ H => ∃ μ B ρ S, RelS L μ H (B ++ S) ∧ RelR L μ H ρ σ ∧ OutOk L E μ H B (f B ρ S) (fun r _ μ' H' => EndOk L D μ' H' r)
def seqS (f g : FS) : FS := fun B ρ S => (f B ρ S).bind fun x S => match x.2 with
  | .nx => g B x.1 S
  | .ret v => .ok (x.1, .ret v) S
section
variable {X : Cx} {L : Pl} {E : XK} {pos : Pos} {st : Stmt} {rest : List Stmt} {f g : FS} {e c : Expr} {fe fc : FE}
theorem s_nil : PSs X [] (tS L E fun _ ρ S => .ok (ρ, .nx) S) := PSsw pss_nil fun D σ H h => by
  obtain ⟨μ, B, ρ, S, rs, rl, o⟩ := h
  exact o.now rs σ rl
theorem s_pass : PS X (.Pass pos) (tS L E fun _ ρ S => .ok (ρ, .nx) S) := PSw ps_pass fun D σ H h => by
  obtain ⟨μ, B, ρ, S, rs, rl, o⟩ := h
  exact o.now rs σ rl
theorem s_doc {x : Str} {j : Nat} {p2 : Pos} : PS X (.Expr (.Constant (.str x) j p2) pos) (tS L E fun _ ρ S => .ok (ρ, .nx) S) := PSw ps_doc fun D σ H h => by
  obtain ⟨μ, B, ρ, S, rs, rl, o⟩ := h
  exact o.now rs σ rl
theorem s_cons (h1 : PS X st (tS L E f)) (h2 : PSs X rest (tS L E g)) : PSs X (st :: rest) (tS L E (seqS f g)) := PSsw (pss_cons h1 h2) fun D σ H h => by
  obtain ⟨μ, B, ρ, S, rs, rl, o⟩ := h
  refine ⟨μ, B, ρ, S, rs, rl, (show OutOk L E μ H B ((f B ρ S).bind fun x S => match x.2 with
    | .nx => g B x.1 S
    | .ret v => .ok (x.1, .ret v) S) _ from o).bind.imp fun r S1 μ1 H1 e1 rs1 o1 => ?_⟩
  obtain ⟨ρ1, fl⟩ := r
  cases fl with
  | nx => exact fun σ' rl' => ⟨μ1, B, ρ1, S1, rs1, rl', o1⟩
  | ret v =>
    intro x hx
    exact (OutOk.now (show OutOk L E μ1 H1 B (.ok (ρ1, Flow.ret v) S1) _ from o1) rs1) x hx
def noComp : Expr → Bool
  | .ListComp .. => false
  | .SetComp .. => false
  | .DictComp .. => false
  | _ => true
theorem swaps_no {t : Option Expr} {n : Nat} {env : Env} (h : noComp e = true) : swapsWith e t n env = pure false := by
  cases e <;> first | rfl | cases h
theorem s_expr (he : PE X e (tE L E fe)) (h : noComp e = true) : PS X (.Expr e pos) (tS L E fun B ρ S => (fe B ρ S).bind fun _ S => .ok (ρ, .nx) S) := PSw (ps_expr he (swaps_no h)) fun D σ H h => by
  obtain ⟨μ, B, ρ, S, rs, rl, o⟩ := h
  exact ⟨μ, B, ρ, S, rs, rl, o.bind.imp fun p S1 μ1 H1 e1 rs1 o1 v hv => o1.now rs1 σ (rl.mono e1)⟩
theorem s_ret (he : PE X e (tE L E fe)) : PS X (.Return (some e) pos) (tS L E fun B ρ S => (fe B ρ S).bind fun v S => .ok (ρ, .ret v) S) := PSw (ps_ret he) fun D σ H h => by
  obtain ⟨μ, B, ρ, S, rs, rl, o⟩ := h
  exact ⟨μ, B, ρ, S, rs, rl, o.bind.imp fun p S1 μ1 H1 e1 rs1 o1 v hv => o1.now rs1 v hv⟩
theorem s_retN : PS X (.Return none pos) (tS L E fun _ ρ S => .ok (ρ, .ret .non) S) := PSw ps_retN fun D σ H h => by
  obtain ⟨μ, B, ρ, S, rs, rl, o⟩ := h
  exact o.now rs .non rfl
theorem s_if {a b : List Stmt} (hc : PT X c (tT L E fc)) (ha : PSs X a (tS L E f)) (hb : PSs X b (tS L E g)) : PS X (.If c a b pos) (tS L E fun B ρ S => (fc B ρ S).bind fun x S => match x with
    | .bl true => f B ρ S
    | .bl false => g B ρ S
    | _ => .fail) := PSw (ps_if hc ha hb) fun D σ H h => by
  obtain ⟨μ, B, ρ, S, rs, rl, o⟩ := h
  refine ⟨μ, B, ρ, S, rs, rl, o.bind.imp fun p S1 μ1 H1 e1 rs1 o1 v hv => ?_⟩
  cases p with
  | bl k =>
    have hv : v = .bl k := hv
    refine ⟨k, hv, ?_⟩
    cases k with
    | true => exact ⟨μ1, B, ρ, S1, rs1, rl.mono e1, o1⟩
    | false => exact ⟨μ1, B, ρ, S1, rs1, rl.mono e1, o1⟩
  | _ => exact False.elim o1
/-! ### while -/
theorem s_while {body : List Stmt} (hp : PassesOwn (model X.prog X.w) X.A X.env X.xe) (hc : PT X c (tT L E fc)) (hb : PSs X body (tS L E f)) (n : Nat) : PS X (.While c body [] pos) (tS L E fun B ρ S => whileF (fun ρ S => (fc B ρ S).bind fun x S => match x with
      | .bl t => .ok t S
      | _ => .fail) (fun ρ S => f B ρ S) n ρ S) := PSw (ps_while hp hc hb) fun D σ H h => by
  obtain ⟨μ, B, ρ, S, rs, rl, o⟩ := h
  refine ⟨fun m σ' H' => ∃ μ' ρ' S', Ext μ H μ' H' ∧ RelS L μ' H' (B ++ S') ∧ RelR L μ' H' ρ' σ' ∧ OutOk L E μ H B (whileF (fun ρ S => (fc B ρ S).bind fun x S => match x with
      | .bl t => .ok t S
      | _ => .fail) (fun ρ S => f B ρ S) m ρ' S') (fun r _ μ' H' => EndOk L D μ' H' r), ⟨n, μ, ρ, S, Ext.refl _ _, rs, rl, o⟩, ?_⟩
  rintro m σ1 H1 ⟨μ1, ρ1, S1, e1, rs1, rl1, o1⟩
  cases m with
  | zero => exact False.elim o1
  | succ m =>
    have o1 : OutOk L E μ H B (((fc B ρ1 S1).bind fun x S => match x with
      | .bl t => .ok t S
      | _ => .fail).bind fun t S => match t with
      | false => .ok (ρ1, .nx) S
      | true => (f B ρ1 S).bind fun r S => match r.2 with
        | .nx => whileF (fun ρ S => (fc B ρ S).bind fun x S => match x with
          | .bl t => .ok t S
          | _ => .fail) (fun ρ S => f B ρ S) m r.1 S
        | .ret v => .ok (r.1, .ret v) S) (fun r _ μ' H' => EndOk L D μ' H' r) := o1
    refine ⟨μ1, B, ρ1, S1, rs1, rl1, (OutOk.shift e1 (OutOk.bind0 (OutOk.bind0 o1))).imp fun p S2 μ2 H2 e2 rs2 o2 v hv => ?_⟩
    cases p with
    | bl k =>
      have hv : v = .bl k := hv
      refine ⟨k, hv, ?_⟩
      have e12 := e1.trans e2
      cases k with
      | false => exact (OutOk.shift e12 (o2 μ2 H2 e12 rs2)).now rs2 σ1 (rl1.mono e2)
      | true =>
        refine ⟨fun σ' H' => ∃ μ' ρ' S', Ext μ H μ' H' ∧ RelS L μ' H' (B ++ S') ∧ RelR L μ' H' ρ' σ' ∧ OutOk L E μ H B (whileF (fun ρ S => (fc B ρ S).bind fun x S => match x with
          | .bl t => .ok t S
          | _ => .fail) (fun ρ S => f B ρ S) m ρ' S') (fun r _ μ' H' => EndOk L D μ' H' r), fun σ' H' hN => ⟨m, Nat.lt_succ_self _, hN⟩, ?_⟩
        refine ⟨μ2, B, ρ1, S2, rs2, rl1.mono e2, (OutOk.shift e12 (OutOk.bind0 (o2 μ2 H2 e12 rs2))).imp fun r S3 μ3 H3 e3 rs3 o3 => ?_⟩
        obtain ⟨ρ3, fl⟩ := r
        have e13 := e12.trans e3
        cases fl with
        | nx => exact fun σ' rl' => ⟨μ3, ρ3, S3, e13, rs3, rl', o3⟩
        | ret v =>
          intro x hx
          exact (OutOk.shift e13 (show OutOk L E μ H B (.ok (ρ3, Flow.ret v) S3) (fun r _ μ' H' => EndOk L D μ' H' r) from o3)).now rs3 x hx
    | _ => exact False.elim o2
/-! ### for -/
theorem OutOk.afterT {α : Type} {μ : Mu} {H : Hp} {B : Sto} {halt : α → Bool} {k : α → Sto → Out α} {o : Out α} {R : α → Sto → Mu → Hp → Prop} (h : OutOk L E μ H B (RV.afterT halt k o) R) :
    OutOk L E μ H B o (fun a S _ _ => OutOk L E μ H B (match halt a with
      | true => .ok a S
      | false => k a S) R) := by
  cases o with
  | ok a S => exact fun _ _ _ _ => h
  | exc c v S => exact h
  | fail => exact h
def turnS (t : IE) (f : FS) (B : Sto) (x : PV) (r : Loc × Flow) (S : Sto) : Out (Loc × Flow) := match tgt t x r.1 with
  | some ρ' => f B ρ' S
  | none => .fail
theorem s_for {tg iter : Expr} {body : List Stmt} {t : IE} {fi : FE} (hp : PassesOwn (model X.prog X.w) X.A X.env X.xe) (hc : X.calm = true) (hi : PI X tg iter (tI L E fi)) (hg : PG X tg (gT L t)) (hb : PSs X body (tS L E f)) (hs : ∀ x, foldedSetIterable iter X.env x = pure x) :
    PS X (.For tg iter body [] pos) (tS L E fun B ρ S => (fi B ρ S).bind fun src S => loop B isRet (turnS t f B) src (ρ, .nx) S) := PSw (ps_for hp hc hi hg hb hs) fun D σ H h => by
  obtain ⟨μ, B, ρ, S, rs, rl, o⟩ := h
  refine ⟨μ, B, ρ, S, rs, rl, o.bind.imp fun src S1 μ1 H1 e1 rs1 o1 => ?_⟩
  rw [loop_G] at o1
  cases hq : seqOf B S1 src with
  | none => rw [hq] at o1; exact False.elim o1
  | some xs =>
    rw [hq] at o1
    have o1 : OutOk L E μ1 H1 B (loopG (fun i S => itemAt B S src i) isRet (turnS t f B) (xs.length + 1) 0 (ρ, .nx) S1) (fun r _ μ' H' => EndOk L D μ' H' r) := o1
    refine ⟨⟨xs, rfl⟩, fun J hJ => ⟨fun i m σ' H' => ∃ μ' ρ' S', Past B src i ∧ Ext μ1 H1 μ' H' ∧ RelS L μ' H' (B ++ S') ∧ RelR L μ' H' ρ' σ' ∧ OutOk L E μ1 H1 B (loopG (fun i S => itemAt B S src i) isRet (turnS t f B) m i (ρ', .nx) S') (fun r _ μ' H' => EndOk L D μ' H' r), ⟨_, μ1, ρ, S1, Past.zero, Ext.refl _ _, rs1, rl.mono e1, o1⟩, ?_⟩⟩
    rintro i m σ2 H2 ⟨μ2, ρ2, S2, past, e2, rs2, rl2, o2⟩
    cases m with
    | zero => exact False.elim o2
    | succ m =>
      have o2 : OutOk L E μ1 H1 B (stepG isRet (turnS t f B) (ρ2, .nx) S2 (loopG (fun i S => itemAt B S src i) isRet (turnS t f B) m (i + 1)) (itemAt B S2 src i)) (fun r _ μ' H' => EndOk L D μ' H' r) := o2
      cases hit : itemAt B S2 src i with
      | none => rw [hit] at o2; exact False.elim o2
      | some w =>
        rw [hit] at o2
        cases w with
        | none =>
          exact .inl ⟨hJ.stop μ2 H2 S2 i e2.ex0 rs2 past hit, (OutOk.shift e2 (show OutOk L E μ1 H1 B (.ok (ρ2, Flow.nx) S2) (fun r _ μ' H' => EndOk L D μ' H' r) from o2)).now rs2 σ2 rl2⟩
        | some p =>
          obtain ⟨hgo, hy⟩ := hJ.go μ2 H2 S2 i p e2.ex0 rs2 hit
          refine .inr ⟨hgo, fun σ' H' => ∃ μ' ρ' S', Past B src (i + 1) ∧ Ext μ1 H1 μ' H' ∧ RelS L μ' H' (B ++ S') ∧ RelR L μ' H' ρ' σ' ∧ OutOk L E μ1 H1 B (loopG (fun i S => itemAt B S src i) isRet (turnS t f B) m (i + 1) (ρ', .nx) S') (fun r _ μ' H' => EndOk L D μ' H' r), fun σ' H' hN => ⟨m, Nat.lt_succ_self _, hN⟩, fun x H3 hyl => ?_⟩
          obtain ⟨e3, rs3, hx⟩ := hy x H3 hyl
          have o3 := OutOk.afterT (show OutOk L E μ1 H1 B (RV.afterT isRet (loopG (fun i S => itemAt B S src i) isRet (turnS t f B) m (i + 1)) (turnS t f B p (ρ2, .nx) S2)) (fun r _ μ' H' => EndOk L D μ' H' r) from o2)
          cases ht : tgt t p ρ2 with
          | none =>
            have : turnS t f B p (ρ2, .nx) S2 = .fail := by
              unfold turnS
              rw [ht]
            rw [this] at o3
            exact False.elim o3
          | some ρ3 =>
            have : turnS t f B p (ρ2, .nx) S2 = f B ρ3 S2 := by
              unfold turnS
              rw [ht]
            rw [this] at o3
            have e23 := e2.trans e3
            refine ⟨μ2, ρ2, p, ρ3, rl2.mono e3, hx, ht, fun σ3 rl3 _ => ⟨μ2, B, ρ3, S2, rs3, rl3, (OutOk.shift e23 o3).imp fun r S4 μ4 H4 e4 rs4 o4 => ?_⟩⟩
            obtain ⟨ρ4, fl⟩ := r
            have e24 := e23.trans e4
            cases fl with
            | nx => exact fun σ' rl' => ⟨μ4, ρ4, S4, past.succ hit, e24, rs4, rl', o4⟩
            | ret v =>
              intro y hy
              exact (OutOk.shift e24 (show OutOk L E μ1 H1 B (.ok (ρ4, Flow.ret v) S4) (fun r _ μ' H' => EndOk L D μ' H' r) from o4)).now rs4 y hy
/-! ### stores -/
theorem s_name {i : Nat} {x : Str} {p2 : Pos} {t : IE} {loc : Str → Bool} (hK : X.K = L.K) (hc : X.calm = true) (hN : X.N.Nodup) (lo : LocOk X loc) (hi : X.N[i]? = some x) (hl : loc x = true) (he : PE X e (tE L E fe)) (hn : swapsWith e (some (.Name x p2)) pos.line X.env = pure false) :
    PS X (.Assign [.Name x p2] e pos) (tS L E fun B ρ S => (fe B ρ S).bind fun v S => (Out.of (tgt (.var i) v ρ) S).bind fun ρ' S => .ok (ρ', .nx) S) := by
  obtain ⟨l1, l2⟩ := lo.at_ x hl
  refine PSw (ps_set hN hi l1 he hn l2) fun D σ H h => ?_
  obtain ⟨μ, B, ρ, S, rs, rl, o⟩ := h
  refine ⟨μ, B, ρ, S, rs, rl, o.bind.imp fun p S1 μ1 H1 e1 rs1 o1 v hv => ?_⟩
  obtain ⟨ρ', et, o2⟩ := (OutOk.bind o1).of rs1
  have et : (match Nat.blt i ρ.length with
    | true => some (ρ.set i (some p))
    | false => none) = some ρ' := et
  cases c : Nat.blt i ρ.length with
  | false => rw [c] at et; cases et
  | true =>
    rw [c] at et
    have et : some (ρ.set i (some p)) = some ρ' := et
    cases et
    exact OutOk.now o2 rs1 _ ((rl.mono e1).set hv)
/-- (a, b) = .. , a tuple unpacked -/
def isTup : Expr → Bool
  | .Tuple _ _ _ => true
  | _ => false
/-- a tuple of constants: it is folded, and unpacked as any tuple -/
def isTupV : Expr → Bool
  | .Tuple vs _ _ => !vs.all (foldedForSure 8)
  | _ => false
theorem sw_none {tg e : Expr} {env : Env} (h : isTupV e = false) : swappedStores [tg] e env = pure none := by
  cases e with
  | Tuple vs k p =>
    have h : (!vs.all (foldedForSure 8)) = false := h
    rw [Bool.not_eq_false'] at h
    unfold swappedStores
    cases tg <;> first
      | rfl
      | (simp only [h, if_true, ite_self]
         split
         · rfl
         · split
           · rfl
           · split <;> rfl)
      | (simp [h])
  | _ => cases tg <;> rfl
theorem s_tup {tg : Expr} {t : IE} (hg : PG X tg (gT L t)) (he : PE X e (tE L E fe)) (hn : noComp e = true) (ht : isTupV e = false) (h1 : (assignEach [tg] X.env).map (·.2) = [assign tg X.env]) :
    PS X (.Assign [tg] e pos) (tS L E fun B ρ S => (fe B ρ S).bind fun v S => (Out.of (tgt t v ρ) S).bind fun ρ' S => .ok (ρ', .nx) S) := by
  have hw : swappedStores [tg] e X.env = pure none := sw_none ht
  refine PSw (ps_asg he hg (swaps_no hn) hw h1) fun D σ H h => ?_
  obtain ⟨μ, B, ρ, S, rs, rl, o⟩ := h
  refine ⟨μ, B, ρ, S, rs, rl, o.bind.imp fun p S1 μ1 H1 e1 rs1 o1 v hv => ?_⟩
  obtain ⟨ρ', et, o2⟩ := (OutOk.bind o1).of rs1
  exact ⟨μ1, ρ, p, ρ', rl.mono e1, hv, et, fun σ' rl' _ => OutOk.now o2 rs1 σ' rl'⟩
end
end RV
end
section
/-! RVMx: max(xs, default=d), xs a list of numbers. -/
namespace RV
open PySem PySem.Spec PyProof.Rows L2 PySem.W
theorem ints_read {h : Heap} : ∀ {ns : List Int} {its : List Value}, Vals (ns.map V.int) its → ReadsAll h its (ns.map PyData.int) []
  | [], _, .nil => .nil
  | n :: ns, _, .cons r t => by
    obtain ⟨tk, e⟩ := r
    subst e
    exact .cons (as := []) (.int n tk) (ints_read t)
theorem ints_alike (ns : List Int) : AlikeAll (ns.map PyData.int) := ⟨fun x hx y hy => by
  obtain ⟨a, _, rfl⟩ := List.mem_map.mp hx
  obtain ⟨b, _, rfl⟩ := List.mem_map.mp hy
  rfl, fun x hx e => by
  obtain ⟨a, _, rfl⟩ := List.mem_map.mp hx
  cases e⟩
theorem ints_depth : ∀ ns : List Int, PyData.depthAll (ns.map PyData.int) ≤ 1
  | [] => Nat.zero_le _
  | n :: ns => by
    have := ints_depth ns
    show Nat.max (PyData.depth (.int n)) (PyData.depthAll (ns.map PyData.int)) ≤ 1
    exact Nat.max_le.mpr ⟨Nat.le_of_ble_eq_true rfl, this⟩
section
variable {X : Cx} {L : Pl} {E : XK} {pos p : Pos}
theorem c_maxD (hc : X.calm = true) (hK : X.K = L.K) (hu : X.A.units + 65 < cLine) : CallRK X (.builtin "max") [Str.ofString "default"] (fun xs zs H Q => ∃ μ B S q d x z, xs = [x] ∧ zs = [z] ∧ RelS L μ H (B ++ S) ∧ RelP L μ H q x ∧ RelP L μ H d z ∧ OutOk L E μ H B (Out.of (maxF B S q d) S) (fun r _ μ' H' => ∀ v, RelP L μ' H' r v → Q v H')) := by
  intro pins s σ H xs zs us ws Q I r1 r2 h
  obtain ⟨μ, B, S, q, d, x, z, rfl, rfl, rs, hq, hd, o⟩ := h
  obtain ⟨u, rfl, ru⟩ := vals1 r1
  obtain ⟨w, rfl, rw_⟩ := vals1 r2
  obtain ⟨r, er, dm⟩ := o.of'
  unfold maxF at er
  cases e : der B S q with
  | lst ps =>
    rw [e] at er
    have er : (match intsOf ps with
      | some [] => some d
      | some (n :: ns) => some (.int (ns.foldl max n))
      | none => none) = some r := er
    cases e2 : intsOf ps with
    | none => rw [e2] at er; cases er
    | some ns =>
      rw [e2] at er
      obtain ⟨a, ys, ea, ha, la⟩ := der_rel rs hq e
      rw [la.ints e2] at ha
      subst ea
      have eu : u = Value.ref a := ru
      subst eu
      obtain ⟨its, rv, pl, _⟩ := I.list (SqL.of ha)
      have un : X.A.units + 1 + PyData.depthAll (ns.map PyData.int) < cLine := by
        have := ints_depth ns
        omega
      show wpAny (model X.prog X.w) X.A (call (.builtin "max") [.ref a] [(Str.ofString "default", w)]) (EP X pins σ Q) X.xe s
      refine max_list_default (I.ok.hd hc) pl.isList (ints_read rv) (ints_alike ns) un (fun hx h' tk k => ?_) fun y yt i v h' tk bs ex ev rd k => ?_
      · have en : ns = [] := by
          cases ns with
          | nil => rfl
          | cons n r => cases hx
        rw [en] at er
        have er : some d = some r := er
        cases er
        exact ⟨z, H, I.kept (t' := tk) k, rw_, OutOk.now dm rs z hd⟩
      · cases ns with
        | nil => cases ex
        | cons n r =>
          have ex : PyData.int n :: r.map PyData.int = y :: yt := ex
          cases ex
          rw [maxD_ints] at rd
          have er : some (PV.int (r.foldl max n)) = some _ := er
          cases er
          cases rd with
          | int i t => exact ⟨.int (r.foldl max n), H, I.kept (t' := tk) k, ⟨t, rfl⟩, OutOk.now dm rs _ rfl⟩
  | _ => rw [e] at er; cases er
theorem e_maxD {a : Expr} {kws : List Keyword} {f1 f2 : Sto → Loc → Sto → Out (List PV)} (hc : X.calm = true) (hK : X.K = L.K) (hu : X.A.units + 65 < cLine) (hg : Gl X "max") (hm : X.mg "max" = none) (hst : noStar [a] = true) (hkn : kwNames kws = some [Str.ofString "default"])
    (ha : PA X [a] (tA L E f1)) (m1 : Many f1 1) (hk : PK X kws (tA L E f2)) (m2 : Many f2 1) :
    PE X (.Call (.Name "max" p) [a] kws pos) (tE L E fun B ρ S => (f1 B ρ S).bind fun vs S => (f2 B ρ S).bind fun zs S => biF B S .maxD (vs ++ zs)) := by
  obtain ⟨k1, k2, k3, k4⟩ := kw_facts (pos := pos) (env := X.env) hkn
  refine PEw (pe_callBK (c_maxD (E := E) hc hK hu) hg hm (by kernel_rfl) ha hk (by decide) (by decide) (by rw [(star_cons hst).1]; rfl) (star_plain hst) k1 k2 k3) fun σ H Q h => ?_
  · obtain ⟨μ, B, ρ, S, rs, rl, o⟩ := h
    refine ⟨μ, B, ρ, S, rs, rl, o.bind.imp2 fun vs S1 μ1 H1 q1 e1 rs1 o1 xs hv => ⟨μ1, B, ρ, S1, rs1, rl.mono e1, o1.bind.imp2 fun zs S2 μ2 H2 q2 e2 rs2 o2 ys hz => ?_⟩⟩
    have l1 := m1 _ _ _ _ _ q1
    have l2 := m2 _ _ _ _ _ q2
    match vs, zs, l1, l2, hv, hz, o2 with
    | [q], [d], _, _, hv, hz, o2 =>
      obtain ⟨x, xr, ex, hx, hn⟩ := RelL.mono e2 [q] xs hv
      obtain ⟨z, zr, ez, hz, hzn⟩ := hz
      cases hn
      cases hzn
      exact ⟨μ2, B, S2, q, d, x, z, ex, ez, rs2, hx, hz, o2⟩
end
end RV
end
section
/-! RVXi: an own exception made: its __init__ says super().__init__('..') and keeps one field. -/
namespace RV
open PySem PySem.W PySem.Calls PySem.Spec PyProof.Rows PySem.HandSPX
/-- the function object of such an __init__ -/
structure XfT (P : Program) (K : PySem.W.Frag) (C fI : Addr) (f : PySem.Str) (fd : FuncData) : Prop where
  fn : ∃ oc od osl, K.lookup fI = some ⟨oc, od, .func fd, osl⟩
  body : ∃ (tx : PySem.Str) (nk : Nat) (p1 p2 p3 p4 p5 p6 p7 p8 p9 p10 : Pos), (p3.endLine == p5.line) = true ∧ fd.body = .stmts [.Expr (.Call (.Attribute (.Call (.Name "super" p1) [] [] p2) "__init__" p3) [.Constant (.str tx) nk p4] [] p5) p6, .Assign [.Attribute (.Name "self" p7) f p8] (.Name f p9) p10]
  kind : fd.scope.kind = .function
  co : fd.scope.isCoroutine = false
  gen : fd.scope.isGenerator = false
  nsup : fd.scope.names.lookup ("super" : PySem.Str) = some .globalImplicit
  ncls : fd.scope.names.lookup ("__class__" : PySem.Str) = some .free
  nself : fd.scope.names.lookup ("self" : PySem.Str) = some .local
  nf : fd.scope.names.lookup f = some .local
  ncell : ∀ x ∈ fd.scope.names, x.2 ≠ .cell
  fne : ("self" : PySem.Str) ≠ f
  fdb : (f == ("__debug__" : PySem.Str)) = false
  ar : ∃ a : Arg, (fd.params.posonlyargs ++ fd.params.args).head? = some a ∧ a.arg = "self"
  binds : ∀ (s : Shared) (u v : Value), BindsTo s fd ⟨[u, v], []⟩ [("self", u), (f, v)]
  cell : ∃ cc cl cld csl, fd.closure.lookup ("__class__" : PySem.Str) = some cc ∧ K.lookup cc = some ⟨cl, cld, .cell (some (.ref C)), csl⟩
  glob : fd.globals = mainGlobals
  blt : fd.builtins = builtinsNs
  code : ∃ cda ccl cdd vs ccs file tf, fd.code = .ref cda ∧ K.lookup cda = some ⟨ccl, cdd, .fields vs, ccs⟩ ∧ vs[2]? = some (.str file tf) ∧ ((P.main.file : PySem.Str) == file) = true
  rec_ : codeIn K fd.code fd.qualname = true
  top : (P.main.scope.names.lookup ("super" : PySem.Str)).isSome = false
/-- an own exception class at C with the __init__ at fI and the field f -/
structure XcT (P : Program) (K : PySem.W.Frag) (C fI : Addr) (f : PySem.Str) : Prop where
  fn : ∃ fd, XfT P K C fI f fd
  cls : ∃ nm q N bs bm sn sub ab col dd k0 k1 k2 k3 k5, K.lookup C = some (excClassObj nm q C N bs bm true sn sub ab col dd k0 k1 k2 k3 k5 "ValueError.__new__") ∧ refsVE bm = true
  sa : findIn K (.ref C) "__setattr__" = some (some (.builtin "object.__setattr__"))
  ga : findIn K (.ref C) "__getattribute__" = some (some (.builtin "BaseException.__getattribute__"))
  gg : findIn K (.ref C) "__getattr__" = some none
  noN : findIn K (.ref C) f = some none
  iC : findIn K (.ref C) "__init__" = some (some (.ref fI))
  tI : typeIn K (.ref fI) = some (.type "function")
  kC : keepIn K (.ref C) = true
  exC : subIn K (.ref C) (.type "BaseException") = some true
  tyC : typeIn K (.ref C) = some (.type "type")
  hdC : hasDictIn K C = true
  sup : ks_superIn K C C "__init__" = some (some (.builtin "ValueError.__init__"))
  sub : subIn K (.ref C) (.type "ValueError") = some true
  mro : mroIn K C (.ref C) = some true
  opq : nsIn K cStatics "thirdparty.any" = some none
/-- behind __init__, x the new exception -/
structure XiE (h g : Heap) (x C d : Addr) (f : PySem.Str) (v : Value) : Prop where
  old : ∀ b o, b ≠ x → h.get? b = some o → g.get? b = some o
  obj : ∃ t, g.get? x = some { cls := .ref C, dict := some d, data := .fields #[.ref t, .none, .none, .none, .bool false, .none] }
  new : h.objs.size ≤ d
  ne : d ≠ x
  ns : g.Ns1 d (fun y => if y = f then some v else none)
section
variable {prog : Program} {w : World} {A : Around} {E : Value → Shared → Prop} {R : Result → Shared → Prop} {s : Shared} {K : PySem.W.Frag} {mg : PySem.Str → Option Value} {C fI : Addr} {f : PySem.Str}
theorem mw_call {u x t0 : Addr} {rest : List Value} {Q : Value → Shared → Prop} {h : Heap} {g : Array GenState} {d : Drawn} {t : Nat} {os : OsState} {nm q : PySem.Str} {N : Addr} {bs bm : List Value} {hdct : Bool} {sn : List PySem.Str} {sub : List Value} {ab : Bool} {col : Option Bool} {dd : Option Addr} {k0 k1 k2 k3 k5 : Option Value}
    (hC : h.get? C = some (excClassObj nm q C N bs bm hdct sn sub ab col dd k0 k1 k2 k3 k5 "ValueError.__new__")) (hx : h.get? x = some (excO C t0)) (hu : h.get? u = some (kxs_mw "ValueError.__init__" x)) (hz : rest.length ≤ sizeLine)
    (fin : ∀ h' t1, (∀ b o, b ≠ x → h.get? b = some o → h'.get? b = some o) → h'.get? x = some (excO C t1) → Q .none ⟨h', g, d, t, os⟩) : wpAny (model prog w) A (call (.ref u) rest) Q E ⟨h, g, d, t, os⟩ := by
  refine wpAny_call (codeAny_of_tree ?_)
  show wpAny _ A.in1 (callAny (.ref u) ⟨rest, []⟩) _ _ _
  unfold callAny
  refine wpAny_bind (wpAny_load hu ?_)
  simp only [kxs_mw, show (Value.type "method-wrapper" == Value.type "method" || Value.type "method-wrapper" == Value.type "builtin_function_or_method" || Value.type "method-wrapper" == Value.type "method-wrapper") = true by decide, if_true]
  refine KFB.if_so (by decide) (wpAny_bind (check_bound_init F.excBase_ValueError.toExcCallFacts hC hx rfl (wpAny_bind (wpAny_pure (wpAny_pure ⟨plainId_quiet F.excBase_ValueError.init.plain _, codeAny_builtin F.excBase_ValueError.initEntry ?_⟩)))))
  exact exc_init_tree (cls := .ref C) (t0 := t0) (dv := none) (c2 := .none) (c3 := .none) (b4 := .bool false) hx hz fun h' k e _ => fin h' _ k e
theorem sup_tree {o e : Expr} {m : PySem.Str} {apos pos : Pos} {env : Env} (he : starEach [e] env = [(false, eval e env)]) (h4 : (apos.endLine == pos.line) = true) :
    eval (.Call (.Attribute o m apos) [e] [] pos) env = (do
      let ov ← attributeBase o m env (eval o env)
      standAt apos.atName
      let (f, first) ← holding [ov] (getMethod ov m (do return (← importBound o env).getD true))
      callWith pos f first (backTo pos (starEach [e] env)) []) := by
  have t : (fun ov => methodCall o m apos pos env ov (1 + 0) (backTo pos (starEach [e] env)) (backToKw pos (keywordEach [] env))) = fun ov => (do
      let (f, first) ← holding [ov] (getMethod ov m (do return (← importBound o env).getD true))
      callWith pos f first (backTo pos (starEach [e] env)) []) := funext fun ov => by
    unfold methodCall
    have hf : methodCallForm (1 + 0) (backTo pos (starEach [e] env)) (backToKw pos (keywordEach [] env)) = true := by
      rw [he]
      rfl
    rw [hf]
    unfold calleeOf methodCallPos
    rw [h4]
    simp
    rfl
  rw [arm_eval_Call]
  exact congrArg (fun k : Value → Sem Value => (do
      let ov ← attributeBase o m env (eval o env)
      standAt apos.atName
      k ov)) t
theorem x_init (T : XcT prog K C fI f) {x t0 : Addr} {v : Value} {mb : PySem.Str → Option Value} (X : K.In s.heap) (G : s.heap.Ns mainGlobals mg) (gs : mg "super" = none) (Bn : s.heap.Ns builtinsNs mb) (bsup : mb "super" = some (.type "super")) (hlim : s.heap.NoLimit)
    (hx : s.heap.get? x = some (excO C t0)) (hnx : K.lookup x = none) (hroom : A.depth < recursionLimit)
    (fin : ∀ h' tk d, XiE s.heap h' x C d f v → R (.ok (.ret .none)) { s with heap := h', toks := tk }) :
    codeAny (model prog w) A (.call (.ref fI) ⟨[.ref x, v], []⟩) R s := by
  obtain ⟨fd, Y⟩ := T.fn
  obtain ⟨nm, q, N, bs, bm, sn, sub, ab, col, dd, k0, k1, k2, k3, k5, hC, hbm⟩ := T.cls
  obtain ⟨oc, od, osl, hfn⟩ := Y.fn
  obtain ⟨tx, nk, p1, p2, p3, p4, p5, p6, p7, p8, p9, p10, hln, hb⟩ := Y.body
  obtain ⟨ar, har, ha⟩ := Y.ar
  obtain ⟨cc, cl, cld, csl, hcc, hcell⟩ := Y.cell
  obtain ⟨cda, ccl, cdd, vs, ccs, file, tf, hco, hcda, hvs, hfile⟩ := Y.code
  have hcl : clsIn K C = some { name := nm, bases := bs, mro := .ref C :: bm, ns := N, qualname := q, hasDict := true, slotNames := sn, subclasses := sub, abstract := ab, collection := col, hasDel := false } := by unfold clsIn; rw [hC] <;> rfl
  refine ks_codeAny_call_defAt hroom (X _ _ hfn) rfl hlim (codeRec_of X Y.rec_) hb (Y.binds s (.ref x) v) Y.ncell ?_ (fun h0 ns0 up0 => ?_) Y.co Y.gen Y.kind
  · intro z hz
    rcases List.mem_cons.mp hz with e | hz
    · rw [e]; exact Y.nself
    · rw [List.mem_singleton.mp hz]; exact Y.nf
  have X0 : K.In h0 := X.keeps up0
  have x0 := up0 _ _ hx
  have xL : x ≠ s.heap.objs.size := Nat.ne_of_lt (Heap.lt_size hx)
  have I0 : InstAt h0 x (excO C t0) C none := ⟨x0, rfl, rfl, trivial⟩
  have hik : ¬ (fd.scope.kind = .module) := by rw [Y.kind]; decide
  refine ks_wpAt_execs_cons (ks_wpAt_Expr_any (ks_wpAt_MethodCall (ks_wpAt_super_base (s := ⟨h0, s.gens, s.drawn, s.toks + 2, s.os⟩) Y.nsup Y.ncls (by decide) rfl (X0 _ _ hfn) rfl har hco (X0 _ _ hcda) rfl hvs hfile Y.top ?_) (sup_tree rfl hln)) (by show (fd.scope.kind == .module && _) = false; rw [Y.kind]; rfl) (swaps_no rfl))
  refine ks_loadName_global Y.kind Y.nsup (loadGlobal_builtin (by rw [show (callEnv fd s.heap.objs.size fI).globals = mainGlobals from Y.glob]; exact G.keeps up0) gs (by rw [show (callEnv fd s.heap.objs.size fI).builtins = builtinsNs from Y.blt]; exact Bn.keeps up0) bsup ⟨rfl, ?_⟩)
  refine wpAny_loadName_free Y.kind Y.ncls hcc ⟨_, X0 _ _ hcell, rfl⟩ ?_
  have look : ∀ y u, (if y = f then some v else if y = "self" then some (Value.ref x) else none) = some u → (fun z => List.lookup z [(("self" : PySem.Str), Value.ref x), (f, v)].reverse) y = some u := fun y u e => by
    show List.lookup y [(f, v), (("self" : PySem.Str), Value.ref x)] = some u
    rw [List.lookup_cons, List.lookup_cons]
    by_cases h1 : y = f
    · rw [if_pos h1] at e
      rw [h1, beq_self_eq_true]
      exact e
    · rw [if_neg h1] at e
      rw [show (y == f) = false by simpa using h1]
      by_cases h2 : y = "self"
      · rw [if_pos h2] at e
        rw [h2, beq_self_eq_true]
        exact e
      · rw [if_neg h2] at e
        cases e
  rw [ha]
  refine wpAny_loadName_local Y.kind Y.nself ns0 (look "self" (.ref x) (by rw [if_neg Y.fne, if_pos rfl])) ?_
  refine ks_wpAny_isType_cls (X0 _ _ hC) rfl ⟨rfl, ?_⟩
  refine ks_wpAny_call_super (X0 _ _ hC) rfl x0 rfl (fun c e => by cases e) (looks_mroIn X0 T.mro) fun h1 so1 up1 => ?_
  have X1 : K.In h1 := X0.keeps up1
  have x1 := up1 _ _ x0
  have I1 : InstAt h1 x (excO C t0) C none := ⟨x1, rfl, rfl, trivial⟩
  have sup := T.sup
  unfold ks_superIn at sup
  rw [hcl] at sup
  have mroL : Looks (model prog w) h1 (mroOf (.ref C)) (.ref C :: bm) := (looks_clsIn X1 hcl).andThen .now
  refine kxs_getMethod kxs_ValueError so1 (looks_opaque X1 T.opq) mroL rfl X1 sup (I1.type.andThen (looks_subIn X1 T.sub)) (fun e => ?_) (by decide) ?_
  · rw [e] at hnx
    rw [hnx] at hC
    cases hC
  have up2 : ∀ b o, h1.get? b = some o → (h1.push (kxs_mw "ValueError.__init__" x)).get? b = some o := fun _ _ e => Heap.get?_push_of_some _ e
  have at2 : (h1.push (kxs_mw "ValueError.__init__" x)).get? h1.objs.size = some (kxs_mw "ValueError.__init__" x) := Heap.get?_push_size _ rfl
  refine kxs_callWith (i := "ValueError.__init__") (x := x) rfl (evalArgs_plain ?_)
  refine spliced_cons (Constant_str (k := nk) (pos := p4) (spliced_nil ⟨at2, ?_⟩))
  refine mw_call (X1.keeps up2 _ _ hC) (up2 _ _ x1) at2 (by show 1 ≤ sizeLine; decide) fun h3 t3 k3 x3 => ?_
  have far : ∀ {b : Addr} {o : Obj}, h0.get? b = some o → b ≠ x → h3.get? b = some o := fun {b o} e n => k3 b o n (up2 _ _ (up1 _ _ e))
  have X3 : K.In h3 := fun b o e => far (X0 _ _ e) fun z => by rw [z, hnx] at e; cases e
  have ns3 : h3.Ns s.heap.objs.size (fun z => List.lookup z [(("self" : PySem.Str), Value.ref x), (f, v)].reverse) := ns0.at fun o e => far e (Ne.symm xL)
  refine ks_wpAt_execs_cons (ks_wpAt_Assign_Attr (wpAt_of_wpAny ?_) (swaps_no rfl))
  refine wpAny_Name (wpAny_loadName_local Y.kind Y.nf ns3 (look f v (by rw [if_pos rfl])) ?_) Y.fdb
  refine wpAny_Name (wpAny_loadName_local Y.kind Y.nself ns3 (look "self" (.ref x) (by rw [if_neg Y.fne, if_pos rfl])) ?_) (by decide)
  refine set_plain X3 (ox := excO C t3) (od := none) ⟨x3, rfl, rfl, trivial⟩ T.sa ?_
  refine exc_osa X3 x3 hcl (show refsVE (.ref C :: bm) = true from hbm) rfl T.noN (fun h4 tk4 d k4 dn dne hx4 ns4 => ?_)
  have big : s.heap.objs.size ≤ h3.objs.size := Nat.le_of_lt ns3.lt
  refine wpAt_of_wpAny (wpAny_execs_nil (fin h4 tk4 d { old := fun b o n e => k4 b o n (far (up0 _ _ e) n), obj := ⟨t3, hx4⟩, new := Nat.le_trans big dn, ne := dne, ns := ns4 }))
/-- C(v) -/
theorem x_make (T : XcT prog K C fI f) {v : Value} {mb : PySem.Str → Option Value} (X : K.In s.heap) (G : s.heap.Ns mainGlobals mg) (gs : mg "super" = none) (Bn : s.heap.Ns builtinsNs mb) (bsup : mb "super" = some (.type "super")) (hlim : s.heap.NoLimit) (hroom : A.depth + 1 < recursionLimit)
    (fin : ∀ g tk e d, e = s.heap.objs.size + 1 → (∀ b o, s.heap.get? b = some o → g.get? b = some o) → (∃ t, g.get? e = some { cls := .ref C, dict := some d, data := .fields #[.ref t, .none, .none, .none, .bool false, .none] }) → s.heap.objs.size ≤ d → d ≠ e → g.Ns1 d (fun y => if y = f then some v else none) → R (.ok (.ret (.ref e))) { s with heap := g, toks := tk }) :
    codeAny (model prog w) A (.call (.ref C) ⟨[v], []⟩) R s := by
  obtain ⟨nm, q, N, bs, bm, sn, sub, ab, col, dd, k0, k1, k2, k3, k5, hC, hbm⟩ := T.cls
  obtain ⟨hp, gn, dr, tk, os⟩ := s
  have up : ∀ b o, hp.get? b = some o → ((hp.push (kdv_tup [v])).push (excO C hp.objs.size)).get? b = some o := fun _ _ e => Heap.get?_push_of_some _ (Heap.get?_push_of_some _ e)
  have at_ : ((hp.push (kdv_tup [v])).push (excO C hp.objs.size)).get? (hp.objs.size + 1) = some (excO C hp.objs.size) := by
    have := Heap.get?_push_size (hp.push (kdv_tup [v])) (o := excO C hp.objs.size) rfl
    rw [Heap.size_push] at this
    exact this
  have out : K.lookup (hp.objs.size + 1) = none := by
    cases e : K.lookup (hp.objs.size + 1) with
    | none => rfl
    | some o => exact absurd (Heap.lt_size (X _ _ e)) (Nat.not_lt.mpr (Nat.le_succ _))
  refine call_own F.excBase_ValueError (fun Y => refsVE_contains Y bm hbm) (X _ _ hC) (looks_findIn X T.iC) (fun self => bind_fn X self T.tI) (by show 1 ≤ sizeLine; decide) (x_init (s := ⟨(hp.push (kdv_tup [v])).push (excO C hp.objs.size), gn, dr, tk, os⟩) T (X.keeps up) (G.keeps up) gs (Bn.keeps up) bsup (hlim.keeps up) at_ out hroom fun g tk' d z => ⟨rfl, ?_⟩)
  have big : hp.objs.size + 2 ≤ d := by
    have := z.new
    rw [Heap.size_push, Heap.size_push] at this
    exact this
  exact fin g tk' _ d rfl (fun b o e => z.old b o (Nat.ne_of_lt (Nat.lt_succ_of_lt (Heap.lt_size e))) (up b o e)) z.obj (by show hp.objs.size ≤ d; omega) z.ne z.ns
end
end RV
end
section
/-! RVXr: raise C(e). -/
namespace RV
open PySem PySem.Spec PyProof.Rows L2
section
variable {X : Cx} {L : Pl} {E : XK} {C fI : Addr} {f x : PySem.Str} {e : Expr} {p pos pos2 : Pos}
/-- C(e), C an own exception -/
theorem mk_x {te : TE} {k : Nat} (T : XcT X.prog X.K C fI f) (gs : X.mg "super" = none) (hm : X.mg x = some (.ref C)) (hg : Gl X x) (hdb : (x == ("__debug__" : PySem.Str)) = false) (rm : Room k X.A) (he : PE X e te) (hst : starEach [e] X.env = [(false, eval e X.env)]) :
    PMk X (.Call (.Name x p) [e] [] pos) (fun σ H Q => te σ H fun v H1 => ∀ d, H1 d = none → Q (.ref C) (some d) (upd H1 d (.xd [(f, v)]))) := by
  intro pins s σ H Q I h
  refine wpAny_Call_Name_kw (ld_glob I hg hm ?_ hdb)
  refine PySem.W.callWith_K (h₀ := X.base) I.ok.mod.kin T.kC (thn ((pa_cons he pa_nil (by rw [hst]; rfl)).run pos pins s σ H (fun vs H1 => match vs with
    | [v] => ∀ d, H1 d = none → Q (.ref C) (some d) (upd H1 d (.xd [(f, v)]))
    | _ => False) I h) fun us s1 z => ?_) hst rfl
  obtain ⟨vs, H1, J, rv, q⟩ := z
  match vs, rv, q with
  | [v], rv, q =>
    obtain ⟨u, eu, ru⟩ := vals1 rv
    subst eu
    refine ⟨J.kIn, ?_⟩
    obtain ⟨mb, b1, b2⟩ := J.mod.blt
    have glb : s1.heap.Ns mainGlobals X.mg := J.mod.glob.keeps J.bk
    have bsup : mb "super" = some (.type "super") := (b2 "super" (by decide)).trans (by kernel_rfl)
    have lim := J.nolimit
    have dp := rm.dp
    refine wpAny_call (x_make T J.kIn glb gs (b1.keeps J.bk) bsup lim (by omega) fun g tk a d ea old ob nd dne ns => ?_)
    obtain ⟨t, ob⟩ := ob
    obtain ⟨G, g1, g2⟩ := restrict g fun b => decide (b ≠ a)
    have off : ∀ b, b ≠ a → G.get? b = g.get? b := fun b n => g1 b (decide_eq_true n)
    have none_ : G.get? a = none := g2 a (decide_eq_false fun n => n rfl)
    have ge : s1.heap.objs.size ≤ a := by rw [ea]; exact Nat.le_succ _
    have up : ∀ b o, s1.heap.get? b = some o → G.get? b = some o := fun b o e => by
      rw [off b (Nat.ne_of_lt (Nat.lt_of_lt_of_le (Heap.lt_size e) ge))]
      exact old b o e
    have fld : ∀ y, L2.RelO (List.lookup y [(f, v)]) (if y = f then some u else none) := fun y => by
      rw [List.lookup_cons]
      by_cases e : y = f
      · rw [if_pos e, e, beq_self_eq_true]
        exact ru
      · rw [if_neg e, show (y == f) = false by simpa using e]
        exact trivial
    have J2 : L2.Inv X pins σ (upd H1 d (.xd [(f, v)])) { s1 with heap := G, toks := tk } := J.laid (t' := tk) up nd ⟨_, ns.at fun o e => (off d dne).trans e, fld⟩
    refine ⟨a, _, _, { s1 with heap := G, toks := tk }, _, .ref C, some d, rfl, J2, fun b o e => ?_, none_, ob, ⟨rfl, rfl⟩, rfl, rfl, ?_, rfl, J.bare, raises_own T.exC T.tyC, q d (J.hok.fresh nd)⟩
    · by_cases n : b = a
      · rw [n] at e
        exact absurd (none_.symm.trans e) (by intro z; cases z)
      · exact (off b n).symm.trans e
    · rw [upd_ne (Ne.symm dne)]
      exact J.hok.fresh ge
/-- raise C(e) -/
theorem s_raise {c : Nat} {k : Nat} {fe : FE} (hc : X.calm = true) (T : XcT X.prog X.K (L.ca c) fI (L.xf c)) (gs : X.mg "super" = none) (hm : X.mg x = some (.ref (L.ca c))) (hg : Gl X x) (hdb : (x == ("__debug__" : PySem.Str)) = false) (rm : Room k X.A) (tk : Takes X fun cls d _ H => E cls d H) (he : PE X e (tE L E fe)) (hst : starEach [e] X.env = [(false, eval e X.env)]) :
    PS X (.Raise (some (.Call (.Name x p) [e] [] pos)) none pos2) (tS L E fun B ρ S => (fe B ρ S).bind fun v S => .exc c v S) := by
  refine PSw (ps_raise hc tk (mk_x T gs hm hg hdb rm he hst)) fun D σ H h => ?_
  obtain ⟨μ, B, ρ, S, rs, rl, o⟩ := h
  exact ⟨μ, B, ρ, S, rs, rl, o.bind.imp fun v S1 μ1 H1 e1 rs1 o1 y hy d hd => o1 μ1 _ d y (Ext.laid rs1 hd) (rs1.laid hd) (RelP.mono (Ext.laid rs1 hd) v y hy) upd_same⟩
end
end RV
end
section
/-! RVXt: try: .. except C as e: return e.f -/
namespace RV
open PySem PySem.Spec PyProof.Rows L2
section
variable {X : Cx} {L : Pl} {E : XK} {C fI : Addr} {f n xn : PySem.Str} {i : Nat}
/-- a weaker wish, for states of this def alone -/
theorem takes_len {W W' : WX} (t : Takes X W) (h : ∀ c d (σ : L2.St) H, σ.length = X.N.length → W' c d σ H → W c d σ H) : Takes X W' := fun u s' z => by
  obtain ⟨a, B, sI, pins, σ, H, cls, d, e, I, z⟩ := z
  obtain ⟨z1, z2, z3, z4, z5, z6, w⟩ := z
  exact t u s' ⟨a, B, sI, pins, σ, H, cls, d, e, I, z1, z2, z3, z4, z5, z6, h _ _ _ _ I.len w⟩
/-- e.f, e the exception that the suite holds -/
def tXf (i : Nat) (C : Addr) (f : PySem.Str) (a : Addr) (cls : Value) (d : Option Addr) : TE := fun σ H Q => σ[i]? = some (some (.ref a)) ∧ cls = .ref C ∧ ∃ (dd : Addr) (v : V), d = some dd ∧ H dd = some (.xd [(f, v)]) ∧ Q v H
theorem e_xf {a : Addr} {oe : Obj} {cls : Value} {d : Option Addr} {pn : List (Addr × Obj)} {q1 pos : Pos} (T : XcT X.prog X.K C fI f) (hi : X.N[i]? = some n) (hv : Vis X.env.scope n) (hdb : (n == ("__debug__" : PySem.Str)) = false) (hcd : (n == ("__classdict__" : PySem.Str)) = false) (hz : Zc cls d oe) (hf : ∃ vs, oe.data = .fields vs) :
    PE (X.suite a ((a, oe) :: pn)) (.Attribute (.Name n q1) f pos) (tXf i C f a cls d) := by
  refine ⟨fun pins s σ H Q I h => ?_⟩
  obtain ⟨es, ec, dd, v, ed, ex, q⟩ := h
  subst ec ed
  refine attr_of rfl (thn ((pe_var (X := X.suite a ((a, oe) :: pn)) (pos := q1) hi hv hdb hcd).run pins s σ H (fun w H1 => w = .ref a ∧ H1 dd = some (.xd [(f, v)]) ∧ Q v H1) I ⟨_, es, rfl, ex, q⟩) fun u s1 z => ?_)
  obtain ⟨w, H1, J, rw_, ew, ex1, q1⟩ := z
  subst ew
  have eu : u = Value.ref a := rw_
  subst eu
  obtain ⟨at_, _⟩ := J.pin (a, oe) (List.mem_append_left _ List.mem_cons_self)
  obtain ⟨vs, dat⟩ := hf
  obtain ⟨mA, ns, rel⟩ := (show ObjOk X.prog X.w H1 s1.heap dd (.xd [(f, v)]) from J.hok dd _ ex1)
  obtain ⟨od, ho, hl⟩ := lookIn_ns ns
  have lk : List.lookup f [(f, v)] = some v := by rw [List.lookup_cons, beq_self_eq_true]
  obtain ⟨u, hu, ru⟩ := RelO.some_of (v := v) (o := mA f) (lk ▸ rel f)
  have inst : PySem.W.InstAt s1.heap a oe C (some od) := ⟨at_, hz.1, by unfold PySem.W.notCls; rw [dat] <;> rfl, by rw [hz.2]; exact ho⟩
  exact HandSPX.exc_get J.kIn inst T.ga T.gg T.exC (PySem.W.findObj_own T.hdC T.noN rfl (by rw [hl, hu])) (handed_of ru) ⟨v, H1, J.tok _, ru, q1⟩
def tryF (c : Nat) (f : FS) : FS := fun B ρ S => match f B ρ S with
  | .ok r S' => .ok r S'
  | .exc c' v S' => match Nat.beq c' c with
    | true => .ok (ρ, .ret v) S'
    | false => .fail
  | .fail => .fail
theorem s_try {c : Nat} {body : List Stmt} {fb : FS} {np q1 q2 q3 pos pos' : Pos} (stk : X.stack = X.env :: X.outer) (frm : X.env.frame = some X.env.locals) (hN : X.N.Nodup) (hi : X.N[i]? = some n) (hln : X.env.kindOf n = some .local) (hdb : (n == ("__debug__" : PySem.Str)) = false) (hcd : (n == ("__classdict__" : PySem.Str)) = false)
    (nm : Names X xn (.ref (L.ca c))) (tk : Takes X fun cls d _ H => E cls d H) (T : XcT X.prog X.K (L.ca c) fI (L.xf c)) (exm : PySem.W.exmOne X.K (.ref (L.ca c)) (.ref (L.ca c)) = some true)
    (hb : ∀ (E' : XK) (pn : List (Addr × Obj)) (xe : Value → Shared → Prop), (Takes (X.tr pn xe) fun cls d _ H => E' cls d H) → PassesOwn (model X.prog X.w) X.A X.env xe → PSs (X.tr pn xe) body (tS L E' fb)) :
    PS X (.Try body [.ExceptHandler (some (.Name xn np)) (some n) [.Return (some (.Attribute (.Name n q1) (L.xf c) q2)) q3] pos'] [] [] pos) (tS L E (tryF c fb)) := by
  refine PSw (ps_try_as (tb := fun W => tS L (fun cls d H => ∀ σ : L2.St, σ.length = X.N.length → W cls d σ H) fb) (ts := fun a cls d => tRet (tXf i (L.ca c) (L.xf c) a cls d)) stk frm hN hi hln nm tk (fun W pn xe t ow => hb _ pn xe (takes_len t fun _ _ σ _ l z => z σ l) ow)
    fun a oe cls d pn hz hf => pss_one (ps_ret (e_xf T hi (.inl hln) hdb hcd hz hf))) fun D σ H h => ?_
  obtain ⟨μ, B, ρ, S, rs, rl, o⟩ := h
  refine ⟨μ, B, ρ, S, rs, rl, ?_⟩
  unfold tryF at o
  cases e : fb B ρ S with
  | ok r S' => rw [e] at o; exact o
  | fail => rw [e] at o; exact False.elim o
  | exc c' v S' =>
    rw [e] at o
    have o2 : OutOk L E μ H B (match Nat.beq c' c with
      | true => .ok (ρ, .ret v) S'
      | false => .fail) (fun r _ μ' H' => EndOk L D μ' H' r) := o
    cases q : Nat.beq c' c with
    | false => rw [q] at o2; exact False.elim o2
    | true =>
      rw [q] at o2
      clear o
      have ec := Nat.eq_of_beq_eq_true q
      subst ec
      intro μ' H' d x ex rs' hx hd σ' len
      refine ⟨true, exm, fun _ a _ => ?_, fun z => by cases z⟩
      have il : i < σ'.length := by rw [len]; exact (List.getElem?_eq_some_iff.mp hi).1
      exact ⟨List.getElem?_set_self il, rfl, d, x, rfl, hd, o2 μ' H' ex rs' x hx⟩
end
end RV
end
section
/-! RVSet: stores to places and fields, swapped stores. -/
namespace RV
open PySem PySem.Spec PyProof.Rows L2
def setF (B S : Sto) (x y v : PV) : Out Unit := match x with
  | .obj n => match getS B S n with
    | some (.lst xs) => match y with
      | .int (.ofNat k) => match Nat.blt k xs.length with
        | true => match setS B S n (.lst (xs.set k v)) with
          | some S' => .ok () S'
          | none => .fail
        | false => .fail
      | _ => .fail
    | some (.dct kvs) => match RV.putK true y v kvs with
      | some kvs' => match setS B S n (.dct kvs') with
        | some S' => .ok () S'
        | none => .fail
      | none => .fail
    | some (.dlf kvs) => match RV.putK false y v kvs with
      | some kvs' => match setS B S n (.dlf kvs') with
        | some S' => .ok () S'
        | none => .fail
      | none => .fail
    | _ => .fail
  | _ => .fail
def rSet (L : Pl) (E : XK) : TSet := fun o i v H Q => ∃ μ B S x y p, RelS L μ H (B ++ S) ∧ RelP L μ H x o ∧ RelP L μ H y i ∧ RelP L μ H p v ∧ OutOk L E μ H B (setF B S x y p) (fun _ _ _ H' => Q H')
theorem putK_some {t : Bool} {k v : PV} {kvs kvs' : List (PV × PV)} (h : RV.putK t k v kvs = some kvs') : keyOk t k = true ∧ kvs.length ≤ 1000000 ∧ kvs' = putV k v kvs := by
  have h : (match keyOk t k && Nat.ble kvs.length 1000000 with
    | true => some (putV k v kvs)
    | false => none) = some kvs' := h
  cases c : keyOk t k && Nat.ble kvs.length 1000000 with
  | false => rw [c] at h; cases h
  | true =>
    rw [c] at h
    have h : some (putV k v kvs) = some kvs' := h
    rw [Bool.and_eq_true] at c
    exact ⟨c.1, Nat.le_of_ble_eq_true c.2, (Option.some.inj h).symm⟩
theorem RelD.length {L : Pl} {μ : Mu} {H : Hp} : ∀ {kvs : List (PV × PV)} {xs : List (NestedKey × Addr × Value)}, RelD L μ H kvs xs → kvs.length = xs.length
  | [], _, h => by
    have h : _ = [] := h
    rw [h]; rfl
  | (k, p) :: kvs, _, h => by
    obtain ⟨b, v, u, r, e, _, _, _, _, h4⟩ := h
    rw [e, List.length_cons, List.length_cons, h4.length]
theorem RelK.length {L : Pl} {μ : Mu} {H : Hp} : ∀ {kvs : List (PV × PV)} {xs : List (Key × V)}, RelK L μ H kvs xs → kvs.length = xs.length
  | [], _, h => by
    have h : _ = [] := h
    rw [h]; rfl
  | (k, p) :: kvs, _, h => by
    obtain ⟨v, r, e, _, _, h4⟩ := h
    rw [e, List.length_cons, List.length_cons, h4.length]
section
variable {X : Cx} {L : Pl} {E : XK} {pos : Pos} {e : Expr} {fe : FE}
theorem p_set (hP : X.prog = L.P) (hw : X.w = L.w) (hK : X.K = L.K) (hu : X.A.units + 65 < cLine) : PSet X (rSet L E) := by
  intro pins s σ H o i v ov iv u Q I ro ri rv h
  obtain ⟨μ, B, S, x, y, p, rs, hx, hy, hp, ou⟩ := h
  cases x with
  | obj n =>
    cases g : getS B S n with
    | none => unfold setF at ou; simp only [g] at ou; exact False.elim ou
    | some ob =>
      obtain ⟨a, ea, em, hro⟩ := rs.get g hx
      cases ob with
      | lst xs =>
        unfold setF at ou
        simp only [g] at ou
        cases y with
        | int j =>
          cases j with
          | ofNat k =>
            have ou : OutOk L E μ H B (match Nat.blt k xs.length with
              | true => (match setS B S n (.lst (xs.set k p)) with
                | some S' => .ok () S'
                | none => .fail)
              | false => .fail) (fun _ _ _ H' => Q H') := ou
            cases c : Nat.blt k xs.length with
            | false => rw [c] at ou; exact False.elim ou
            | true =>
              rw [c] at ou
              have ou : OutOk L E μ H B (match setS B S n (.lst (xs.set k p)) with
                | some S' => .ok () S'
                | none => .fail) (fun _ _ _ H' => Q H') := ou
              cases es : setS B S n (.lst (xs.set k p)) with
              | none => rw [es] at ou; exact False.elim ou
              | some S' =>
                rw [es] at ou
                obtain ⟨hn, eS⟩ := setS_some es
                obtain ⟨ys, h1, h2⟩ := hro
                have hk : k < ys.length := by rw [← h2.length]; exact Nat.le_of_ble_eq_true c
                have hy : i = .int (Int.ofNat k) := hy
                have ix : ixN ys.length (Int.ofNat k) = some k := by
                  unfold ixN
                  have z1 : (0 : Int) ≤ Int.ofNat k := Int.natCast_nonneg k
                  have z2 : Int.ofNat k < (ys.length : Int) := Int.ofNat_lt.mpr hk
                  rw [if_pos z1, if_pos z2]
                  rfl
                refine set_list pins s σ H o i v ov iv u Q I ro ri rv ⟨a, ys, _, k, ea, hy, h1, ix, ?_⟩
                have ext := Ext.write (o := .lst (ys.set k v)) rs em hn
                refine ou μ _ ext ?_
                rw [eS]
                exact rs.write em hn ⟨_, upd_same, (RelL.mono ext xs ys h2).set k (RelP.mono ext p v hp)⟩
          | negSucc k => exact False.elim ou
        | _ => exact False.elim ou
      | dct kvs =>
        unfold setF at ou
        simp only [g] at ou
        cases ep : RV.putK true y p kvs with
        | none => rw [ep] at ou; exact False.elim ou
        | some kvs' =>
          rw [ep] at ou
          have ou : OutOk L E μ H B (match setS B S n (.dct kvs') with
            | some S' => .ok () S'
            | none => .fail) (fun _ _ _ H' => Q H') := ou
          cases es : setS B S n (.dct kvs') with
          | none => rw [es] at ou; exact False.elim ou
          | some S' =>
            rw [es] at ou
            obtain ⟨hn, eS⟩ := setS_some es
            obtain ⟨hk, hle, ekv⟩ := putK_some ep
            obtain ⟨xs, h1, h2, h3, h4⟩ := hro
            obtain ⟨zs, ey, _⟩ := keyT hk
            have hyb : ∃ b, i = .ref b := by
              rw [ey] at hy
              obtain ⟨b, ws, eb, _⟩ := hy
              exact ⟨b, eb⟩
            obtain ⟨b, eb⟩ := hyb
            rw [eb] at hy ri
            have ri : iv = Value.ref b := ri
            rw [ea] at ro
            have ro : ov = Value.ref a := ro
            rw [ro, ri, hP, hw]
            have hd := dct_at I hK h1 h2 h4
            refine wpAny_setItem_heap (knd := nestedKind L.P L.w) ?_ (key_at I hK hk hy) hd (fun h' hd' sb => ?_) ?_
            · show X.A.units + 1 + 8 < cLine
              omega
            · have ext := Ext.write (o := DctX L a (storedH xs (nk y) b u)) rs em hn
              refine ⟨_, I.write (e := a) (o := DctX L a (storedH xs (nk y) b u)) (t' := s.toks + (nestedKind L.P L.w).draws (nk y)) (by rw [h1]; trivial) (.inl rfl) (fun c o hc ho => (sb.2 c hc).trans ho) ?_ ?_, ou μ _ ext ?_⟩
              · obtain ⟨o1, es1, ep1, g1, _⟩ := hd'
                exact ⟨o1, g1⟩
              · obtain ⟨o1, es1, ep1, g1, g2, g3, g4, _⟩ := hd'
                exact ⟨⟨o1, es1, ep1, g1, g2, g3, g4⟩, ⟨o1, g1⟩, fun h1 h2 ⟨o, es, ep, a1, a2, a3, a4⟩ st => ⟨o, es, ep, st _ a1, a2, a3, a4⟩⟩
              · rw [eS]
                refine rs.write em hn ⟨_, upd_same, hd'.nodup, h3, ?_⟩
                rw [ekv]
                exact RelD.put hk (RelP.mono ext _ _ hy) (RelP.mono ext _ _ hp) rv (RelD.mono ext kvs xs h4) h2
            · rw [← h4.length]
              exact Nat.le_trans hle (by decide)
      | dlf kvs =>
        unfold setF at ou
        simp only [g] at ou
        cases ep : RV.putK false y p kvs with
        | none => rw [ep] at ou; exact False.elim ou
        | some kvs' =>
          rw [ep] at ou
          have ou : OutOk L E μ H B (match setS B S n (.dlf kvs') with
            | some S' => .ok () S'
            | none => .fail) (fun _ _ _ H' => Q H') := ou
          cases es : setS B S n (.dlf kvs') with
          | none => rw [es] at ou; exact False.elim ou
          | some S' =>
            rw [es] at ou
            obtain ⟨hn, eS⟩ := setS_some es
            obtain ⟨hk, hle, ekv⟩ := putK_some ep
            obtain ⟨gs, h1, h2, h3⟩ := hro
            have ey := leaf_kV hk hy
            rw [ey] at ri
            refine set_dict (by omega) pins s σ H o (kV (lk y)) v ov iv u Q I ro ri rv ⟨a, _, ea, DPut.k h1 (by rw [← h3.length]; exact Nat.lt_of_le_of_lt hle (by decide)), ?_⟩
            have ext := Ext.write (o := .dK (L2.putK gs (lk y) v)) rs em hn
            refine ou μ _ ext ?_
            rw [eS]
            obtain ⟨k1, k2, _⟩ := RelK.put hk (RelP.mono ext _ _ hp) (RelK.mono ext kvs gs h3) h2
            exact rs.write em hn ⟨_, upd_same, k2, by rw [ekv]; exact k1⟩
      | ins c fs =>
        unfold setF at ou
        simp only [g] at ou
        exact False.elim ou
  | _ => exact False.elim ou
/-- o[i] = .. -/
theorem s_sub {o i : Expr} {fo fi : FE} {p2 : Pos} (hP : X.prog = L.P) (hw : X.w = L.w) (hK : X.K = L.K) (hu : X.A.units + 65 < cLine) (ho : PE X o (tE L E fo)) (hi : PE X i (tE L E fi)) (hix : plainIx i = true) (he : PE X e (tE L E fe)) (hn : noComp e = true) :
    PS X (.Assign [.Subscript o i p2] e pos) (tS L E fun B ρ S => (fe B ρ S).bind fun v S => ((fo B ρ S).bind fun x S => (fi B ρ S).bind fun y S => (setF B S x y v).bind fun _ S => .ok ρ S).bind fun ρ' S => .ok (ρ', .nx) S) := by
  have hg : PG X (.Subscript o i p2) (gSub (tE L E fo) (tE L E fi) (rSet L E)) := pg_sub ho hi (p_set hP hw hK hu) (by intro v; cases i <;> first | rfl | cases hix)
  have hw2 : swappedStores [.Subscript o i p2] e X.env = pure none := by cases e <;> rfl
  have hsw : swapsWithSole [.Subscript o i p2] e pos.line X.env = pure false := swaps_no (t := some (.Subscript o i p2)) (n := pos.line) (env := X.env) hn
  refine PSw (ps_asg he hg hsw hw2 rfl) fun D σ H h => ?_
  obtain ⟨μ, B, ρ, S, rs, rl, ou⟩ := h
  refine ⟨μ, B, ρ, S, rs, rl, ou.bind.imp fun p S1 μ1 H1 e1 rs1 o1 v hv => ?_⟩
  refine ⟨μ1, B, ρ, S1, rs1, rl.mono e1, (OutOk.bind (OutOk.bind o1)).imp fun x S2 μ2 H2 e2 rs2 o2 xo hx => ?_⟩
  refine ⟨μ2, B, ρ, S2, rs2, (rl.mono e1).mono e2, (OutOk.bind o2).imp fun y S3 μ3 H3 e3 rs3 o3 yo hy => ?_⟩
  refine ⟨μ3, B, S3, x, y, p, rs3, RelP.mono e3 _ _ hx, hy, RelP.mono e3 _ _ (RelP.mono e2 _ _ hv), (OutOk.bind o3).imp fun _ S4 μ4 H4 e4 rs4 o4 => ?_⟩
  exact (OutOk.now (OutOk.now o4 rs4) rs4) σ ((((rl.mono e1).mono e2).mono e3).mono e4)
/-- o.f = .. -/
theorem put_rel (inj : ∀ i j, i < L.nf → j < L.nf → L.fn i = L.fn j → i = j) {μ : Mu} {H : Hp} {f : Nat} (hf : f < L.nf) {p : PV} {v : V} (hp : RelP L μ H p v) : ∀ {fs : List (Nat × PV)} {gs : List (Str × V)}, RelF L μ H fs gs → RelF L μ H (putN f p fs) (putF (L.fn f) v gs)
  | [], _, h => by
    have h : _ = [] := h
    rw [h]
    exact ⟨v, [], rfl, hf, hp, rfl⟩
  | (g, q) :: fs, _, h => by
    obtain ⟨w, r, e1, hg, h1, h2⟩ := h
    rw [e1]
    have e2 : putN f p ((g, q) :: fs) = (match Nat.beq g f with | true => (g, p) :: fs | false => (g, q) :: putN f p fs) := rfl
    rw [e2]
    cases c : Nat.beq g f with
    | true =>
      have : g = f := Nat.eq_of_beq_eq_true c
      subst this
      refine ⟨v, r, ?_, hg, hp, h2⟩
      unfold putF
      simp
    | false =>
      have ne : g ≠ f := fun z => by rw [z, Nat.beq_refl] at c; cases c
      have nn : L.fn g ≠ L.fn f := fun z => ne (inj g f hg hf z)
      refine ⟨w, putF (L.fn f) v r, ?_, hg, h1, put_rel inj hf hp h2⟩
      conv => lhs; unfold putF
      simp [nn]
theorem put_len {f : Nat} {p : PV} : ∀ (fs : List (Nat × PV)), (putN f p fs).length ≤ fs.length + 1
  | [] => Nat.le_refl _
  | (g, q) :: fs => by
    have e2 : putN f p ((g, q) :: fs) = (match Nat.beq g f with | true => (g, p) :: fs | false => (g, q) :: putN f p fs) := rfl
    rw [e2]
    have := put_len (f := f) (p := p) fs
    cases Nat.beq g f with
    | true => simp
    | false => simp; omega
theorem RelF.length {μ : Mu} {H : Hp} : ∀ {fs : List (Nat × PV)} {gs : List (Str × V)}, RelF L μ H fs gs → fs.length = gs.length
  | [], _, h => by
    have h : _ = [] := h
    rw [h]; rfl
  | (f, p) :: fs, _, h => by
    obtain ⟨v, r, e1, hf, h1, h2⟩ := h
    rw [e1, List.length_cons, List.length_cons, h2.length]
def fldF (fld : Nat → List Nat) (B S : Sto) (x : PV) (f : Nat) (v : PV) : Option Sto := match x with
  | .obj n => match getS B S n with
    | some (.ins c fs) => match (fld c).any (fun g => Nat.beq g f) && Nat.ble fs.length 900 with
      | true => setS B S n (.ins c (putN f v fs))
      | false => none
    | _ => none
  | _ => none
theorem s_fld {o : Expr} {fo : FE} {p2 : Pos} {fld : Nat → List Nat} (cf : ClsF L fld) {f : Nat} {x : Str} (hx : L.fn f = x) (hK : X.K = L.K) (ho : PE X o (tE L E fo)) (he : PE X e (tE L E fe)) (hn : noComp e = true) :
    PS X (.Assign [.Attribute o x p2] e pos) (tS L E fun B ρ S => (fe B ρ S).bind fun v S => ((fo B ρ S).bind fun y S => match fldF fld B S y f v with
      | some S' => .ok ρ S'
      | none => .fail).bind fun ρ' S => .ok (ρ', .nx) S) := by
  refine PSw (ps_fld ho he (swaps_no hn)) fun D σ H h => ?_
  obtain ⟨μ, B, ρ, S, rs, rl, ou⟩ := h
  refine ⟨μ, B, ρ, S, rs, rl, ou.bind.imp fun p S1 μ1 H1 e1 rs1 o1 v hv => ?_⟩
  refine ⟨μ1, B, ρ, S1, rs1, rl.mono e1, (OutOk.bind (OutOk.bind o1)).imp fun y S2 μ2 H2 e2 rs2 o2 yo hy => ?_⟩
  cases ef : fldF fld B S2 y f p with
  | none => rw [ef] at o2; exact False.elim o2
  | some S' =>
    rw [ef] at o2
    cases y with
    | obj n =>
      unfold fldF at ef
      cases g : getS B S2 n with
      | none => simp only [g] at ef; cases ef
      | some ob =>
        cases ob with
        | ins c fs =>
          simp only [g] at ef
          cases c1 : (fld c).any (fun g => Nat.beq g f) && Nat.ble fs.length 900 with
          | false => rw [c1] at ef; cases ef
          | true =>
            rw [c1] at ef
            have ef : setS B S2 n (.ins c (putN f p fs)) = some S' := ef
            rw [Bool.and_eq_true] at c1
            obtain ⟨hn2, eS⟩ := setS_some ef
            obtain ⟨a, ea, em, dx, gs, h1, h2⟩ := rs2.get g hy
            obtain ⟨hf, hc, hna⟩ := cf.at_ c f (mem_any c1.1)
            have hl : gs.length < 1000 := by
              rw [← h2.length]
              exact Nat.lt_of_le_of_lt (Nat.le_of_ble_eq_true c1.2) (by decide)
            rw [hx] at hna
            refine ⟨a, L.ca c, dx, gs, ea, h1, by rw [hK]; exact hc, by rw [hK]; exact hna, hl, ?_⟩
            have ext := Ext.write (o := .ins (L.ca c) dx (putF x v gs)) rs2 em hn2
            have o2 : OutOk L E μ2 H2 B (.ok ρ S') (fun a S μ' H' => OutOk L E μ' H' B (.ok (a, Flow.nx) S) (fun r _ μ' H' => EndOk L D μ' H' r)) := o2
            have rs3 : RelS L μ2 (upd H2 a (.ins (L.ca c) dx (putF x v gs))) (B ++ S') := by
              rw [eS]
              refine rs2.write em hn2 ⟨dx, _, upd_same, ?_⟩
              have := put_rel cf.inj hf (RelP.mono ext _ _ (RelP.mono e2 _ _ hv)) (RelF.mono ext fs gs h2)
              rw [hx] at this
              exact this
            have q := o2 μ2 _ ext rs3
            exact (OutOk.now q rs3) σ (((rl.mono e1).mono e2).mono ext)
        | _ => simp only [g] at ef; cases ef
    | _ => cases ef
/-! ### swapped stores -/
def noStars : List Expr → Bool
  | [] => true
  | .Starred _ _ :: _ => false
  | _ :: r => noStars r
def parOk (vs : List Expr) : Bool := !vs.any (fun | .Starred .. => true | _ => false) && !vs.all (foldedForSure 8) && !vs.all (constantsAlone 8)
theorem block_fn {env : Env} (h : env.scope.kind = .function) : env.blockKind = .function := by
  unfold Env.blockKind
  rw [h]
  rfl
theorem swapped2 {env : Env} {x y : Str} {px py pt pt2 : Pos} {kt k2 : Nat} {a b : Expr} (hk : env.scope.kind = .function) (hx : env.scope.names.lookup x = some .local) (hy : env.scope.names.lookup y = some .local) (hl : (py.line == px.line) = true) (hne : x ≠ y) (ho : parOk [a, b] = true) :
    swappedStores [.Tuple [.Name x px, .Name y py] kt pt] (.Tuple [a, b] k2 pt2) env = pure (some [x, y]) := by
  unfold parOk at ho
  rw [Bool.and_eq_true, Bool.and_eq_true, Bool.not_eq_true', Bool.not_eq_true', Bool.not_eq_true'] at ho
  obtain ⟨⟨h1, h2⟩, h3⟩ := ho
  have hx' : env.kindOf x = some .local := hx
  have hy' : env.kindOf y = some .local := hy
  have hxy : (y == x) = false := beq_eq_false_iff_ne.mpr (Ne.symm hne)
  have hxy' : (x == y) = false := beq_eq_false_iff_ne.mpr hne
  unfold swappedStores
  simp only [block_fn hk, h1, h2, h3]
  simp [hx', hy', eq_of_beq hl, List.eraseDups_cons, hxy, hxy', Ne.symm hne, hne, Expr.pos]
  intro hh
  exfalso
  simp only [List.any_cons, List.any_nil, Bool.or_false, Bool.or_eq_false_iff] at h1
  obtain ⟨h1a, h1b⟩ := h1
  rcases hh with hh | hh
  · cases a <;> first | (cases hh; done) | (cases h1a; done)
  · cases b <;> first | (cases hh; done) | (cases h1b; done)
theorem swapped3 {env : Env} {x y z : Str} {px py pz pt pt2 : Pos} {kt k2 : Nat} {a b c : Expr} (hk : env.scope.kind = .function) (hx : env.scope.names.lookup x = some .local) (hy : env.scope.names.lookup y = some .local) (hz : env.scope.names.lookup z = some .local) (hl : (py.line == px.line) = true) (hl2 : (pz.line == px.line) = true) (hxy : x ≠ y) (hxz : x ≠ z) (hyz : y ≠ z) (ho : parOk [a, b, c] = true) :
    swappedStores [.Tuple [.Name x px, .Name y py, .Name z pz] kt pt] (.Tuple [a, b, c] k2 pt2) env = pure (some [x, y, z]) := by
  unfold parOk at ho
  rw [Bool.and_eq_true, Bool.and_eq_true, Bool.not_eq_true', Bool.not_eq_true', Bool.not_eq_true'] at ho
  obtain ⟨⟨h1, h2⟩, h3⟩ := ho
  have hx' : env.kindOf x = some .local := hx
  have hy' : env.kindOf y = some .local := hy
  have hz' : env.kindOf z = some .local := hz
  unfold swappedStores
  simp only [block_fn hk, h1, h2, h3]
  simp [hx', hy', hz', eq_of_beq hl, eq_of_beq hl2, List.eraseDups_cons, Ne.symm hxy, hxy, Ne.symm hxz, hxz, Ne.symm hyz, hyz, Expr.pos]
  intro hh
  exfalso
  simp only [List.any_cons, List.any_nil, Bool.or_false, Bool.or_eq_false_iff] at h1
  obtain ⟨h1a, h1b, h1c⟩ := h1
  rcases hh with hh | hh | hh
  · cases a <;> first | (cases hh; done) | (cases h1a; done)
  · cases b <;> first | (cases hh; done) | (cases h1b; done)
  · cases c <;> first | (cases hh; done) | (cases h1c; done)
theorem s_par2 {i j : Nat} {x y : Str} {px py pt pt2 : Pos} {kt k2 : Nat} {a b : Expr} {fs : Sto → Loc → Sto → Out (List PV)} (hc : X.calm = true) (hN : X.N.Nodup) (hk : X.env.scope.kind = .function) (hi : X.N[i]? = some x) (hj : X.N[j]? = some y) (hij : i ≠ j)
    (hx : X.env.scope.names.lookup x = some .local) (hy : X.env.scope.names.lookup y = some .local) (hl : (py.line == px.line) = true) (ho : parOk [a, b] = true) (ha : PA X [a, b] (tA L E fs)) :
    PS X (.Assign [.Tuple [.Name x px, .Name y py] kt pt] (.Tuple [a, b] k2 pt2) pos) (tS L E fun B ρ S => (fs B ρ S).bind fun vs S => (Out.of (tgts [.var i, .var j] vs ρ) S).bind fun ρ' S => .ok (ρ', .nx) S) := by
  have hne : x ≠ y := fun z => hij ((List.getElem?_inj (by exact (List.getElem?_eq_some_iff.mp hi).1) hN).mp (by rw [hi, hj, z]))
  refine PSw (ps_par hc hN hi hj hij hx hy ha (swapped2 hk hx hy hl hne ho) rfl) fun D σ H h => ?_
  obtain ⟨μ, B, ρ, S, rs, rl, ou⟩ := h
  refine ⟨μ, B, ρ, S, rs, rl, ou.bind.imp fun ps S1 μ1 H1 e1 rs1 o1 vs hv => ?_⟩
  obtain ⟨ρ', et, o2⟩ := (OutOk.bind o1).of rs1
  have hlen := tgts_len et
  match ps, hlen, hv, et with
  | [p, q], _, hv, et =>
    obtain ⟨v, w, ev, h1, h2⟩ := hv.two_inv
    have et : (match tgt (.var i) p ρ with
      | some ρ1 => (match tgt (.var j) q ρ1 with
        | some ρ2 => some ρ2
        | none => none)
      | none => none) = some ρ' := et
    have t1 : tgt (.var i) p ρ = some (ρ.set i (some p)) := by
      cases c : Nat.blt i ρ.length with
      | true => show (match Nat.blt i ρ.length with | true => some (ρ.set i (some p)) | false => none) = _; rw [c]
      | false =>
        have : tgt (.var i) p ρ = none := by show (match Nat.blt i ρ.length with | true => some (ρ.set i (some p)) | false => none) = none; rw [c]
        rw [this] at et; cases et
    rw [t1] at et
    have t2 : tgt (.var j) q (ρ.set i (some p)) = some ((ρ.set i (some p)).set j (some q)) := by
      cases c : Nat.blt j (ρ.set i (some p)).length with
      | true => show (match Nat.blt j (ρ.set i (some p)).length with | true => some ((ρ.set i (some p)).set j (some q)) | false => none) = _; rw [c]
      | false =>
        have : tgt (.var j) q (ρ.set i (some p)) = none := by show (match Nat.blt j (ρ.set i (some p)).length with | true => some ((ρ.set i (some p)).set j (some q)) | false => none) = none; rw [c]
        have et : (match tgt (.var j) q (ρ.set i (some p)) with
          | some ρ2 => some ρ2
          | none => none) = some ρ' := et
        rw [this] at et; cases et
    have et : (match tgt (.var j) q (ρ.set i (some p)) with
      | some ρ2 => some ρ2
      | none => none) = some ρ' := et
    rw [t2] at et
    have et : some ((ρ.set i (some p)).set j (some q)) = some ρ' := et
    cases et
    exact ⟨v, w, ev, OutOk.now o2 rs1 _ (((rl.mono e1).set h1).set h2)⟩
end
end RV
end
section
/-! RVComp: comprehensions. -/
namespace RV
open PySem PySem.Spec PyProof.Rows L2
abbrev FT := Sto → Loc → Sto → Out Bool
def tB (L : Pl) (E : XK) (f : FT) : TT := fun σ H Q => ∃ μ B ρ S, RelS L μ H (B ++ S) ∧ RelR L μ H ρ σ ∧ OutOk L E μ H B (f B ρ S) (fun b _ _ H' => Q b H')
theorem PTsw {X : Cx} {ifs : List Expr} {t t' : TT} (h : PTs X ifs t) (f : ∀ σ H Q, t' σ H Q → t σ H Q) : PTs X ifs t' := ⟨fun pins s σ H Q I q => h.run pins s σ H Q I (f σ H Q q)⟩
section
variable {X : Cx} {L : Pl} {E : XK}
theorem p_none : PTs X [] (tB L E fun _ _ S => .ok true S) := PTsw pts_nil fun σ H Q h => by
  obtain ⟨μ, B, ρ, S, rs, rl, o⟩ := h
  exact o.now rs
theorem p_one {c : Expr} {fc : FE} (h : PT X c (tT L E fc)) : PTs X [c] (tB L E fun B ρ S => (fc B ρ S).bind fun x S => match x with
    | .bl b => .ok b S
    | _ => .fail) := PTsw (pts_one h) fun σ H Q h => by
  obtain ⟨μ, B, ρ, S, rs, rl, o⟩ := h
  refine ⟨μ, B, ρ, S, rs, rl, o.bind.imp fun p S1 μ1 H1 e1 rs1 o1 v hv => ?_⟩
  cases p with
  | bl b => exact ⟨b, hv, OutOk.now o1 rs1⟩
  | _ => exact False.elim o1
/-! names wiped -/
theorem wipe_get {α : Type} (σ : List (Option α)) : ∀ (vs : List Nat) (f : List Nat → List (Option α)), (f [] = σ) → (∀ v r, f (v :: r) = (f r).set v none) → ∀ i, (f vs)[i]? = if i ∈ vs then (if i < σ.length then some none else none) else σ[i]?
  | [], f, h0, _, i => by rw [h0]; simp
  | v :: r, f, h0, h1, i => by
    have ih := wipe_get σ r f h0 h1 i
    have hl : ∀ r, (f r).length = σ.length := fun r => by
      induction r with
      | nil => rw [h0]
      | cons a r ih => rw [h1, List.length_set, ih]
    rw [h1]
    by_cases e : v = i
    · subst e
      rw [if_pos List.mem_cons_self]
      by_cases hv : v < σ.length
      · rw [if_pos hv, List.getElem?_set_self (by rw [hl]; exact hv)]
      · rw [if_neg hv]
        exact List.getElem?_eq_none (by rw [List.length_set, hl]; omega)
    · rw [List.getElem?_set_ne e, ih]
      by_cases hi : i ∈ r
      · rw [if_pos hi, if_pos (List.mem_cons_of_mem _ hi)]
      · rw [if_neg hi, if_neg (fun z => by rcases List.mem_cons.mp z with z | z; exact e z.symm; exact hi z)]
theorem wipeL_get (ρ : Loc) (vs : List Nat) (i : Nat) : (wipeL ρ vs)[i]? = if i ∈ vs then (if i < ρ.length then some none else none) else ρ[i]? := wipe_get ρ vs (wipeL ρ) rfl (fun _ _ => rfl) i
theorem wipeS_get (σ : L2.St) (vs : List Nat) (i : Nat) : (wipe σ vs)[i]? = if i ∈ vs then (if i < σ.length then some none else none) else σ[i]? := wipe_get σ vs (wipe σ) rfl (fun _ _ => rfl) i
theorem wipeL_length (ρ : Loc) : ∀ vs : List Nat, (wipeL ρ vs).length = ρ.length
  | [] => rfl
  | v :: vs => by
    show ((wipeL ρ vs).set v none).length = _
    rw [List.length_set, wipeL_length ρ vs]
theorem RelR.wipe {μ : Mu} {H : Hp} {ρ : Loc} {σ : L2.St} (r : RelR L μ H ρ σ) (vs : List Nat) : RelR L μ H (wipeL ρ vs) (L2.wipe σ vs) where
  len := by rw [wipeL_length, wipe_length]; exact r.len
  at_ := fun i p e => by
    rw [wipeL_get] at e
    rw [wipeS_get]
    split at e
    · split at e <;> cases e
    · rename_i hi
      rw [if_neg hi]
      exact r.at_ i p e
theorem wipe_same {σ σ' : L2.St} {vs : List Nat} {ts : List Nat} (hl : σ'.length = σ.length) (h : ∀ i, i ∉ ts → σ'[i]? = (wipe σ vs)[i]?) (hs : ∀ i ∈ ts, i ∈ vs) : wipe σ' vs = wipe σ vs := by
  apply List.ext_getElem?
  intro i
  rw [wipeS_get, wipeS_get, hl]
  by_cases hi : i ∈ vs
  · rw [if_pos hi, if_pos hi]
  · rw [if_neg hi, if_neg hi, h i (fun z => hi (hs i z)), wipeS_get, if_neg hi]
/-! ### a list made step by step -/
theorem mk_adopt {μ1 μ' : Mu} {H1 H' : Hp} {B S S' : Sto} {m : Bool} {xs : List PV} {ys : List V} {Q : VK} {D : Addr} (o : OutOk L E μ1 H1 B (mkLst m B S' xs) (fun r _ μ' H' => ∀ v, RelP L μ' H' r v → Q v H')) (rs1 : RelS L μ1 H1 (B ++ S)) (e : Ext μ1 H1 μ' H') (rs : RelS L μ' H' (B ++ S'))
    (hD : μ'.hd D) (hn : H1 D = none) (hl : H' D = some (.lst ys)) (hr : RelL L μ' H' xs ys) : Q (.ref D) H' := by
  have o : OutOk L E μ1 H1 B (match Nat.ble xs.length szL with
    | true => (match m with
      | true => newS B S' (.lst xs)
      | false => .ok (.lst xs) S')
    | false => .fail) (fun r _ μ' H' => ∀ v, RelP L μ' H' r v → Q v H') := o
  have hnd : ¬ μ1.hd D := fun z => (rs1.hid D z).1 hn
  have hs : ∀ a, μ1.hd a → μ'.hd a := e.hd1
  cases c : Nat.ble xs.length szL with
  | false => rw [c] at o; exact False.elim o
  | true =>
    rw [c] at o
    cases m with
    | false =>
      have o : ∀ μ H, Ext μ1 H1 μ H → RelS L μ H (B ++ S') → ∀ v, RelP L μ H (.lst xs) v → Q v H := o
      exact o (μ'.show μ1) H' (e.weak (fun _ h => h) hs) (rs.weak hs) (.ref D) ⟨D, ys, rfl, hl, ⟨(rs.hid D hD).2, hnd⟩, RelL.weak hs xs ys hr⟩
    | true =>
      have o : ∀ μ H, Ext μ1 H1 μ H → RelS L μ H (B ++ (S' ++ [.lst xs])) → ∀ v, RelP L μ H (.obj (B.length + S'.length)) v → Q v H := o
      refine o (μ'.adopt μ1 (B ++ S').length D) H' (e.adopt rs hn) ?_ (.ref D) ⟨D, rfl, ?_⟩
      · rw [← List.append_assoc]
        exact rs.adopt hs hD hnd ⟨ys, hl, hr⟩
      · show (if B.length + S'.length = (B ++ S').length then some D else μ' (B.length + S'.length)) = some D
        rw [if_pos (by rw [List.length_append])]
def turnL (t : IE) (vs : List Nat) (ft : FT) (fe : FE) (B : Sto) (ρ : Loc) (x : PV) (acc : List PV) (S : Sto) : Out (List PV) := match tgt t x (wipeL ρ vs) with
  | some ρ' => (ft B ρ' S).bindF fun b S => match b with
    | true => (fe B ρ' S).bindF fun v S => accF v acc S
    | false => .ok acc S
  | none => .fail
def lcF (m : Bool) (t : IE) (vs : List Nat) (fi : FE) (ft : FT) (fe : FE) : FE := fun B ρ S => (fi B ρ S).bind fun src S => (loop B never (turnL t vs ft fe B ρ) src [] S).bindF fun ys S => mkLst m B S ys.reverse
theorem accF_some {v : PV} {acc acc' : List PV} {S S' : Sto} {μ : Mu} {H : Hp} {B : Sto} {R : List PV → Sto → Mu → Hp → Prop} (h : OutOk L E μ H B (accF v acc S) R) : acc.length < sizeLine ∧ OutOk L E μ H B (.ok (v :: acc) S) R := by
  have h : OutOk L E μ H B (match Nat.blt acc.length szL with
    | true => .ok (v :: acc) S
    | false => .fail) R := h
  cases c : Nat.blt acc.length szL with
  | false => rw [c] at h; exact False.elim h
  | true =>
    rw [c] at h
    exact ⟨by rw [← szL_eq]; exact Nat.le_of_ble_eq_true c, h⟩
theorem ItOk.mono {μ μ' : Mu} {H H' : Hp} {B : Sto} {src : PV} {J : It} (h : ItOk L μ H B src J) (e : Ex0 μ H μ' H') : ItOk L μ' H' B src J :=
  ⟨fun μ2 H2 S i p e2 => h.go μ2 H2 S i p (e.trans e2), fun μ2 H2 S i e2 => h.stop μ2 H2 S i (e.trans e2)⟩
/-- the turns of a list's making, from any state on -/
theorem lc_loop {t : IE} {vs : List Nat} {ft : FT} {fe : FE} (htv : ∀ i ∈ tv t, i ∈ vs) {μ1 μ0 : Mu} {H1 H0 : Hp} {B S0 : Sto} {ρ : Loc} {σ : L2.St} {src : PV} {J : It} {D : Addr} {acc0 : List PV} {accV0 : List V} {fin : List PV → Sto → Prop} {Stop : Hp → Prop}
    (hD : H1 D = none) (e0 : Ext μ1 H1 μ0 H0) (rs0 : RelS L μ0 H0 (B ++ S0)) (hd0 : μ0.hd D) (hl0 : H0 D = some (.lst accV0)) (hr0 : RelL L μ0 H0 acc0.reverse accV0) (rl : RelR L μ0 H0 ρ σ) (hJ : ItOk L μ0 H0 B src J)
    (o : OutOk L E0 μ1 H1 B (loop B never (turnL t vs ft fe B ρ) src acc0 S0) (fun ys S _ _ => fin ys S))
    (hstop : ∀ μ' S' acc accV H', Ext μ1 H1 μ' H' → Ex0 μ0 H0 μ' H' → RelS L μ' H' (B ++ S') → μ'.hd D → H' D = some (.lst accV) → RelL L μ' H' acc.reverse accV → fin acc S' → Stop H') :
    ∃ W : Nat → Nat → Hp → Prop, (∃ m, W 0 m H0) ∧ ∀ i m H, W i m H →
      (J.stop i H ∧ Stop H) ∨ (J.go i H ∧ ∃ Nx : Hp → Prop, (∀ H', Nx H' → ∃ m', m' < m ∧ W (i + 1) m' H') ∧ ∀ x H', J.yld i H x H' → gT L t x (wipe σ vs) H' fun σ2 H2 => wipe σ2 vs = wipe σ vs ∧ tB L E0 ft σ2 H2 fun b H3 =>
        if b = true then tE L E0 fe σ2 H3 fun y H4 => ∃ acc, H4 D = some (.lst acc) ∧ acc.length < sizeLine ∧ Nx (upd H4 D (.lst (acc ++ [y]))) else Nx H3) := by
  rw [loop_G] at o
  cases hq : seqOf B S0 src with
  | none => rw [hq] at o; exact False.elim o
  | some xs =>
    rw [hq] at o
    have o : OutOk L E0 μ1 H1 B (loopG (fun i S => itemAt B S src i) never (turnL t vs ft fe B ρ) (xs.length + 1) 0 acc0 S0) (fun ys S _ _ => fin ys S) := o
    refine ⟨fun i m' H' => ∃ (μ' : Mu) (S' : Sto) (acc : List PV) (accV : List V), Past B src i ∧ Ext μ1 H1 μ' H' ∧ Ex0 μ0 H0 μ' H' ∧ RelS L μ' H' (B ++ S') ∧ μ'.hd D ∧ H' D = some (.lst accV) ∧ RelL L μ' H' acc.reverse accV ∧
      OutOk L E0 μ1 H1 B (loopG (fun i S => itemAt B S src i) never (turnL t vs ft fe B ρ) m' i acc S') (fun ys S _ _ => fin ys S),
      ⟨_, μ0, S0, acc0, accV0, Past.zero, e0, (Ext.refl _ _).ex0, rs0, hd0, hl0, hr0, o⟩, ?_⟩
    rintro i m' H2 ⟨μ2, S2, acc, accV, past, e2, f2, rs2, hd2, hl2, hr2, o2⟩
    cases m' with
    | zero => exact False.elim o2
    | succ m' =>
      have o2 : OutOk L E0 μ1 H1 B (stepG never (turnL t vs ft fe B ρ) acc S2 (loopG (fun i S => itemAt B S src i) never (turnL t vs ft fe B ρ) m' (i + 1)) (itemAt B S2 src i)) (fun ys S _ _ => fin ys S) := o2
      cases hit : itemAt B S2 src i with
      | none => rw [hit] at o2; exact False.elim o2
      | some w =>
        rw [hit] at o2
        cases w with
        | none =>
          have o3 : ∀ μ' H', Ext μ1 H1 μ' H' → RelS L μ' H' (B ++ S2) → fin acc S2 := o2
          exact .inl ⟨hJ.stop μ2 H2 S2 i f2 rs2 past hit, hstop μ2 S2 acc accV H2 e2 f2 rs2 hd2 hl2 hr2 (o3 μ2 H2 e2 rs2)⟩
        | some p =>
          obtain ⟨hgo, hy⟩ := hJ.go μ2 H2 S2 i p f2 rs2 hit
          refine .inr ⟨hgo, fun H' => ∃ (μ' : Mu) (S' : Sto) (acc : List PV) (accV : List V), Past B src (i + 1) ∧ Ext μ1 H1 μ' H' ∧ Ex0 μ0 H0 μ' H' ∧ RelS L μ' H' (B ++ S') ∧ μ'.hd D ∧ H' D = some (.lst accV) ∧ RelL L μ' H' acc.reverse accV ∧
            OutOk L E0 μ1 H1 B (loopG (fun i S => itemAt B S src i) never (turnL t vs ft fe B ρ) m' (i + 1) acc S') (fun ys S _ _ => fin ys S), fun H' hN => ⟨m', Nat.lt_succ_self _, hN⟩, fun x H3 hyl => ?_⟩
          obtain ⟨e3, rs3, hx⟩ := hy x H3 hyl
          have o3 := OutOk.afterT (show OutOk L E0 μ1 H1 B (RV.afterT never (loopG (fun i S => itemAt B S src i) never (turnL t vs ft fe B ρ) m' (i + 1)) (turnL t vs ft fe B ρ p acc S2)) _ from o2)
          have hl3 : H3 D = some (.lst accV) := e3.keep _ _ hl2 (rs2.hid D hd2).2
          have hr3 := RelL.mono e3 _ _ hr2
          have e23 := e2.trans e3
          have f23 := f2.trans e3.ex0
          have rlw := (rl.mono0 f23).wipe vs
          cases ht : tgt t p (wipeL ρ vs) with
          | none =>
            have : turnL t vs ft fe B ρ p acc S2 = .fail := by
              unfold turnL
              rw [ht]
            rw [this] at o3
            exact False.elim o3
          | some ρ3 =>
            have : turnL t vs ft fe B ρ p acc S2 = (ft B ρ3 S2).bindF fun b S => match b with
              | true => (fe B ρ3 S).bindF fun v S => accF v acc S
              | false => .ok acc S := by
              unfold turnL
              rw [ht]
            rw [this] at o3
            refine ⟨μ2, wipeL ρ vs, p, ρ3, rlw, hx, ht, fun σ3 rl3 k3 => ⟨?_, ?_⟩⟩
            · refine wipe_same (ts := tv t) ?_ (fun j hj => k3 j hj) htv
              rw [← rl3.len, ← rl.len, ← wipeL_length ρ vs]
              exact tgt_len ht
            · refine ⟨μ2, B, ρ3, S2, rs3, rl3, (OutOk.shift e23 (OutOk.bindF0 o3)).imp fun b S4 μ4 H4 e4 rs4 o4 => ?_⟩
              have hl4 : H4 D = some (.lst accV) := e4.keep _ _ hl3 (rs3.hid D hd2).2
              have hr4 := RelL.mono e4 _ _ hr3
              have hd4 := e4.hd1 D hd2
              have e24 := e23.trans e4
              have f24 := f23.trans e4.ex0
              cases b with
              | false =>
                have o5 : ∀ μ' H', Ext μ1 H1 μ' H' → RelS L μ' H' (B ++ S4) → OutOk L E0 μ1 H1 B (loopG (fun i S => itemAt B S src i) never (turnL t vs ft fe B ρ) m' (i + 1) acc S4) _ := o4
                exact ⟨μ4, S4, acc, accV, past.succ hit, e24, f24, rs4, hd4, hl4, hr4, o5 μ4 H4 e24 rs4⟩
              | true =>
                refine ⟨μ4, B, ρ3, S4, rs4, rl3.mono e4, (OutOk.shift e24 (OutOk.bindF0 (show OutOk L E0 μ1 H1 B ((fe B ρ3 S4).bindF fun v S => accF v acc S) _ from o4))).imp fun v S5 μ5 H5 e5 rs5 o5 y hv => ?_⟩
                have hl5 : H5 D = some (.lst accV) := e5.keep _ _ hl4 (rs4.hid D hd4).2
                have hr5 := RelL.mono e5 _ _ hr4
                have hd5 := e5.hd1 D hd4
                have e25 := e24.trans e5
                have f25 := f24.trans e5.ex0
                obtain ⟨hlt, o6⟩ := accF_some (acc' := acc) (S' := S5) o5
                have hle : accV.length < sizeLine := by rw [← hr5.length, List.length_reverse]; exact hlt
                have loose : Loose H5 D := ⟨fun ys z => (by rw [hl5] at z; cases z), fun b u z => (by rw [hl5] at z; cases z)⟩
                have o7 : ∀ μ' H', Ext μ1 H1 μ' H' → RelS L μ' H' (B ++ S5) → OutOk L E0 μ1 H1 B (loopG (fun i S => itemAt B S src i) never (turnL t vs ft fe B ρ) m' (i + 1) (v :: acc) S5) _ := o6
                have rs6 := rs5.over (o := .lst (accV ++ [y])) hd5 loose
                have e26 := e25.over (a := D) (o := .lst (accV ++ [y])) hD
                have f26 : Ex0 μ0 H0 μ5 (upd H5 D (.lst (accV ++ [y]))) := f25.over hd0 ⟨fun ys z => (by rw [hl0] at z; cases z), fun b u z => (by rw [hl0] at z; cases z)⟩
                refine ⟨accV, hl5, hle, μ5, S5, v :: acc, accV ++ [y], past.succ hit, e26, f26, rs6, hd5, upd_same, ?_, o7 μ5 _ e26 rs6⟩
                rw [List.reverse_cons]
                exact (RelL.over hd5 loose _ _ hr5).snoc (RelP.over hd5 loose _ _ hv)
theorem lc_read (m : Bool) {t : IE} {vs : List Nat} {fi : FE} {ft : FT} {fe : FE} (htv : ∀ i ∈ tv t, i ∈ vs) (σ : L2.St) (H : Hp) (Q : VK) (h : tE L E (lcF m t vs fi ft fe) σ H Q) : tLc (tI L E fi) (gT L t) (tB L E0 ft) (tE L E0 fe) vs σ H Q := by
  obtain ⟨μ, B, ρ, S, rs, rl, o⟩ := h
  refine ⟨μ, B, ρ, S, rs, rl, OutOk.imp (OutOk.bind (show OutOk L E μ H B ((fi B ρ S).bind fun src S => (loop B never (turnL t vs ft fe B ρ) src [] S).bindF fun ys S => mkLst m B S ys.reverse) _ from o)) fun src S1 μ1 H1 e1 rs1 o1 => ?_⟩
  have o1 := OutOk.bindF0 o1
  refine ⟨?_, fun J hJ D hD => ?_⟩
  · cases hq : seqOf B S1 src with
    | some xs => exact ⟨xs, rfl⟩
    | none => rw [loop_G, hq] at o1; exact False.elim o1
  · have eh := Ext.hide (o := .lst []) rs1 hD
    exact lc_loop (acc0 := []) htv hD eh (rs1.hide hD) (.inl rfl) upd_same rfl ((rl.mono e1).mono eh) (hJ.mono eh.ex0) o1 fun μ' S' acc accV H' e2 _ rs2 hd2 hl2 hr2 o3 => mk_adopt o3 rs1 e2 rs2 hd2 hD hl2 hr2
/-! two for-clauses -/
def turnL2 (t t1 : IE) (vs vs1 : List Nat) (fi1 : FE) (ft : FT) (fe : FE) (B : Sto) (ρ : Loc) (x : PV) (acc : List PV) (S : Sto) : Out (List PV) := match tgt t x (wipeL ρ vs) with
  | some ρ' => (fi1 B ρ' S).bindF fun src1 S => loop B never (turnL t1 vs1 ft fe B ρ') src1 acc S
  | none => .fail
def lc2F (m : Bool) (t t1 : IE) (vs vs1 : List Nat) (fi fi1 : FE) (ft : FT) (fe : FE) : FE := fun B ρ S => (fi B ρ S).bind fun src S => (loop B never (turnL2 t t1 vs vs1 fi1 ft fe B ρ) src [] S).bindF fun ys S => mkLst m B S ys.reverse
theorem tYes_if {σ : L2.St} {H : Hp} {P Q : Hp → Prop} (h : P H) : tYes σ H (fun b H3 => if b = true then P H3 else Q H3) := by
  show (if true = true then P H else Q H)
  rw [if_pos rfl]
  exact h
theorem lc2_read (m : Bool) {t t1 : IE} {vs vs1 : List Nat} {fi fi1 : FE} {ft : FT} {fe : FE} (htv : ∀ i ∈ tv t, i ∈ vs) (htv1 : ∀ i ∈ tv t1, i ∈ vs1) (σ : L2.St) (H : Hp) (Q : VK) (h : tE L E (lc2F m t t1 vs vs1 fi fi1 ft fe) σ H Q) :
    tLc2 (tI L E fi) (gT L t) tYes (tI L E0 fi1) (gT L t1) (tB L E0 ft) (tE L E0 fe) vs vs1 σ H Q := by
  obtain ⟨μ, B, ρ, S, rs, rl, o⟩ := h
  refine ⟨μ, B, ρ, S, rs, rl, OutOk.imp (OutOk.bind (show OutOk L E μ H B ((fi B ρ S).bind fun src S => (loop B never (turnL2 t t1 vs vs1 fi1 ft fe B ρ) src [] S).bindF fun ys S => mkLst m B S ys.reverse) _ from o)) fun src S1 μ1 H1 e1 rs1 o1 => ?_⟩
  have o1 := OutOk.bindF0 o1
  rw [loop_G] at o1
  cases hq : seqOf B S1 src with
  | none => rw [hq] at o1; exact False.elim o1
  | some xs =>
    rw [hq] at o1
    have o1 : OutOk L E0 μ1 H1 B (loopG (fun i S => itemAt B S src i) never (turnL2 t t1 vs vs1 fi1 ft fe B ρ) (xs.length + 1) 0 [] S1) (fun ys S _ _ => OutOk L E μ1 H1 B (mkLst m B S ys.reverse) (fun r _ μ' H' => ∀ v, RelP L μ' H' r v → Q v H')) := o1
    refine ⟨⟨xs, rfl⟩, fun J hJ D hD => ⟨fun i m' H' => ∃ (μ' : Mu) (S' : Sto) (acc : List PV) (accV : List V), Past B src i ∧ Ext μ1 H1 μ' H' ∧ RelS L μ' H' (B ++ S') ∧ μ'.hd D ∧ H' D = some (.lst accV) ∧ RelL L μ' H' acc.reverse accV ∧
      OutOk L E0 μ1 H1 B (loopG (fun i S => itemAt B S src i) never (turnL2 t t1 vs vs1 fi1 ft fe B ρ) m' i acc S') (fun ys S _ _ => OutOk L E μ1 H1 B (mkLst m B S ys.reverse) (fun r _ μ' H' => ∀ v, RelP L μ' H' r v → Q v H')),
      ⟨_, μ1.hide D, S1, [], [], Past.zero, Ext.hide rs1 hD, rs1.hide hD, .inl rfl, upd_same, rfl, o1⟩, ?_⟩⟩
    rintro i m' H2 ⟨μ2, S2, acc, accV, past, e2, rs2, hd2, hl2, hr2, o2⟩
    cases m' with
    | zero => exact False.elim o2
    | succ m' =>
      have o2 : OutOk L E0 μ1 H1 B (stepG never (turnL2 t t1 vs vs1 fi1 ft fe B ρ) acc S2 (loopG (fun i S => itemAt B S src i) never (turnL2 t t1 vs vs1 fi1 ft fe B ρ) m' (i + 1)) (itemAt B S2 src i)) (fun ys S _ _ => OutOk L E μ1 H1 B (mkLst m B S ys.reverse) (fun r _ μ' H' => ∀ v, RelP L μ' H' r v → Q v H')) := o2
      cases hit : itemAt B S2 src i with
      | none => rw [hit] at o2; exact False.elim o2
      | some w =>
        rw [hit] at o2
        cases w with
        | none =>
          have o3 : ∀ μ' H', Ext μ1 H1 μ' H' → RelS L μ' H' (B ++ S2) → OutOk L E μ1 H1 B (mkLst m B S2 acc.reverse) (fun r _ μ' H' => ∀ v, RelP L μ' H' r v → Q v H') := o2
          exact .inl ⟨hJ.stop μ2 H2 S2 i e2.ex0 rs2 past hit, mk_adopt (o3 μ2 H2 e2 rs2) rs1 e2 rs2 hd2 hD hl2 hr2⟩
        | some p =>
          obtain ⟨hgo, hy⟩ := hJ.go μ2 H2 S2 i p e2.ex0 rs2 hit
          refine .inr ⟨hgo, fun H' => ∃ (μ' : Mu) (S' : Sto) (acc : List PV) (accV : List V), Past B src (i + 1) ∧ Ext μ1 H1 μ' H' ∧ RelS L μ' H' (B ++ S') ∧ μ'.hd D ∧ H' D = some (.lst accV) ∧ RelL L μ' H' acc.reverse accV ∧
            OutOk L E0 μ1 H1 B (loopG (fun i S => itemAt B S src i) never (turnL2 t t1 vs vs1 fi1 ft fe B ρ) m' (i + 1) acc S') (fun ys S _ _ => OutOk L E μ1 H1 B (mkLst m B S ys.reverse) (fun r _ μ' H' => ∀ v, RelP L μ' H' r v → Q v H')), fun H' hN => ⟨m', Nat.lt_succ_self _, hN⟩, fun x H3 hyl => ?_⟩
          obtain ⟨e3, rs3, hx⟩ := hy x H3 hyl
          have o3 := OutOk.afterT (show OutOk L E0 μ1 H1 B (RV.afterT never (loopG (fun i S => itemAt B S src i) never (turnL2 t t1 vs vs1 fi1 ft fe B ρ) m' (i + 1)) (turnL2 t t1 vs vs1 fi1 ft fe B ρ p acc S2)) _ from o2)
          have hl3 : H3 D = some (.lst accV) := e3.keep _ _ hl2 (rs2.hid D hd2).2
          have hr3 := RelL.mono e3 _ _ hr2
          have e23 := e2.trans e3
          have rlw := ((rl.mono e1).mono e23).wipe vs
          cases ht : tgt t p (wipeL ρ vs) with
          | none =>
            have : turnL2 t t1 vs vs1 fi1 ft fe B ρ p acc S2 = .fail := by
              unfold turnL2
              rw [ht]
            rw [this] at o3
            exact False.elim o3
          | some ρ3 =>
            have : turnL2 t t1 vs vs1 fi1 ft fe B ρ p acc S2 = (fi1 B ρ3 S2).bindF fun src1 S => loop B never (turnL t1 vs1 ft fe B ρ3) src1 acc S := by
              unfold turnL2
              rw [ht]
            rw [this] at o3
            refine ⟨μ2, wipeL ρ vs, p, ρ3, rlw, hx, ht, fun σ3 rl3 k3 => ⟨?_, ?_⟩⟩
            · refine wipe_same (ts := tv t) ?_ (fun j hj => k3 j hj) htv
              rw [← rl3.len, ← rl.len, ← wipeL_length ρ vs]
              exact tgt_len ht
            · refine tYes_if ?_
              refine ⟨μ2, B, ρ3, S2, rs3, rl3, (OutOk.shift e23 (OutOk.bindF0 o3)).imp fun src1 S4 μ4 H4 e4 rs4 o4 => ⟨?_, fun J1 hJ1 => ?_⟩⟩
              · cases hq : seqOf B S4 src1 with
                | some xs => exact ⟨xs, rfl⟩
                | none => rw [loop_G, hq] at o4; exact False.elim o4
              · have hl4 : H4 D = some (.lst accV) := e4.keep _ _ hl3 (rs3.hid D hd2).2
                have hr4 := RelL.mono e4 _ _ hr3
                have hd4 := e4.hd1 D hd2
                have e24 := e23.trans e4
                exact lc_loop htv1 hD e24 rs4 hd4 hl4 hr4 (rl3.mono e4) hJ1 o4 fun μ' S' acc' accV' H' e5 _ rs5 hd5 hl5 hr5 o5 => ⟨μ', S', acc', accV', past.succ hit, e5, rs5, hd5, hl5, hr5, o5⟩
/-! ### the rules -/
variable {elt tg iter tg1 iter1 : Expr} {ifs : List Expr} {scope : Scope} {own : List (Str × Nat)} {pos : Pos} {t t1 : IE} {fi fi1 : FE} {ft : FT} {fe : FE} {vs1 : List Nat}
theorem e_lc (m : Bool) (hc : X.calm = true) (hN : X.N.Nodup) (hi : PI X tg iter (tI L E fi)) (ok : BlkOk X.N X.env.scope scope own) (htv : ∀ i ∈ tv t, i ∈ own.map (·.2))
    (hg : ∀ (s : Shared) (H : Hp) (C : Addr) (cl : List (Str × Addr)) (fp : List Addr), PG (X.blk s H scope (compEnvC scope cl C X.env) fp) tg (gT L t)) (ht : ∀ (s : Shared) (H : Hp) (C : Addr) (cl : List (Str × Addr)) (fp : List Addr), PTs (X.blk s H scope (compEnvC scope cl C X.env) fp) ifs (tB L E0 ft))
    (he : ∀ (s : Shared) (H : Hp) (C : Addr) (cl : List (Str × Addr)) (fp : List Addr), PE (X.blk s H scope (compEnvC scope cl C X.env) fp) elt (tE L E0 fe)) (hs : ∀ x, foldedSetIterable iter X.env x = pure x) :
    PE X (.ListComp elt [⟨tg, iter, ifs, 0⟩] scope pos) (tE L E (lcF m t (own.map (·.2)) fi ft fe)) := PEw (pe_lc hc hN hi ok hg ht he hs) fun σ H Q h => lc_read m htv σ H Q h
theorem e_lc2 (m : Bool) (hc : X.calm = true) (hN : X.N.Nodup) (hi : PI X tg iter (tI L E fi)) (ok : BlkOk X.N X.env.scope scope own) (htv : ∀ i ∈ tv t, i ∈ own.map (·.2)) (htv1 : ∀ i ∈ tv t1, i ∈ vs1) (hv : ∀ i ∈ vs1, i ∈ own.map (·.2))
    (hg : ∀ (s : Shared) (H : Hp) (C : Addr) (cl : List (Str × Addr)) (fp : List Addr), PG (X.blk s H scope (compEnvC scope cl C X.env) fp) tg (gT L t))
    (hi1 : ∀ (s : Shared) (H : Hp) (C : Addr) (cl : List (Str × Addr)) (fp : List Addr), PI (X.blk s H scope (compEnvC scope cl C X.env) fp) tg1 iter1 (tI L E0 fi1))
    (hg1 : ∀ (s : Shared) (H : Hp) (C : Addr) (cl : List (Str × Addr)) (fp : List Addr), PG (X.blk s H scope (compEnvC scope cl C X.env) fp) tg1 (gT L t1)) (ht : ∀ (s : Shared) (H : Hp) (C : Addr) (cl : List (Str × Addr)) (fp : List Addr), PTs (X.blk s H scope (compEnvC scope cl C X.env) fp) ifs (tB L E0 ft))
    (he : ∀ (s : Shared) (H : Hp) (C : Addr) (cl : List (Str × Addr)) (fp : List Addr), PE (X.blk s H scope (compEnvC scope cl C X.env) fp) elt (tE L E0 fe)) (hs : ∀ x, foldedSetIterable iter X.env x = pure x) (hs1 : ∀ env x, foldedSetIterable iter1 env x = pure x) :
    PE X (.ListComp elt [⟨tg, iter, [], 0⟩, ⟨tg1, iter1, ifs, 0⟩] scope pos) (tE L E (lc2F m t t1 (own.map (·.2)) vs1 fi fi1 ft fe)) :=
  PEw (pe_lc2 hc hN hi ok hv hg (fun _ _ _ _ _ => pts_nil) hi1 hg1 ht he hs hs1) fun σ H Q h => lc2_read m htv htv1 σ H Q h
/-- name = .. by a reading that a value's reading gives -/
theorem asg_read {te : TE} {f : FE} {i : Nat} (hf : ∀ σ H Q, tE L E f σ H Q → te σ H Q) (D : Ends) (σ : L2.St) (H : Hp) (h : tS L E (fun B ρ S => (f B ρ S).bind fun v S => (Out.of (tgt (.var i) v ρ) S).bind fun ρ' S => .ok (ρ', .nx) S) D σ H) : tAsg te (gName i) D σ H := by
  obtain ⟨μ, B, ρ, S, rs, rl, o⟩ := h
  refine hf σ H _ ⟨μ, B, ρ, S, rs, rl, o.bind.imp fun p S1 μ1 H1 e1 rs1 o1 v hv => ?_⟩
  obtain ⟨ρ', et, o2⟩ := (OutOk.bind o1).of rs1
  rw [tgt_var et] at o2
  exact OutOk.now o2 rs1 _ ((rl.mono e1).set hv)
theorem s_setLc (m : Bool) {i : Nat} {y : Str} {py spos : Pos} (hc : X.calm = true) (hN : X.N.Nodup) (hy : X.N[i]? = some y) (hyl : X.env.scope.names.lookup y = some .local)
    (hsw : swapsWith (.ListComp elt [⟨tg, iter, ifs, 0⟩] scope pos) (some (.Name y py)) spos.line X.env = pure true) (hi : PI X tg iter (tI L E fi)) (ok : BlkOk X.N X.env.scope scope own) (htv : ∀ i ∈ tv t, i ∈ own.map (·.2))
    (hg : ∀ (s : Shared) (H : Hp) (C : Addr) (cl : List (Str × Addr)) (fp : List Addr), PG (X.blk s H scope (compEnvC scope cl C X.env) fp) tg (gT L t)) (ht : ∀ (s : Shared) (H : Hp) (C : Addr) (cl : List (Str × Addr)) (fp : List Addr), PTs (X.blk s H scope (compEnvC scope cl C X.env) fp) ifs (tB L E0 ft))
    (he : ∀ (s : Shared) (H : Hp) (C : Addr) (cl : List (Str × Addr)) (fp : List Addr), PE (X.blk s H scope (compEnvC scope cl C X.env) fp) elt (tE L E0 fe)) (hs : ∀ x, foldedSetIterable iter X.env x = pure x) :
    PS X (.Assign [.Name y py] (.ListComp elt [⟨tg, iter, ifs, 0⟩] scope pos) spos) (tS L E fun B ρ S => (lcF m t (own.map (·.2)) fi ft fe B ρ S).bind fun v S => (Out.of (tgt (.var i) v ρ) S).bind fun ρ' S => .ok (ρ', .nx) S) :=
  PSw (ps_setLc hc hN hy hyl hsw hi ok hg ht he hs) fun D σ H h => asg_read (fun σ H Q q => lc_read m htv σ H Q q) D σ H h
theorem s_setLc2 (m : Bool) {i : Nat} {y : Str} {py spos : Pos} (hc : X.calm = true) (hN : X.N.Nodup) (hy : X.N[i]? = some y) (hyl : X.env.scope.names.lookup y = some .local)
    (hsw : swapsWith (.ListComp elt [⟨tg, iter, [], 0⟩, ⟨tg1, iter1, ifs, 0⟩] scope pos) (some (.Name y py)) spos.line X.env = pure true) (hi : PI X tg iter (tI L E fi)) (ok : BlkOk X.N X.env.scope scope own) (htv : ∀ i ∈ tv t, i ∈ own.map (·.2)) (htv1 : ∀ i ∈ tv t1, i ∈ vs1) (hv : ∀ i ∈ vs1, i ∈ own.map (·.2))
    (hg : ∀ (s : Shared) (H : Hp) (C : Addr) (cl : List (Str × Addr)) (fp : List Addr), PG (X.blk s H scope (compEnvC scope cl C X.env) fp) tg (gT L t))
    (hi1 : ∀ (s : Shared) (H : Hp) (C : Addr) (cl : List (Str × Addr)) (fp : List Addr), PI (X.blk s H scope (compEnvC scope cl C X.env) fp) tg1 iter1 (tI L E0 fi1))
    (hg1 : ∀ (s : Shared) (H : Hp) (C : Addr) (cl : List (Str × Addr)) (fp : List Addr), PG (X.blk s H scope (compEnvC scope cl C X.env) fp) tg1 (gT L t1)) (ht : ∀ (s : Shared) (H : Hp) (C : Addr) (cl : List (Str × Addr)) (fp : List Addr), PTs (X.blk s H scope (compEnvC scope cl C X.env) fp) ifs (tB L E0 ft))
    (he : ∀ (s : Shared) (H : Hp) (C : Addr) (cl : List (Str × Addr)) (fp : List Addr), PE (X.blk s H scope (compEnvC scope cl C X.env) fp) elt (tE L E0 fe)) (hs : ∀ x, foldedSetIterable iter X.env x = pure x) (hs1 : ∀ env x, foldedSetIterable iter1 env x = pure x) :
    PS X (.Assign [.Name y py] (.ListComp elt [⟨tg, iter, [], 0⟩, ⟨tg1, iter1, ifs, 0⟩] scope pos) spos) (tS L E fun B ρ S => (lc2F m t t1 (own.map (·.2)) vs1 fi fi1 ft fe B ρ S).bind fun v S => (Out.of (tgt (.var i) v ρ) S).bind fun ρ' S => .ok (ρ', .nx) S) :=
  PSw (ps_setLc2 hc hN hy hyl hsw hi ok hv hg (fun _ _ _ _ _ => pts_nil) hi1 hg1 ht he hs hs1) fun D σ H h => asg_read (fun σ H Q q => lc2_read m htv htv1 σ H Q q) D σ H h
end
end RV
end
section
/-! RVIter: range, enumerate, zip as iterators (of lists and tuples alike). -/
namespace RV
open PySem PySem.Spec PyProof.Rows L2
/-! ### range -/
theorem rng_get : ∀ (n : Nat) (lo : Int) (i : Nat), (rngI n lo)[i]? = if i < n then some (PV.int (lo + i)) else none
  | 0, lo, i => by
    show ([] : List PV)[i]? = _
    simp
  | n + 1, lo, 0 => by
    show (PV.int lo :: rngI n (lo + 1))[0]? = _
    simp
  | n + 1, lo, i + 1 => by
    show (PV.int lo :: rngI n (lo + 1))[i + 1]? = _
    rw [List.getElem?_cons_succ, rng_get n (lo + 1) i]
    by_cases h : i < n
    · rw [if_pos h, if_pos (by omega)]
      congr 2
      omega
    · rw [if_neg h, if_neg (by omega)]
section
variable {X : Cx} {L : Pl} {E : XK} {pos p : Pos}
theorem Itr_ok {μ : Mu} {H : Hp} {B : Sto} (n : Nat) (lo : Int) : ItOk L μ H B (.lst (rngI n lo)) (Itr lo n) where
  go := fun μ' H' S i q e rs hi => by
    have hi : (rngI n lo)[i]? = some q := Option.some.inj hi
    rw [rng_get] at hi
    by_cases h : i < n
    · rw [if_pos h] at hi
      have hi : PV.int (lo + i) = q := Option.some.inj hi
      refine ⟨h, fun x H2 hy => ?_⟩
      obtain ⟨e1, e2⟩ := hy
      rw [e1, ← hi]
      exact ⟨Ext.refl _ _, rs, e2⟩
    · rw [if_neg h] at hi; cases hi
  stop := fun μ' H' S i e rs _ hi => by
    have hi : (rngI n lo)[i]? = none := Option.some.inj hi
    rw [rng_get] at hi
    by_cases h : i < n
    · rw [if_pos h] at hi; cases hi
    · exact Nat.not_lt.mp h
theorem PIw {tg e : Expr} {t t' : TI} (h : PI X tg e t) (f : ∀ σ H R, t' σ H R → t σ H R) : PI X tg e t' := ⟨fun pins s σ H R I q => h.run pins s σ H R I (f σ H R q)⟩
def rng1F (x : PV) (S : Sto) : Out PV := match x with
  | .int j => match decide (-(lim / 4) ≤ j) && decide (j < lim / 4) with
    | true => .ok (.lst (rngI j.toNat 0)) S
    | false => .fail
  | _ => .fail
def rng2F (x y : PV) (S : Sto) : Out PV := match x, y with
  | .int i, .int j => match decide (-(lim / 4) ≤ i) && decide (i < lim / 4) && decide (-(lim / 4) ≤ j) && decide (j < lim / 4) with
    | true => .ok (.lst (rngI (j - i).toNat i)) S
    | false => .fail
  | _, _ => .fail
theorem lim4 : lim / 4 = 2 ^ 62 := by decide
theorem i_rng1 {tg a : Expr} {fa : FE} (hg : Gl X "range") (hm : X.mg "range" = none) (ha : PE X a (tE L E fa)) (hst : starEach [a] X.env = [(false, eval a X.env)]) : PI X tg (.Call (.Name "range" p) [a] [] pos) (tI L E fun B ρ S => (fa B ρ S).bind fun x S => rng1F x S) := by
  refine PIw (pi_range1 hg hm (pa_cons ha pa_nil (by rw [hst]; rfl)) hst) fun σ H R h => ?_
  obtain ⟨μ, B, ρ, S, rs, rl, o⟩ := h
  refine ⟨μ, B, ρ, S, rs, rl, o.bind.imp fun x S1 μ1 H1 e1 rs1 o3 v hx => ?_⟩
  cases x with
  | int j =>
    have o3 : OutOk L E μ1 H1 B (match decide (-(lim / 4) ≤ j) && decide (j < lim / 4) with
      | true => .ok (.lst (rngI j.toNat 0)) S1
      | false => .fail) (fun src S' μ' H' => (∃ xs, seqOf B S' src = some xs) ∧ ∀ J, ItOk L μ' H' B src J → R J H') := o3
    cases c : decide (-(lim / 4) ≤ j) && decide (j < lim / 4) with
    | false => rw [c] at o3; exact False.elim o3
    | true =>
      rw [c] at o3
      rw [Bool.and_eq_true] at c
      have c1 := of_decide_eq_true c.1
      have c2 := of_decide_eq_true c.2
      rw [lim4] at c1 c2
      have hx : v = .int j := hx
      exact ⟨j, by rw [hx], c1, c2, (OutOk.now o3 rs1).2 _ (Itr_ok _ _)⟩
  | _ => exact False.elim o3
theorem i_rng2 {tg a b : Expr} {fa fb : FE} (hg : Gl X "range") (hm : X.mg "range" = none) (ha : PE X a (tE L E fa)) (hb : PE X b (tE L E fb)) (hst : starEach [a, b] X.env = [(false, eval a X.env), (false, eval b X.env)]) (hst2 : starEach [b] X.env = [(false, eval b X.env)]) :
    PI X tg (.Call (.Name "range" p) [a, b] [] pos) (tI L E fun B ρ S => (fa B ρ S).bind fun x S => (fb B ρ S).bind fun y S => rng2F x y S) := by
  refine PIw (pi_range2 hg hm (pa_cons ha (pa_cons hb pa_nil (by rw [hst2]; rfl)) (by rw [hst, hst2])) hst hst2) fun σ H R h => ?_
  obtain ⟨μ, B, ρ, S, rs, rl, o⟩ := h
  refine ⟨μ, B, ρ, S, rs, rl, o.bind.imp fun x S1 μ0 H0 e0 rs0 o1 v hx => ⟨μ0, B, ρ, S1, rs0, rl.mono e0, o1.bind.imp fun y S2 μ1 H1 e1 rs1 o5 w hy => ?_⟩⟩
  by_cases hh : ∃ i j, x = .int i ∧ y = .int j
  · obtain ⟨i, j, rfl, rfl⟩ := hh
    have o5 : OutOk L E μ1 H1 B (match decide (-(lim / 4) ≤ i) && decide (i < lim / 4) && decide (-(lim / 4) ≤ j) && decide (j < lim / 4) with
      | true => .ok (.lst (rngI (j - i).toNat i)) S2
      | false => .fail) (fun src S' μ' H' => (∃ xs, seqOf B S' src = some xs) ∧ ∀ J, ItOk L μ' H' B src J → R J H') := o5
    cases c : decide (-(lim / 4) ≤ i) && decide (i < lim / 4) && decide (-(lim / 4) ≤ j) && decide (j < lim / 4) with
    | false => rw [c] at o5; exact False.elim o5
    | true =>
      rw [c] at o5
      simp only [Bool.and_eq_true, decide_eq_true_eq, lim4] at c
      have hx : v = .int i := hx
      have hy : w = .int j := hy
      exact ⟨i, j, by rw [hx, hy], ⟨c.1.1.1, c.1.1.2, c.1.2, c.2⟩, (OutOk.now o5 rs1).2 _ (Itr_ok _ _)⟩
  · have : rng2F x y S2 = .fail := by
      unfold rng2F
      split
      · exact (hh ⟨_, _, rfl, rfl⟩).elim
      · rfl
    rw [this] at o5
    exact False.elim o5
end
/-! ### lists and tuples alike -/
def SqK (k : Bool) (K : PySem.W.Frag) (H : Hp) (a : Addr) (xs : List V) : Prop := match k with
  | true => SqT K H a xs
  | false => SqL K H a xs
def IterK (k : Bool) (h : Heap) (it a : Addr) (i : Nat) : Prop := match k with
  | true => h.IsTupleIter it a i
  | false => h.IsListIter it a i
def IsK (k : Bool) (h : Heap) (a : Addr) (items : Array Value) : Prop := match k with
  | true => h.IsTuple a items
  | false => h.IsList a items
def itO (k : Bool) (a : Addr) : Obj := match k with
  | true => { cls := .type "tuple_iterator", data := .fields #[.ref a, .int 0 0] }
  | false => { cls := .type "list_iterator", data := .fields #[.ref a, .int 0 0] }
theorem IterK.at {k : Bool} {h h' : Heap} {it a : Addr} {i : Nat} (x : IterK k h it a i) (e : ∀ o, h.get? it = some o → h'.get? it = some o) : IterK k h' it a i := by
  cases k with
  | true => exact Heap.IsTupleIter.at x e
  | false => exact Heap.IsListIter.at x e
theorem IterK.obj {k : Bool} {h : Heap} {it a : Addr} {i : Nat} (x : IterK k h it a i) : ∃ o, h.get? it = some o ∧ ∀ v, o.data ≠ .cell v := by
  cases k with
  | true => obtain ⟨o, e, _, d⟩ := x; exact ⟨o, e, fun v q => by rw [d] at q; cases q⟩
  | false => obtain ⟨o, e, _, d⟩ := x; exact ⟨o, e, fun v q => by rw [d] at q; cases q⟩
theorem Inv.seqK {X : Cx} {pins : List (Addr × Obj)} {σ : L2.St} {H : Hp} {s : Shared} {k : Bool} {a : Addr} {xs : List V} (I : L2.Inv X pins σ H s) (h : SqK k X.K H a xs) : ∃ its, Vals xs its ∧ IsK k s.heap a its.toArray := by
  cases k with
  | true => obtain ⟨its, rv, p, _⟩ := I.tuple h; exact ⟨its, rv, p⟩
  | false => obtain ⟨its, rv, p, _⟩ := I.list h; exact ⟨its, rv, p.isList⟩
theorem Inv.seqK_inj {X : Cx} {pins : List (Addr × Obj)} {σ : L2.St} {H : Hp} {s : Shared} {k : Bool} {a : Addr} {xs ys : List V} (I : L2.Inv X pins σ H s) (h : SqK k X.K H a xs) (h' : SqK k X.K H a ys) : xs = ys := by
  cases k with
  | true => exact I.tuple_inj h h'
  | false => exact I.list_inj h h'
theorem DrawsK {prog : Program} {w : World} {A : Around} (hh : A.handled = none) (k : Bool) (it a : Addr) (hne : a ≠ it) (items : Array Value) : Draws prog w A it [it, a] items.size (fun i v => items[i]? = some v) (fun i h => IterK k h it a i ∧ IsK k h a items) := by
  cases k with
  | true => exact Draws.tuple hh it a hne items
  | false => exact Draws.list hh it a hne items
theorem IsK.lt {k : Bool} {h : Heap} {a : Addr} {items : Array Value} (x : IsK k h a items) : a < h.objs.size := by
  cases k with
  | true => obtain ⟨o, e, _⟩ := x; exact Heap.lt_size e
  | false => obtain ⟨o, e, _⟩ := x; exact Heap.lt_size e
/-! ### enumerate -/
def ItE (k : Bool) (K : PySem.W.Frag) (a : Addr) : It :=
  ⟨fun i H => ∃ (xs : List V) (x : V), SqK k K H a xs ∧ xs[i]? = some x, fun i H v H' => ∃ T x, v = .ref T ∧ H T = none ∧ H' = upd H T (.tup [.int (i : Nat), x]) ∧ ∀ xs, SqK k K H a xs → xs[i]? = some x, fun i H => ∃ xs : List V, SqK k K H a xs ∧ xs.length = i⟩
/-- what stands at a place of a sequence -/
theorem val_at {xs : List V} {its : List Value} {i : Nat} {x : V} (rv : Vals xs its) (hx : xs[i]? = some x) : ∃ u, its.toArray[i]? = some u ∧ RelV x u ∧ i < its.toArray.size := by
  have ⟨u, a, b⟩ := rv.get hx
  have c := (List.getElem?_eq_some_iff.mp a).1
  exact ⟨u, by rw [List.getElem?_toArray]; exact a, b, by rw [List.size_toArray]; exact c⟩
/-- an iterator has written cells of its own and laid a pair -/
theorem pair_in {X : Cx} {pins : List (Addr × Obj)} {σ : L2.St} {H : Hp} {s : Shared} {ch : List Addr} {g : Heap} {t : Nat} {x y : V} {u v : Value} (I : L2.Inv X pins σ H s) (own : ∀ b ∈ ch, FpOk X pins H b) (low : ∀ b ∈ ch, b < s.heap.objs.size)
    (rest : ∀ b o, b ∉ ch → s.heap.get? b = some o → g.get? b = some o) (at_ : g.get? s.heap.objs.size = some { cls := .type "tuple", data := .seq #[u, v] }) (ru : RelV x u) (rv : RelV y v) :
    L2.Inv X pins σ (upd H s.heap.objs.size (.tup [x, y])) { s with heap := g, toks := t } ∧ ∀ b ∈ ch, upd H s.heap.objs.size (.tup [x, y]) b = none :=
  ⟨I.turnedNew rest own (Nat.le_refl _) ⟨by show 2 ≤ sizeLine; decide, _, .cons ru (.cons rv .nil), _, at_, rfl, _, rfl⟩, fun b m => (upd_ne (Nat.ne_of_lt (low b m))).trans (own b m).1⟩
/-- enumerate, i turns done -/
structure EnSt (k : Bool) (a e it : Addr) (i : Nat) (h : Heap) : Prop where
  en : ∃ old, IsEnum h e it ((i : Nat) : Int) old
  src : IterK k h it a i
  ne : e ≠ it
theorem EnSt.low {k : Bool} {a e it : Addr} {i : Nat} {h : Heap} (st : EnSt k a e it i h) : ∀ b ∈ [e, it], b < h.objs.size := by
  obtain ⟨_, x⟩ := st.en
  obtain ⟨_, y, _⟩ := st.src.obj
  exact List.forall_mem_cons.mpr ⟨Heap.lt_size x, List.forall_mem_singleton.mpr (Heap.lt_size y)⟩
theorem turn_enumK {P : Program} {w : World} {K : PySem.W.Frag} {elts : List Expr} {kk : Nat} {tpos : Pos} (k : Bool) (a e it : Addr) (ha : a ≠ it) (hae : a ≠ e) :
    Turn P w K (.Tuple elts kk tpos) (ItE k K a) [e, it] e (EnSt k a e it) where
  mem := List.mem_cons_self
  self := fun _ _ _ _ _ st q => wpAny_pyIter_enum st.en.choose_spec q
  obj := fun _ _ st => List.forall_mem_cons.mpr ⟨⟨_, st.en.choose_spec, fun _ z => nomatch z⟩, List.forall_mem_singleton.mpr st.src.obj⟩
  keep := fun _ _ _ st kp =>
    { en := ⟨_, kp e List.mem_cons_self _ st.en.choose_spec⟩
      src := st.src.at (kp it (List.mem_cons_of_mem _ List.mem_cons_self))
      ne := st.ne }
  item := fun X eP ew eK calm i pins s σ H E I own st ⟨xs, x, isq, hx⟩ => by
    subst eP ew eK
    obtain ⟨its, vals, p⟩ := Inv.seqK I isq
    obtain ⟨u, at_u, ru, lu⟩ := val_at vals hx
    obtain ⟨old, en⟩ := st.en
    refine wpAny_pyNext_enum_itemC (DrawsK (A := X.A.in1) (I.ok.hd calm) k it a ha its.toArray) en ⟨st.src, p⟩ lu st.ne (by simp [st.ne, hae, Ne.symm hae]) fun u' g tk got hold nx pair _ others => ?_
    cases at_u.symm.trans got
    refine ⟨_, rfl, wpAny_letOwnedTupleGo_enum (s := { s with heap := g, toks := tk + 1 }) hold fun g2 en2 sb => ?_⟩
    have kp : ∀ b o, b ∉ [e, it] → s.heap.get? b = some o → g2.get? b = some o := fun b o out z => by
      rw [List.mem_cons, List.mem_singleton, not_or] at out
      exact (sb.2 b out.1).trans (others b o out.1 out.2 z)
    obtain ⟨I2, nn⟩ := pair_in (t := tk + 1) I own st.low kp ((sb.2 _ (Nat.ne_of_gt (Heap.lt_size en))).trans pair) (x := .int (i : Nat)) ⟨_, rfl⟩ ru
    have st2 : EnSt k a e it (i + 1) g2 := ⟨⟨u, (Int.natCast_succ i) ▸ en2⟩, nx.1.at fun o z => (sb.2 it (Ne.symm st.ne)).trans z, st.ne⟩
    exact ⟨.ref s.heap.objs.size, _, I2, rfl, ⟨_, x, rfl, I.hok.fresh (Nat.le_refl _), rfl, fun ys y => Inv.seqK_inj I y isq ▸ hx⟩, st2, nn⟩
  done := fun X eP ew eK calm i pins s σ H E I own st ⟨xs, isq, full⟩ => by
    subst eP ew eK
    obtain ⟨its, vals, p⟩ := Inv.seqK I isq
    have sz : i = its.toArray.size := by rw [← full, vals.length, List.size_toArray]
    obtain ⟨old, en⟩ := st.en
    have o := own it (List.mem_cons_of_mem _ List.mem_cons_self)
    exact wpAny_pyNext_enum_endD (DrawsK (A := X.A.in1) (I.ok.hd calm) k it a ha its.toArray) en ⟨sz ▸ st.src, p⟩ fun g others => ⟨rfl, I.turned (t' := s.toks) others o.1 o.2.1 o.2.2.2.1 o.2.2.2.2.1 o.2.2.2.2.2⟩
/-- objects laid one behind the other -/
def pushL (h : Heap) : List Obj → Heap
  | [] => h
  | o :: os => pushL (h.push o) os
theorem pushL_size : ∀ (os : List Obj) (h : Heap), (pushL h os).objs.size = h.objs.size + os.length
  | [], _ => rfl
  | o :: os, h => by
    show (pushL (h.push o) os).objs.size = h.objs.size + (os.length + 1)
    rw [pushL_size os, Heap.size_push]
    omega
theorem pushL_old : ∀ (os : List Obj) (h : Heap) {b : Addr} {p : Obj}, h.get? b = some p → (pushL h os).get? b = some p
  | [], _, _, _, e => e
  | _ :: os, _, _, _, e => pushL_old os _ (Heap.get?_push_of_some _ e)
theorem pushL_new : ∀ (os : List Obj) (h : Heap) (j : Nat) (p : Obj), os[j]? = some p → p.isFreed = false → (pushL h os).get? (h.objs.size + j) = some p
  | [], _, j, _, e, _ => by rw [List.getElem?_nil] at e; cases e
  | o :: os, h, 0, p, e, f => by
    rw [List.getElem?_cons_zero] at e
    rw [← Option.some.inj e] at f ⊢
    exact pushL_old os _ (Heap.get?_push_size _ f)
  | o :: os, h, j + 1, p, e, f => by
    rw [List.getElem?_cons_succ] at e
    have q := pushL_new os (h.push o) j p e f
    rw [Heap.size_push] at q
    have : h.objs.size + (j + 1) = h.objs.size + 1 + j := by omega
    rw [this]
    exact q
abbrev enuO (h : Heap) : Obj := { cls := .type "enumerate", data := .fields #[.none, .bool false, .ref h.objs.size, rawInt 0, .none, .none] }
open AutoSeq1 (wpAny_loadPart') in
theorem meets_enumerate_newT (l : Addr) (items : Array Value) (n : Nat) (dct : Option Addr) (sl : Array (Option Value)) :
    Meets (Builtin.«enumerate.__new__» ⟨[.type "enumerate", .ref l], []⟩) (fun _ R s => s.heap.get? l = some { cls := .type "tuple", dict := dct, data := .seq items n, slots := sl } ∧ R (.ok (.ret (.ref (s.heap.push (itO true l)).objs.size))) { s with heap := pushL s.heap [itO true l, enuO s.heap] }) :=
  Meets.of_wp (by
    rintro prog w A R ⟨hp, g, d, tk, os⟩ ⟨tup, fin⟩
    have hsub := sub_enumerate
    have isT : Heap.IsTuple (Shared.heap ⟨hp, g, d, tk, os⟩) l items := ⟨_, tup, rfl, n, rfl⟩
    wp_walk using wpAny_loadPart' tup
    refine wpAny_stack_any fun _ => wpAny_pure ?_
    split
    case' h_1 cc _ _ _ _ _ => cases (cc == Value.type "enumerate")
    all_goals
      wp_walk using wpAny_loadPart' tup, wpAny_pyIter_tuple isT
      exact ⟨_, rfl, fin⟩)
section
variable {s : Shared} {E : Value → Shared → Prop} {A : Around} {w : World} {prog : Program}
theorem call_enumerate_tuple {l : Addr} {items : Array Value} {Q : Value → Shared → Prop} (tup : s.heap.IsTuple l items)
    (fin : ∀ g, IsEnum g (s.heap.objs.size + 1) s.heap.objs.size 0 .none → g.IsTupleIter s.heap.objs.size l 0 → (∀ b o, s.heap.get? b = some o → g.get? b = some o) → Q (.ref (s.heap.objs.size + 1)) { s with heap := g }) :
    wpAny (model prog w) A (call (.type "enumerate") [.ref l]) Q E s := by
  obtain ⟨o, ho, hc, n, hd⟩ := tup
  have eo : o = { cls := .type "tuple", dict := o.dict, data := .seq items n, slots := o.slots } := by
    rw [← hc, ← hd]
  rw [eo] at ho
  have e1 : IsEnum (pushL s.heap [itO true l, enuO s.heap]) (s.heap.objs.size + 1) s.heap.objs.size 0 .none := pushL_new _ _ 1 _ rfl rfl
  have e0 := pushL_new [itO true l, enuO s.heap] s.heap 0 _ rfl rfl
  refine callType_new F.called_enumerate (by decide) (F.typeCall_enumerate_1 _) (F.newCall_enumerate_1 _) (fun ob => F.args_object_init_2 ob _)
    F.entry_enumerate_new (meets_enumerate_newT l items n _ _) ⟨ho, ?_⟩
  rw [Heap.size_push]
  exact ⟨⟨_, e1, rfl⟩, fin _ e1 ⟨_, e0, rfl, rfl⟩ fun _ _ => pushL_old _ _⟩
theorem call_enumerateK {k : Bool} {l : Addr} {items : Array Value} {Q : Value → Shared → Prop} (hL : IsK k s.heap l items)
    (h : ∀ h', IsEnum h' (s.heap.objs.size + 1) s.heap.objs.size 0 .none → IterK k h' s.heap.objs.size l 0 → (∀ b o, s.heap.get? b = some o → h'.get? b = some o) → Q (.ref (s.heap.objs.size + 1)) { s with heap := h' }) :
    wpAny (model prog w) A (call (.type "enumerate") [.ref l]) Q E s := by
  cases k with
  | true => exact call_enumerate_tuple hL h
  | false => exact call_enumerate_list hL fun h' a b _ c => h h' a b c
end
section
variable {X : Cx} {L : Pl} {E : XK} {pos p : Pos}
/-- a value that nobody changes, as it stands -/
theorem val_rel {μ : Mu} {H : Hp} {q : PV} {x : V} {xs : List PV} (hp : RelP L μ H q x) (e : valOf q = some xs) : ∃ k a ys, x = .ref a ∧ RelL L μ H xs ys ∧ SqK k L.K H a ys ∧ ∀ μ' H', Ex0 μ H μ' H' → SqK k L.K H' a ys := by
  cases q with
  | tup zs =>
    have e : some zs = some xs := e
    cases e
    obtain ⟨a, ys, e1, h1, h2⟩ := hp
    exact ⟨true, a, ys, e1, h2, h1, fun μ' H' e => SqT.ext0 e h1⟩
  | lst zs =>
    have e : some zs = some xs := e
    cases e
    obtain ⟨a, ys, e1, h1, h2, h3⟩ := hp
    exact ⟨false, a, ys, e1, h3, SqL.of h1, fun μ' H' e => SqL.of (e.keep _ _ h1 h2)⟩
  | scr zs =>
    have e : some zs = some xs := e
    cases e
    obtain ⟨a, ys, e1, h1, h2⟩ := hp
    refine ⟨false, a, ys, e1, h2, h1.sq, fun μ' H' e => SqF.sq ?_⟩
    rcases h1 with ⟨o, h1⟩ | h1
    · exact .inl ⟨o, e.frzs _ _ _ h1⟩
    · exact .inr h1
  | _ => cases e
theorem enum_get : ∀ (xs : List PV) (c : Int) (i : Nat), (enumP c xs)[i]? = (xs[i]?).map fun x => PV.tup [.int (c + i), x]
  | [], c, i => by show ([] : List PV)[i]? = _; simp
  | x :: xs, c, 0 => by show (PV.tup [.int c, x] :: enumP (c + 1) xs)[0]? = _; simp
  | x :: xs, c, i + 1 => by
    show (PV.tup [.int c, x] :: enumP (c + 1) xs)[i + 1]? = _
    rw [List.getElem?_cons_succ, enum_get xs (c + 1) i, List.getElem?_cons_succ]
    cases xs[i]? with
    | none => rfl
    | some y =>
      show some (PV.tup [.int (c + 1 + i), y]) = some (PV.tup [.int (c + (i + 1 : Nat)), y])
      congr 4
      omega
theorem enum_len : ∀ (xs : List PV) (c : Int), (enumP c xs).length = xs.length
  | [], _ => rfl
  | x :: xs, c => by
    show (enumP (c + 1) xs).length + 1 = xs.length + 1
    rw [enum_len]
theorem past_len {B : Sto} {xs : List PV} {i : Nat} (h : Past B (.lst xs) i) : i ≤ xs.length := by
  cases i with
  | zero => exact Nat.zero_le _
  | succ i =>
    obtain ⟨S, q, e⟩ := h i (Nat.lt_succ_self _)
    have e : xs[i]? = some q := Option.some.inj e
    exact (List.getElem?_eq_some_iff.mp e).1
theorem ItE_ok {μ : Mu} {H : Hp} {B : Sto} {xs : List PV} {k : Bool} {a : Addr} {ys : List V} (hl : RelL L μ H xs ys) (hs : ∀ μ' H', Ex0 μ H μ' H' → SqK k L.K H' a ys) : ItOk L μ H B (.lst (enumP 0 xs)) (ItE k L.K a) where
  go := fun μ' H' S i q e rs hi => by
    have hi : (enumP 0 xs)[i]? = some q := Option.some.inj hi
    rw [enum_get] at hi
    obtain ⟨y, hy, eq⟩ := Option.map_eq_some_iff.mp hi
    obtain ⟨v, ev, rv⟩ := (RelL.mono0 e xs ys hl).get hy
    refine ⟨⟨ys, v, hs μ' H' e, ev⟩, fun x H2 hyl => ?_⟩
    obtain ⟨T, x', ex, hT, eH, hx⟩ := hyl
    have := hx ys (hs μ' H' e)
    rw [ev] at this
    cases this
    rw [eH, ex, ← eq]
    have el := Ext.laid (o := .tup [.int (i : Nat), v]) rs hT
    refine ⟨el, rs.laid hT, T, _, rfl, SqT.of upd_same, .int (i : Nat), [v], rfl, ?_, v, [], rfl, RelP.mono el _ _ rv, rfl⟩
    show V.int (i : Nat) = V.int (0 + (i : Nat))
    rw [Int.zero_add]
  stop := fun μ' H' S i e rs past hi => by
    have hi : (enumP 0 xs)[i]? = none := Option.some.inj hi
    have h1 := past_len past
    rw [enum_len] at h1
    have h2 := List.getElem?_eq_none_iff.mp hi
    rw [enum_len] at h2
    exact ⟨ys, hs μ' H' e, by rw [← hl.length]; omega⟩
def enumF (x : PV) (S : Sto) : Out PV := match valOf x with
  | some xs => .ok (.lst (enumP ((0 : Nat) : Int) xs)) S
  | none => .fail
theorem i_enum {elts : List Expr} {kk : Nat} {tpos : Pos} {e : Expr} {fe : FE} (hK : X.K = L.K) (hg : Gl X "enumerate") (hm : X.mg "enumerate" = none) (he : PE X e (tE L E fe)) (hst : starEach [e] X.env = [(false, eval e X.env)]) :
    PI X (.Tuple elts kk tpos) (.Call (.Name "enumerate" p) [e] [] pos) (tI L E fun B ρ S => (fe B ρ S).bind fun x S => enumF x S) := by
  refine ⟨fun pins s σ H R I h => ?_⟩
  obtain ⟨μ, B, ρ, S, rs, rl, o⟩ := h
  refine Call_ (ld_blt I hg hm boot_enumerate (PyProof.Rows.callWith_type1 (thn ((pa_cons he pa_nil (by rw [hst]; rfl)).run pos pins s σ H (fun vs H1 => ∃ k a ys, vs = [.ref a] ∧ SqK k X.K H1 a ys ∧ R (ItE k X.K a) H1) I ⟨μ, B, ρ, S, rs, rl, o.bind.imp fun x S1 μ1 H1 e1 rs1 o1 v hv => ?_⟩) fun us s1 ⟨vs, H1, I1, r1, q1⟩ => ?_) hst rfl))
  · unfold enumF at o1
    cases ev : valOf x with
    | none => rw [ev] at o1; exact False.elim o1
    | some xs =>
      rw [ev] at o1
      obtain ⟨k, a, ys, ex, hl, hs, hk⟩ := val_rel hv ev
      rw [hK]
      exact ⟨k, a, ys, by rw [ex], hs, (OutOk.now o1 rs1).2 _ (ItE_ok hl hk)⟩
  · obtain ⟨k, a, ys, ex, hq, q⟩ := q1
    rw [ex] at r1
    rw [Vals.ref1 r1]
    obtain ⟨its, rv, p'⟩ := Inv.seqK I1 hq
    have hlt := p'.lt
    refine call_enumerateK p' fun h' he hit hk => wpAny_pyIter_enum he ?_
    have I2 : L2.Inv X pins σ H1 { s1 with heap := h' } := I1.kept (t' := s1.toks) hk
    refine ⟨s1.heap.objs.size + 1, [s1.heap.objs.size + 1, s1.heap.objs.size], _, _, H1, rfl, I2, turn_enumK k a (s1.heap.objs.size + 1) s1.heap.objs.size (Nat.ne_of_lt hlt) (Nat.ne_of_lt (Nat.lt_succ_of_lt hlt)), ⟨⟨.none, he⟩, hit, Nat.succ_ne_self _⟩, List.forall_mem_cons.mpr ⟨?_, List.forall_mem_singleton.mpr ?_⟩, q⟩
    · exact I1.fpOk (Nat.le_succ _) (I1.hok.fresh (Nat.le_succ _))
    · exact I1.fpOk Nat.le.refl (I1.hok.fresh Nat.le.refl)
end
end RV
end
section
/-! RVZip: zip of two, lists and tuples alike. -/
namespace RV
open PySem PySem.Spec PyProof.Rows L2
def ItZ (k1 k2 : Bool) (K : PySem.W.Frag) (a b : Addr) : It :=
  ⟨fun i H => ∃ (xs ys : List V) (x y : V), SqK k1 K H a xs ∧ SqK k2 K H b ys ∧ xs[i]? = some x ∧ ys[i]? = some y,
    fun i H v H' => ∃ T x y, v = .ref T ∧ H T = none ∧ H' = upd H T (.tup [x, y]) ∧ (∀ xs, SqK k1 K H a xs → xs[i]? = some x) ∧ ∀ ys, SqK k2 K H b ys → ys[i]? = some y,
    fun i H => ∃ xs ys : List V, SqK k1 K H a xs ∧ SqK k2 K H b ys ∧ i ≤ xs.length ∧ i ≤ ys.length ∧ (i = xs.length ∨ i = ys.length)⟩
theorem sep_of {z TI TO i1 i2 a b : Addr} (D : ZipApart z TI TO i1 i2 a b) : ZipSep2 z TI TO i1 i2 [i1, a] [i2, b] where
  TIz := D.TIz
  TOz := D.TOz
  TITO := D.TITO
  TIi1 := D.TIi1
  mem1 := by simp
  zf1 := by simp [Ne.symm D.i1z, Ne.symm D.l1z]
  Tf1 := by simp [D.TOi1, Ne.symm D.l1TO]
  TIi2 := D.TIi2
  mem2 := by simp
  zf2 := by simp [Ne.symm D.i2z, Ne.symm D.l2z]
  Tf2 := by simp [D.TOi2, Ne.symm D.l2TO]
  sep1_2 := by simp [D.i12, Ne.symm D.l2i1]
  sep2_1 := by simp [Ne.symm D.i12, Ne.symm D.l1i2]
theorem all5 {P : Addr → Prop} {a b c d e : Addr} (pa : P a) (pb : P b) (pc : P c) (pd : P d) (pe : P e) : ∀ q ∈ [a, b, c, d, e], P q :=
  List.forall_mem_cons.mpr ⟨pa, List.forall_mem_cons.mpr ⟨pb, List.forall_mem_cons.mpr ⟨pc, List.forall_mem_cons.mpr ⟨pd, List.forall_mem_singleton.mpr pe⟩⟩⟩⟩
/-- zip of two, i turns done -/
structure Z2 (k1 k2 : Bool) (a b z TI TO i1 i2 : Addr) (i : Nat) (h : Heap) : Prop where
  zip : IsZip h z TI TO .none
  ins : IsPair h TI (.ref i1) (.ref i2)
  out : ∃ x y, IsPair h TO x y
  fst : IterK k1 h i1 a i
  snd : IterK k2 h i2 b i
theorem Z2.low {k1 k2 : Bool} {a b z TI TO i1 i2 : Addr} {i : Nat} {h : Heap} (st : Z2 k1 k2 a b z TI TO i1 i2 i h) : ∀ q ∈ [z, TI, TO, i1, i2], q < h.objs.size := by
  obtain ⟨_, _, o⟩ := st.out
  obtain ⟨_, x, _⟩ := st.fst.obj
  obtain ⟨_, y, _⟩ := st.snd.obj
  exact all5 (Heap.lt_size st.zip) (Heap.lt_size st.ins) (Heap.lt_size o) (Heap.lt_size x) (Heap.lt_size y)
theorem turn_zipK {P : Program} {w : World} {K : PySem.W.Frag} {elts : List Expr} {kk : Nat} {tpos : Pos} (k1 k2 : Bool) {a b z TI TO i1 i2 : Addr} (D : ZipApart z TI TO i1 i2 a b) :
    Turn P w K (.Tuple elts kk tpos) (ItZ k1 k2 K a b) [z, TI, TO, i1, i2] z (Z2 k1 k2 a b z TI TO i1 i2) where
  mem := List.mem_cons_self
  self := fun _ _ _ _ _ st q => wpAny_pyIter_zip st.zip q
  obj := fun _ _ st => by
    obtain ⟨_, _, o⟩ := st.out
    exact all5 ⟨_, st.zip, fun _ e => nomatch e⟩ ⟨_, st.ins, fun _ e => nomatch e⟩ ⟨_, o, fun _ e => nomatch e⟩ st.fst.obj st.snd.obj
  keep := fun _ g g' st kp => by
    obtain ⟨x, y, o⟩ := st.out
    have M : ∀ q ∈ [z, TI, TO, i1, i2], ∀ p, g.get? q = some p → g'.get? q = some p := kp
    exact { zip := M _ (by simp) _ st.zip, ins := M _ (by simp) _ st.ins, out := ⟨x, y, M _ (by simp) _ o⟩, fst := st.fst.at (M _ (by simp)), snd := st.snd.at (M _ (by simp)) }
  item := fun X eP ew eK calm i pins s σ H E I own st ⟨xs, ys, x, y, sx, sy, hx, hy⟩ => by
    subst eP ew eK
    obtain ⟨us, vu, pu⟩ := Inv.seqK I sx
    obtain ⟨vs, vv, pv⟩ := Inv.seqK I sy
    obtain ⟨u, gu, ru, lu⟩ := val_at vu hx
    obtain ⟨v, gv, rv, lv⟩ := val_at vv hy
    obtain ⟨x0, y0, o⟩ := st.out
    refine wpAny_pyNext_zipD2_item (sep_of D) (DrawsK (A := X.A.in1) (I.ok.hd calm) k1 i1 a D.l1i1 us.toArray) (DrawsK (A := X.A.in1) (I.ok.hd calm) k2 i2 b D.l2i2 vs.toArray) st.zip st.ins o ⟨st.fst, pu⟩ ⟨st.snd, pv⟩ lu lv fun u' v' g tk qu qv zip' out' f' s' pair _ others => ?_
    cases gu.symm.trans qu
    cases gv.symm.trans qv
    refine ⟨_, rfl, wpAny_letOwnedTupleGo_zip (s := { s with heap := g, toks := tk }) zip' fun g2 zip2 sb => ?_⟩
    have kp : ∀ c p, c ∉ [z, TI, TO, i1, i2] → s.heap.get? c = some p → g2.get? c = some p := fun c p nin e => by
      simp only [List.mem_cons, List.not_mem_nil, or_false, not_or] at nin
      exact (sb.2 c nin.1).trans (others c p nin.1 nin.2.2.1 nin.2.2.2.1 nin.2.2.2.2 e)
    obtain ⟨I2, nn⟩ := pair_in (t := tk) I own st.low kp ((sb.2 _ (Nat.ne_of_gt (Heap.lt_size st.zip))).trans pair) ru rv
    have st2 : Z2 k1 k2 a b z TI TO i1 i2 (i + 1) g2 :=
      { zip := zip2
        ins := (sb.2 TI D.TIz).trans (others TI _ D.TIz D.TITO D.TIi1 D.TIi2 st.ins)
        out := ⟨u, v, (sb.2 TO D.TOz).trans out'⟩
        fst := f'.1.at fun _ e => (sb.2 i1 D.i1z).trans e
        snd := s'.1.at fun _ e => (sb.2 i2 D.i2z).trans e }
    exact ⟨.ref s.heap.objs.size, _, I2, rfl, ⟨_, x, y, rfl, I.hok.fresh (Nat.le_refl _), rfl, fun l q => Inv.seqK_inj I q sx ▸ hx, fun l q => Inv.seqK_inj I q sy ▸ hy⟩, st2, nn⟩
  done := fun X eP ew eK calm i pins s σ H E I own st ⟨xs, ys, sx, sy, l1, l2, last⟩ => by
    subst eP ew eK
    obtain ⟨us, vu, pu⟩ := Inv.seqK I sx
    obtain ⟨vs, vv, pv⟩ := Inv.seqK I sy
    rw [vu.length] at l1 last
    rw [vv.length] at l2 last
    obtain ⟨x0, y0, o⟩ := st.out
    refine wpAny_pyNext_zipD2_end (sep_of D) (DrawsK (A := X.A.in1) (I.ok.hd calm) k1 i1 a D.l1i1 us.toArray) (DrawsK (A := X.A.in1) (I.ok.hd calm) k2 i2 b D.l2i2 vs.toArray) st.zip st.ins o ⟨st.fst, pu⟩ ⟨st.snd, pv⟩ l1 l2 last fun g tk others => ⟨rfl, I.turnedL (t' := tk) (ch := [z, TI, TO, i1, i2]) (fun c p nin e => ?_) own⟩
    simp only [List.mem_cons, List.not_mem_nil, or_false, not_or] at nin
    exact others c p nin.1 nin.2.2.1 nin.2.2.2.1 nin.2.2.2.2 e
/-! zip(..) made -/
abbrev nilO : Obj := { cls := .type "tuple", data := .seq #[.none, .none] }
abbrev prO (h : Heap) (k1 : Bool) (l1 : Addr) : Obj := { cls := .type "tuple", data := .seq #[.ref h.objs.size, .ref (h.push (itO k1 l1)).objs.size] }
abbrev zpO (h : Heap) (k1 k2 : Bool) (l1 l2 : Addr) : Obj := { cls := .type "zip", data := .fields #[.none, .bool false, .bool false, .ref (pushL h [itO k1 l1, itO k2 l2]).objs.size, .ref (pushL h [itO k1 l1, itO k2 l2, prO h k1 l1]).objs.size] }
abbrev zpL (h : Heap) (k1 k2 : Bool) (l1 l2 : Addr) : List Obj := [itO k1 l1, itO k2 l2, prO h k1 l1, nilO, zpO h k1 k2 l1 l2]
theorem meets_zip_newK (k1 k2 : Bool) (l1 l2 : Addr) (xs ys : Array Value) :
    Meets (Builtin.«zip.__new__» ⟨[.type "zip", .ref l1, .ref l2], []⟩) (fun _ R s => IsK k1 s.heap l1 xs ∧ IsK k2 s.heap l2 ys ∧
      R (.ok (.ret (.ref (pushL s.heap [itO k1 l1, itO k2 l2, prO s.heap k1 l1, nilO]).objs.size))) { s with heap := pushL s.heap (zpL s.heap k1 k2 l1 l2) }) := by
  match k1, k2 with
  | false, false => exact meets_zip_new l1 l2 xs ys
  | true, true => exact RZ.meets_zipT_new l1 l2 xs ys
  | false, true =>
    refine Meets.of_wp (by
      rintro prog w A R ⟨hp, g, d, tk, os⟩ ⟨il, it, fin⟩
      have hsub := sub_zip
      have a : Heap.IsList (⟨hp, g, d, tk, os⟩ : Shared).heap l1 xs := il
      have b : Heap.IsTuple (⟨hp.push { cls := .type "list_iterator", data := .fields #[.ref l1, .int 0 0] }, g, d, tk, os⟩ : Shared).heap l2 ys := Heap.IsTuple.push it _
      wp_walk using wpAny_pyIter_list a, wpAny_pyIter_tuple b
      exact ⟨_, rfl, fin⟩)
  | true, false =>
    refine Meets.of_wp (by
      rintro prog w A R ⟨hp, g, d, tk, os⟩ ⟨it, il, fin⟩
      have hsub := sub_zip
      have a : Heap.IsTuple (⟨hp, g, d, tk, os⟩ : Shared).heap l1 xs := it
      have b : Heap.IsList (⟨hp.push { cls := .type "tuple_iterator", data := .fields #[.ref l1, .int 0 0] }, g, d, tk, os⟩ : Shared).heap l2 ys := Heap.IsList.push il _
      wp_walk using wpAny_pyIter_tuple a, wpAny_pyIter_list b
      exact ⟨_, rfl, fin⟩)
theorem itO_iter {k : Bool} {h : Heap} {it a : Addr} (e : h.get? it = some (itO k a)) : IterK k h it a 0 := by
  cases k with
  | true => exact ⟨_, e, rfl, rfl⟩
  | false => exact ⟨_, e, rfl, rfl⟩
theorem call_zipK {s : Shared} {E : Value → Shared → Prop} {A : Around} {w : World} {prog : Program} {k1 k2 : Bool} {l1 l2 : Addr} {xs ys : Array Value} {Q : Value → Shared → Prop} (hl1 : IsK k1 s.heap l1 xs) (hl2 : IsK k2 s.heap l2 ys)
    (fin : ∀ g, Z2 k1 k2 l1 l2 (s.heap.objs.size + 4) (s.heap.objs.size + 2) (s.heap.objs.size + 3) s.heap.objs.size (s.heap.objs.size + 1) 0 g → (∀ c p, s.heap.get? c = some p → g.get? c = some p) → Q (.ref (s.heap.objs.size + 4)) { s with heap := g }) :
    wpAny (model prog w) A (call (.type "zip") [.ref l1, .ref l2]) Q E s := by
  have free : ∀ (k : Bool) (l : Addr), (itO k l).isFreed = false := fun k l => by cases k <;> rfl
  have n0 := pushL_new (zpL s.heap k1 k2 l1 l2) s.heap 0 _ rfl (free k1 l1)
  have n1 := pushL_new (zpL s.heap k1 k2 l1 l2) s.heap 1 _ rfl (free k2 l2)
  have n2 := pushL_new (zpL s.heap k1 k2 l1 l2) s.heap 2 _ rfl rfl
  have n3 := pushL_new (zpL s.heap k1 k2 l1 l2) s.heap 3 _ rfl rfl
  have n4 := pushL_new (zpL s.heap k1 k2 l1 l2) s.heap 4 _ rfl rfl
  unfold prO at n2
  unfold zpO at n4
  rw [Heap.size_push] at n2
  rw [pushL_size, pushL_size] at n4
  refine callType_new F.called_zip (by decide) (F.typeCall_zip_2 _ _) (F.newCall_zip_2 _ _) (fun ob => F.args_object_init_3 ob _ _)
    F.entry_zip_new (meets_zip_newK k1 k2 l1 l2 xs ys) ⟨hl1, hl2, ?_⟩
  rw [pushL_size]
  exact ⟨⟨_, n4, rfl⟩, fin _ ⟨n4, n2, ⟨_, _, n3⟩, itO_iter n0, itO_iter n1⟩ fun _ _ => pushL_old _ _⟩
section
variable {X : Cx} {L : Pl} {E : XK} {pos p : Pos}
theorem zip_get : ∀ (xs ys : List PV) (i : Nat), (zipP xs ys)[i]? = (match xs[i]?, ys[i]? with
    | some x, some y => some (PV.tup [x, y])
    | _, _ => none)
  | [], ys, i => by show ([] : List PV)[i]? = _; simp
  | x :: xs, [], i => by
    show ([] : List PV)[i]? = _
    cases (x :: xs)[i]? <;> simp
  | x :: xs, y :: ys, 0 => by show (PV.tup [x, y] :: zipP xs ys)[0]? = _; simp
  | x :: xs, y :: ys, i + 1 => by
    show (PV.tup [x, y] :: zipP xs ys)[i + 1]? = _
    rw [List.getElem?_cons_succ, zip_get xs ys i, List.getElem?_cons_succ, List.getElem?_cons_succ]
theorem zip_len : ∀ (xs ys : List PV), (zipP xs ys).length = min xs.length ys.length
  | [], ys => by show 0 = _; simp
  | x :: xs, [] => by show 0 = _; simp
  | x :: xs, y :: ys => by
    show (zipP xs ys).length + 1 = _
    rw [zip_len, List.length_cons, List.length_cons]
    omega
theorem ItZ_ok {μ : Mu} {H : Hp} {B : Sto} {xs xs2 : List PV} {k1 k2 : Bool} {a b : Addr} {ys ys2 : List V} (hl : RelL L μ H xs ys) (hs : ∀ μ' H', Ex0 μ H μ' H' → SqK k1 L.K H' a ys) (hl2 : RelL L μ H xs2 ys2) (hs2 : ∀ μ' H', Ex0 μ H μ' H' → SqK k2 L.K H' b ys2) :
    ItOk L μ H B (.lst (zipP xs xs2)) (ItZ k1 k2 L.K a b) where
  go := fun μ' H' S i q e rs hi => by
    have hi : (zipP xs xs2)[i]? = some q := Option.some.inj hi
    rw [zip_get] at hi
    cases h1 : xs[i]? with
    | none => rw [h1] at hi; cases hi
    | some x1 =>
      cases h2 : xs2[i]? with
      | none => rw [h1, h2] at hi; cases hi
      | some x2 =>
        rw [h1, h2] at hi
        have hi : PV.tup [x1, x2] = q := Option.some.inj hi
        obtain ⟨v1, ev1, rv1⟩ := (RelL.mono0 e xs ys hl).get h1
        obtain ⟨v2, ev2, rv2⟩ := (RelL.mono0 e xs2 ys2 hl2).get h2
        refine ⟨⟨ys, ys2, v1, v2, hs μ' H' e, hs2 μ' H' e, ev1, ev2⟩, fun x H2 hyl => ?_⟩
        obtain ⟨T, x', y', ex, hT, eH, hx, hy⟩ := hyl
        have t1 := hx ys (hs μ' H' e)
        have t2 := hy ys2 (hs2 μ' H' e)
        rw [ev1] at t1
        rw [ev2] at t2
        cases t1
        cases t2
        rw [eH, ex, ← hi]
        have el := Ext.laid (o := .tup [v1, v2]) rs hT
        exact ⟨el, rs.laid hT, T, _, rfl, SqT.of upd_same, v1, [v2], rfl, RelP.mono el _ _ rv1, v2, [], rfl, RelP.mono el _ _ rv2, rfl⟩
  stop := fun μ' H' S i e rs past hi => by
    have hi : (zipP xs xs2)[i]? = none := Option.some.inj hi
    have h1 := past_len past
    rw [zip_len] at h1
    have h2 := List.getElem?_eq_none_iff.mp hi
    rw [zip_len] at h2
    have e1 := hl.length
    have e2 := hl2.length
    exact ⟨ys, ys2, hs μ' H' e, hs2 μ' H' e, by omega, by omega, by omega⟩
def zip2F (x y : PV) (S : Sto) : Out PV := match valOf x with
  | some xs => match valOf y with
    | some ys => .ok (.lst (zipP xs ys)) S
    | none => .fail
  | none => .fail
theorem i_zip {elts : List Expr} {kk : Nat} {tpos : Pos} {e e2 : Expr} {f1 f2 : FE} (hK : X.K = L.K) (hg : Gl X "zip") (hm : X.mg "zip" = none) (he : PE X e (tE L E f1)) (he2 : PE X e2 (tE L E f2)) (hst : starEach [e, e2] X.env = (false, eval e X.env) :: starEach [e2] X.env) (hst2 : starEach [e2] X.env = [(false, eval e2 X.env)]) :
    PI X (.Tuple elts kk tpos) (.Call (.Name "zip" p) [e, e2] [] pos) (tI L E fun B ρ S => (f1 B ρ S).bind fun x S => (f2 B ρ S).bind fun y S => zip2F x y S) := by
  refine ⟨fun pins s σ H R I h => ?_⟩
  obtain ⟨μ, B, ρ, S, rs, rl, o⟩ := h
  refine Call_ (ld_blt I hg hm PyProof.Rows.boot_zip (PyProof.Rows.callWith_type1 (thn ((pa_cons he (pa_cons he2 pa_nil (by rw [hst2]; rfl)) hst).run pos pins s σ H (fun vs H1 => ∃ k1 k2 a b ys ys2, vs = [.ref a, .ref b] ∧ SqK k1 X.K H1 a ys ∧ SqK k2 X.K H1 b ys2 ∧ R (ItZ k1 k2 X.K a b) H1) I
    ⟨μ, B, ρ, S, rs, rl, o.bind.imp fun x S1 μ0 H0 e0 rs0 o0 v hv => ⟨μ0, B, ρ, S1, rs0, rl.mono e0, o0.bind.imp fun y S2 μ1 H1 e1 rs1 o1 w hw => ?_⟩⟩) fun us s1 ⟨vs, H1, I1, r1, q1⟩ => ?_) hst (by rw [hst2]; rfl)))
  · unfold zip2F at o1
    cases ev : valOf x with
    | none => rw [ev] at o1; exact False.elim o1
    | some xs =>
      rw [ev] at o1
      cases ev2 : valOf y with
      | none => rw [ev2] at o1; exact False.elim o1
      | some xs2 =>
        rw [ev2] at o1
        obtain ⟨k, a, ys, ex, hl, hs, hk⟩ := val_rel (RelP.mono e1 _ _ hv) ev
        obtain ⟨k', a', ys', ex', hl', hs', hk'⟩ := val_rel hw ev2
        rw [hK]
        exact ⟨k, k', a, a', ys, ys', by rw [ex, ex'], hs, hs', (OutOk.now o1 rs1).2 _ (ItZ_ok hl hk hl' hk')⟩
  · obtain ⟨k1, k2, a, b, ys, ys2, ex, hqx, hqy, q⟩ := q1
    rw [ex] at r1
    obtain ⟨u1, u2, rfl, r1, r2⟩ := vals2 r1
    cases r1
    cases r2
    obtain ⟨its, rv, p1⟩ := Inv.seqK I1 hqx
    obtain ⟨its2, rv2, p2⟩ := Inv.seqK I1 hqy
    refine call_zipK p1 p2 fun g st old => wpAny_pyIter_zip st.zip ?_
    have fr : ∀ j, FpOk X pins H1 (s1.heap.objs.size + j) := fun j => I1.fpOk (Nat.le_add_right _ j) (I1.hok.fresh (Nat.le_add_right _ j))
    exact ⟨s1.heap.objs.size + 4, _, _, _, H1, rfl, I1.kept (t' := s1.toks) old, turn_zipK k1 k2 (PySem.W.ktu_apart s1.heap.objs.size a b p1.lt p2.lt), st, all5 (fr 4) (fr 2) (fr 3) (fr 0) (fr 1), q⟩
end
end RV
end
section
/-! RVIsi: isinstance. -/
namespace RV
open PySem PySem.Spec PyProof.Rows L2
def tyS : Nat → String
  | 0 => "NoneType"
  | 1 => "bool"
  | 2 => "int"
  | 3 => "str"
  | 4 => "tuple"
  | 5 => "list"
  | _ => "dict"
theorem kit_all : ∀ a, a < 7 → ∀ b, 0 < b → b < 6 → kitB (tyS a) (tyS b) = some (kitT a b) := by
  intro a ha b hb hb'
  have h1 : a = 0 ∨ a = 1 ∨ a = 2 ∨ a = 3 ∨ a = 4 ∨ a = 5 ∨ a = 6 := by omega
  have h2 : b = 1 ∨ b = 2 ∨ b = 3 ∨ b = 4 ∨ b = 5 := by omega
  rcases h1 with rfl | rfl | rfl | rfl | rfl | rfl | rfl <;> rcases h2 with rfl | rfl | rfl | rfl | rfl <;> decide +kernel
/-- what is asked of a class for its instances' type -/
structure TyC (K : PySem.W.Frag) (C : Addr) : Prop where
  cl : Cls K C
  ha : PySem.W.findIn K (.ref C) "__class__" = some (some (.builtin "object.__class__"))
  hn : PySem.W.specialIn K (.builtin "object.__class__") "__get__" = some (some (.builtin "getset_descriptor.__get__"))
  htk : PySem.W.takesIn K (.builtin "object.__class__") = some true
  hm : PySem.W.mroIn K C (.type "object") = some true
/-- a class as it is written -/
def CsOk (X : Cx) (L : Pl) (ce : Expr) (cs : CS) : Prop := ∃ v u, PE X ce (tC v) ∧ ClsV v u ∧ ((∃ b, csK cs = some b ∧ u = .type (tyS b)) ∨ ∃ c, cs = .cls c ∧ u = .ref (L.ca c) ∧ TyC L.K (L.ca c))
section
variable {X : Cx} {L : Pl} {E : XK} {pos p : Pos} {μ : Mu} {H : Hp} {B S : Sto}
theorem ty_rel {q : PV} {x : V} {a : Nat} (rs : RelS L μ H (B ++ S)) (hp : RelP L μ H q x) (e : tyK B S q = some a) : TyX L.K H x (.type (tyS a)) ∧ a < 7 := by
  cases q with
  | non =>
    have e : some 0 = some a := e
    cases e
    have hp : x = .non := hp
    rw [hp]
    exact ⟨.base .non, by decide⟩
  | bl b =>
    have e : some 1 = some a := e
    cases e
    have hp : x = .bl b := hp
    rw [hp]
    exact ⟨.base (.bl b), by decide⟩
  | int i =>
    have e : some 2 = some a := e
    cases e
    have hp : x = .int i := hp
    rw [hp]
    exact ⟨.base (.int i), by decide⟩
  | str i =>
    have e : some 3 = some a := e
    cases e
    have hp : x = .str i := hp
    rw [hp]
    exact ⟨.base (.str i), by decide⟩
  | tup xs =>
    have e : some 4 = some a := e
    cases e
    obtain ⟨b, ys, e1, h1, h2⟩ := hp
    rw [e1]
    refine ⟨?_, by decide⟩
    rcases h1 with (h1 | ⟨o, h1⟩) | h1
    · exact .base (.tup h1)
    · exact .fTuple h1
    · obtain ⟨o, its, n, e1, e2, _⟩ := h1
      exact .kTuple e1 e2
  | lst xs =>
    have e : some 5 = some a := e
    cases e
    obtain ⟨b, ys, e1, h1, h2⟩ := hp
    rw [e1]
    exact ⟨.base (.lst h1), by decide⟩
  | scr xs =>
    have e : some 5 = some a := e
    cases e
    obtain ⟨b, ys, e1, h1, h2⟩ := hp
    rw [e1]
    refine ⟨?_, by decide⟩
    rcases h1 with ⟨o, h1⟩ | h1
    · exact .base (.frz h1)
    · obtain ⟨o, its, n, e1, e2, _⟩ := h1
      exact .kList e1 e2
  | obj n =>
    have e : (match getS B S n with
      | some (.lst _) => some 5
      | some (.dlf _) => some 6
      | _ => none) = some a := e
    cases g : getS B S n with
    | none => rw [g] at e; cases e
    | some o =>
      rw [g] at e
      cases o with
      | lst zs =>
        have e : some 5 = some a := e
        cases e
        obtain ⟨b, e1, _, ys, h1, h2⟩ := rs.get g hp
        rw [e1]
        exact ⟨.base (.lst h1), by decide⟩
      | dlf zs =>
        have e : some 6 = some a := e
        cases e
        obtain ⟨b, e1, _, gs, h1, h2⟩ := rs.get g hp
        rw [e1]
        exact ⟨.base (.dK h1), by decide⟩
      | _ => cases e
theorem csK_lt {c : CS} {k : Nat} (h : csK c = some k) : 0 < k ∧ k < 6 := by
  cases c with
  | cls d => cases h
  | int => have h : 2 = k := Option.some.inj h; omega
  | bool => have h : 1 = k := Option.some.inj h; omega
  | str => have h : 3 = k := Option.some.inj h; omega
  | tuple => have h : 4 = k := Option.some.inj h; omega
  | list => have h : 5 = k := Option.some.inj h; omega
theorem isi1_b {q : PV} {c : CS} {k : Nat} {b : Bool} (ek : csK c = some k) (e : isi1 B S q c = some b) : ∃ a, tyK B S q = some a ∧ b = kitT a k := by
  have e' : (match csK c with
    | some b => match tyK B S q with
      | some a => some (kitT a b)
      | none => none
    | none => none) = some b := by
    cases c <;> first | exact e | cases ek
  rw [ek] at e'
  have e' : (match tyK B S q with
    | some a => some (kitT a k)
    | none => none) = some b := e'
  cases ea : tyK B S q with
  | none => rw [ea] at e'; cases e'
  | some a =>
    rw [ea] at e'
    exact ⟨a, rfl, (Option.some.inj e').symm⟩
/-- one class -/
theorem isi1_kit {q : PV} {x : V} {c : CS} {u : Value} {b : Bool} (rs : RelS L μ H (B ++ S)) (hp : RelP L μ H q x) (hu : (∃ b, csK c = some b ∧ u = .type (tyS b)) ∨ ∃ d, c = .cls d ∧ u = .ref (L.ca d) ∧ TyC L.K (L.ca d)) (e : isi1 B S q c = some b) :
    (∃ a, tyK B S q = some a ∧ PySem.W.kitOne L.K (.type (tyS a)) u = some b) ∨ (∃ d, TyX L.K H x (.ref (L.ca d)) ∧ PySem.W.kitOne L.K (.ref (L.ca d)) u = some b ∧ b = true) := by
  rcases hu with ⟨k, ek, eu⟩ | ⟨d, ec, eu, ty⟩
  · obtain ⟨a, ea, eb⟩ := isi1_b ek e
    left
    refine ⟨a, ea, ?_⟩
    rw [eu, eb]
    exact kit_ty (kit_all a (ty_rel rs hp ea).2 k (csK_lt ek).1 (csK_lt ek).2)
  · subst ec
    cases q with
    | obj n =>
      have e : (match getS B S n with
        | some (.ins e _) => (match Nat.beq e d with
          | true => some true
          | false => none)
        | _ => none) = some b := e
      cases g : getS B S n with
      | none => rw [g] at e; cases e
      | some o =>
        rw [g] at e
        cases o with
        | ins c fs =>
          have e : (match Nat.beq c d with
            | true => some true
            | false => none) = some b := e
          cases cd : Nat.beq c d with
          | false => rw [cd] at e; cases e
          | true =>
            rw [cd] at e
            have e : some true = some b := e
            have ecd : c = d := Nat.eq_of_beq_eq_true cd
            obtain ⟨a, e1, _, dx, gs, h1, h2⟩ := rs.get g hp
            rw [ecd] at h1
            right
            refine ⟨d, ?_, ?_, (Option.some.inj e).symm⟩
            · rw [e1]
              exact .base (.ins h1 ty.cl ty.ha ty.hn ty.htk ty.hm)
            · rw [eu, ← e]
              unfold PySem.W.kitOne
              rw [if_pos (by simp)]
        | _ => cases e
    | _ => cases e
theorem e_isi {a ce : Expr} {fa : FE} {c : CS} (hK : X.K = L.K) (hg : Gl X "isinstance") (hm : X.mg "isinstance" = none) (ha : PE X a (tE L E fa)) (hc : CsOk X L ce c) (hst : starEach [a, ce] X.env = (false, eval a X.env) :: starEach [ce] X.env) (hst2 : starEach [ce] X.env = [(false, eval ce X.env)]) :
    PE X (.Call (.Name "isinstance" p) [a, ce] [] pos) (tE L E fun B ρ S => (fa B ρ S).bind fun x S => Out.of ((isiF B S x [c]).map .bl) S) := by
  obtain ⟨v, u, hv, cv, hu⟩ := hc
  refine PEw (pe_callB call_isi hg hm (by decide +kernel) (pa_cons ha (pa_cons hv pa_nil (by rw [hst2]; rfl)) hst) (by decide) (by decide) hst (by rw [hst2]; rfl)) fun σ H Q h => ?_
  obtain ⟨μ, B, ρ, S, rs, rl, o⟩ := h
  refine ⟨μ, B, ρ, S, rs, rl, o.bind.imp fun q S1 μ1 H1 e1 rs1 o1 x hx => ?_⟩
  obtain ⟨r, er, o2⟩ := o1.of rs1
  obtain ⟨b, eb, rfl⟩ := Option.map_eq_some_iff.mp er
  have eb : (match isi1 B S1 q c with
    | some true => some true
    | some false => some false
    | none => none) = some b := eb
  have ei : isi1 B S1 q c = some b := by
    cases z : isi1 B S1 q c with
    | none => rw [z] at eb; cases eb
    | some k => rw [z] at eb; cases k <;> exact eb
  rw [hK]
  rcases isi1_kit rs1 hx hu ei with ⟨a, ta, kt⟩ | ⟨d, ty, kt, _⟩
  · exact ⟨x, v, _, u, b, rfl, cv, (ty_rel rs1 hx ta).1, kt, o2 _ rfl⟩
  · exact ⟨x, v, _, u, b, rfl, cv, ty, kt, o2 _ rfl⟩
/-- two classes, both built in -/
def CsB (X : Cx) (ce : Expr) (c : CS) : Prop := ∃ v k, PE X ce (tC v) ∧ ClsV v (.type (tyS k)) ∧ csK c = some k
theorem e_isi2 {a c1 c2 : Expr} {fa : FE} {k1 k2 : CS} {kk : Nat} {p2 : Pos} (hK : X.K = L.K) (hg : Gl X "isinstance") (hm : X.mg "isinstance" = none) (ha : PE X a (tE L E fa)) (h1 : CsB X c1 k1) (h2 : CsB X c2 k2)
    (hst : starEach [a, .Tuple [c1, c2] kk p2] X.env = (false, eval a X.env) :: starEach [.Tuple [c1, c2] kk p2] X.env) (s1 : starEach [c1, c2] X.env = (false, eval c1 X.env) :: starEach [c2] X.env) (s2 : starEach [c2] X.env = [(false, eval c2 X.env)]) :
    PE X (.Call (.Name "isinstance" p) [a, .Tuple [c1, c2] kk p2] [] pos) (tE L E fun B ρ S => (fa B ρ S).bind fun x S => Out.of ((isiF B S x [k1, k2]).map .bl) S) := by
  obtain ⟨v1, n1, hv1, cv1, hu1⟩ := h1
  obtain ⟨v2, n2, hv2, cv2, hu2⟩ := h2
  refine PEw (pe_callB call_isiT hg hm (by decide +kernel) (pa_cons ha (pa_cons (pe_tup (pa_cons hv1 (pa_cons hv2 pa_nil (by rw [s2]; rfl)) s1)) pa_nil rfl) hst) (by decide) (by decide) hst rfl) fun σ H Q h => ?_
  obtain ⟨μ, B, ρ, S, rs, rl, o⟩ := h
  refine ⟨μ, B, ρ, S, rs, rl, o.bind.imp fun q S1 μ1 H1 e1 rs1 o1 x hx => ?_⟩
  refine ⟨by show 2 ≤ sizeLine; decide, fun tp htp => ?_⟩
  obtain ⟨r, er, o2⟩ := o1.of'
  obtain ⟨b, eb, rfl⟩ := Option.map_eq_some_iff.mp er
  have eb : (match isi1 B S1 q k1 with
    | some true => some true
    | some false => (match isi1 B S1 q k2 with
      | some true => some true
      | some false => some false
      | none => none)
    | none => none) = some b := eb
  have el := Ext.laid (o := .tup [v1, v2]) rs1 htp
  have rs2 : RelS L μ1 (upd H1 tp (.tup [v1, v2])) (B ++ S1) := rs1.laid htp
  have hx2 := RelP.mono el _ _ hx
  have fin : Q (.bl b) (upd H1 tp (.tup [v1, v2])) := (OutOk.shift el o2).now rs2 _ rfl
  rw [hK]
  cases z1 : isi1 B S1 q k1 with
  | none => rw [z1] at eb; cases eb
  | some r1 =>
    rw [z1] at eb
    obtain ⟨a, ta, er1⟩ := isi1_b hu1 z1
    obtain ⟨ty, ha6⟩ := ty_rel rs2 hx2 ta
    have kt1 : PySem.W.kitOne L.K (.type (tyS a)) (.type (tyS n1)) = some r1 := by rw [er1]; exact kit_ty (kit_all a ha6 n1 (csK_lt hu1).1 (csK_lt hu1).2)
    have kany : PySem.W.kitAny L.K (.type (tyS a)) [.type (tyS n1), .type (tyS n2)] = some b := by
      cases r1 with
      | true =>
        have eb : some true = some b := eb
        rw [← eb]
        show (match PySem.W.kitOne L.K (.type (tyS a)) (.type (tyS n1)) with
          | some true => some true
          | some false => _
          | none => none) = some true
        rw [kt1]
      | false =>
        have eb : (match isi1 B S1 q k2 with
          | some true => some true
          | some false => some false
          | none => none) = some b := eb
        cases z2 : isi1 B S1 q k2 with
        | none => rw [z2] at eb; cases eb
        | some r2 =>
          rw [z2] at eb
          obtain ⟨a', ta', er2⟩ := isi1_b hu2 z2
          rw [ta] at ta'
          cases ta'
          have kt2 : PySem.W.kitOne L.K (.type (tyS a)) (.type (tyS n2)) = some r2 := by rw [er2]; exact kit_ty (kit_all a ha6 n2 (csK_lt hu2).1 (csK_lt hu2).2)
          have er : r2 = b := by cases r2 <;> exact Option.some.inj eb
          rw [← er]
          show (match PySem.W.kitOne L.K (.type (tyS a)) (.type (tyS n1)) with
            | some true => some true
            | some false => (match PySem.W.kitOne L.K (.type (tyS a)) (.type (tyS n2)) with
              | some true => some true
              | some false => some false
              | none => none)
            | none => none) = some r2
          rw [kt1]
          show (match PySem.W.kitOne L.K (.type (tyS a)) (.type (tyS n2)) with
              | some true => some true
              | some false => some false
              | none => none) = some r2
          rw [kt2]
          cases r2 <;> rfl
    exact ⟨x, tp, [v1, v2], _, _, b, rfl, upd_same, .cons cv1 (.cons cv2 .nil), ty, kany, fin⟩
end
end RV
end
section
/-! RVEq: == and != of own objects. -/
namespace RV
open PySem PySem.Spec PyProof.Rows L2
theorem ne_bind (self : Value) : bindSpecial (.builtin "object.__ne__") self = pure (.builtin "object.__ne__", [self]) := PySem.F.cmp_object.ne.bind self
theorem ownEq_some {B S : Sto} {x y : PV} {c : Nat} (h : ownEq B S x y = some c) : ∃ n m fs gs, x = .obj n ∧ y = .obj m ∧ getS B S n = some (.ins c fs) ∧ getS B S m = some (.ins c gs) := by
  unfold ownEq at h
  cases x with
  | obj n =>
    cases g : getS B S n with
    | none => simp only [g] at h; cases h
    | some o =>
      cases o with
      | ins d fs =>
        simp only [g] at h
        cases y with
        | obj m =>
          cases g2 : getS B S m with
          | none => simp only [g2] at h; cases h
          | some o2 =>
            cases o2 with
            | ins d2 gs =>
              simp only [g2] at h
              cases cd : Nat.beq d d2 with
              | false => rw [cd] at h; cases h
              | true =>
                rw [cd] at h
                have h : some d = some c := h
                have e1 := Option.some.inj h
                have e2 := Nat.eq_of_beq_eq_true cd
                subst e1 e2
                exact ⟨n, m, fs, gs, rfl, rfl, g, g2⟩
            | _ => simp only [g2] at h; cases h
        | _ => cases h
      | _ => simp only [g] at h; cases h
  | _ => cases h
section
variable {X : Cx} {L : Pl} {E : XK} {CX : CXT} {k : Nat} {fa : Addr} {fd : FuncData} {ps : List Str} {F : DefF}
/-- what is known of a class with an own __eq__ -/
structure EqC (X : Cx) (C fa : Addr) : Prop where
  eq : PySem.W.findIn X.K (.ref C) "__eq__" = some (some (.ref fa))
  ne : PySem.W.findIn X.K (.ref C) "__ne__" = some (some (.builtin "object.__ne__"))
  fn : PySem.W.isFn X.K (.ref fa) = true
  ob : PySem.W.mroIn X.K C (.type "object") = some true
/-- the own __eq__ runs, at any depth near the body's -/
theorem run_eq {A : Around} {pins : List (Addr × Obj)} {σ : L2.St} {H : Hp} {s : Shared} {Q : VK} {a b : Addr} (hA : A.frames = X.A.frames) (hF : FnO X.prog X.w X.K X.mg X.base CX k fa fd ps (spF L F)) (hr : Rm k A) (hx : Passes CX X E) (par : Par fd ps) (hb : bindOk ps 2 [] [] = true)
    (I : L2.Inv X pins σ H s) (h : spF L F [.ref a, .ref b] H Q E) : wpAny (model X.prog X.w) A (call (.ref fa) [.ref a, .ref b]) (EP X pins σ Q) X.xe s := by
  have e0 : Env0 X.prog X.w X.K X.mg X.base A X.stack s H := by
    have e := I.env0
    exact ⟨by rw [hA]; exact e.frames, e.mod, e.bs, e.bsz, e.funs, e.frf, e.hok, e.bare⟩
  have r2 : Vals [V.ref a, V.ref b] [Value.ref a, Value.ref b] := .cons rfl (.cons rfl .nil)
  have hbn := bind_reorder (us := [Value.ref a, Value.ref b]) (ws := []) (ks := []) (perm := []) par hb rfl
  refine wpAny_call (codeAny_mono (hF.run A X.stack s H ⟨[.ref a, .ref b], []⟩ [.ref a, .ref b] [.ref a, .ref b] Q E hr e0 (.of_eq hbn) r2 h) fun r s' hq => ?_)
  cases r with
  | error e => exact hx pins σ H s e s' I hq
  | ok fl =>
    cases fl with
    | ret u => exact I.after hq
    | next => exact False.elim hq
    | brk => exact False.elim hq
    | cont => exact False.elim hq
theorem own_sp {μ : Mu} {H : Hp} {B S : Sto} {x y : PV} {u v : V} {Q : Bool → Hp → Prop} (rs : RelS L μ H (B ++ S)) (hx : RelP L μ H x u) (hy : RelP L μ H y v)
    (o : OutOk L E μ H B (boolO (callF F true B S [x, y])) (fun b _ _ H' => Q b H')) : spF L F [u, v] H (fun r H' => ∃ b, r = .bl b ∧ Q b H') E := by
  refine call_pure (pu := true) (ws := [x, y]) (B := B) (S := S) (μ := μ) ?_ rs ⟨u, [v], rfl, hx, v, [], rfl, hy, rfl⟩
  cases e : callF F true B S [x, y] with
  | fail => rw [e] at o; exact False.elim o
  | exc c w S' => rw [e] at o; exact False.elim o
  | ok r S' =>
    rw [e] at o
    cases r with
    | bl b =>
      intro μ' H' ex rs' w hw
      exact ⟨b, hw, o μ' H' ex rs'⟩
    | _ => exact False.elim o
/-- a == b, both of one class with an own __eq__ -/
theorem rc_eq {pins : List (Addr × Obj)} {σ : L2.St} {H : Hp} {s : Shared} {Q : Bool → Hp → Prop} {a b C dx dy : Addr} {fs gs : List (Str × V)} (hu : X.A.units < cLine) (ec : EqC X C fa) (hF : FnO X.prog X.w X.K X.mg X.base CX k fa fd ps (spF L F)) (hr : Rm k X.A) (hx : Passes CX X E) (par : Par fd ps) (hb : bindOk ps 2 [] [] = true)
    (I : L2.Inv X pins σ H s) (ha : H a = some (.ins C dx fs)) (hb' : H b = some (.ins C dy gs)) (h : spF L F [.ref a, .ref b] H (fun r H' => ∃ b, r = .bl b ∧ Q b H') E) :
    wpAny (model X.prog X.w) X.A (richCompare .Eq (.ref a) (.ref b)) (EP X pins σ fun r H' => ∃ b, r = .bl b ∧ Q b H') X.xe s := by
  obtain ⟨mA, J, _⟩ := ins_get I.hok ha
  obtain ⟨mB, J', _⟩ := ins_get I.hok hb'
  obtain ⟨od, J, _⟩ := J.look
  obtain ⟨od', J', _⟩ := J'.look
  obtain ⟨m, hFr⟩ := I.fr
  refine PySem.W.cmp_K (op := .Eq) (tb := .ref C) hu hFr I.ok.mod.kin J J'.type (by simp [PySem.W.notFirst]) ec.eq ec.fn ?_
  refine thn (run_eq rfl hF hr hx par hb I h) fun v s' ⟨r, H', I', rr, b', er, q⟩ => ?_
  rw [er] at rr
  have rr : v = Value.bool b' := rr
  rw [rr]
  exact ⟨.bl b', H', I', rfl, b', rfl, q⟩
/-- a != b: object.__ne__ asks the own __eq__ -/
theorem rc_ne {pins : List (Addr × Obj)} {σ : L2.St} {H : Hp} {s : Shared} {Q : Bool → Hp → Prop} {a b C dx dy : Addr} {fs gs : List (Str × V)} (hu : X.A.units + 1 < cLine) (ec : EqC X C fa) (hF : FnO X.prog X.w X.K X.mg X.base CX k fa fd ps (spF L F)) (hr : Rm k X.A.in1) (hx : Passes CX X E) (par : Par fd ps) (hb : bindOk ps 2 [] [] = true)
    (I : L2.Inv X pins σ H s) (ha : H a = some (.ins C dx fs)) (hb' : H b = some (.ins C dy gs)) (h : spF L F [.ref a, .ref b] H (fun r H' => ∃ b, r = .bl b ∧ Q (!b) H') E) :
    wpAny (model X.prog X.w) X.A (richCompare .NotEq (.ref a) (.ref b)) (EP X pins σ fun r H' => ∃ b, r = .bl b ∧ Q b H') X.xe s := by
  obtain ⟨mA, J, _⟩ := ins_get I.hok ha
  obtain ⟨mB, J', _⟩ := ins_get I.hok hb'
  obtain ⟨od, J, _⟩ := J.look
  obtain ⟨od', J', _⟩ := J'.look
  have KX := I.kIn
  have sub : PySem.W.Looks (model X.prog X.w) s.heap (isInstance (.ref a) (.type "object")) true := J.type.andThen (PySem.W.looks_mroIn KX ec.ob)
  have inner : wpAny (model X.prog X.w) X.A.in1 (callSpecialIfBound? (.ref a) "__eq__" [.ref b]) (fun r s' => ∃ b', r = some (Value.bool b') ∧ ∃ H', L2.Inv X pins σ H' s' ∧ Q (!b') H') X.xe s := by
    refine PySem.W.ifBound_K KX J ec.eq ec.fn (thn (run_eq rfl hF hr hx par hb I h) fun v s' ⟨r, H', I', rr, b', er, q⟩ => ?_)
    rw [er] at rr
    have rr : v = Value.bool b' := rr
    exact ⟨b', by rw [rr], H', I', q⟩
  have one : wpAny (model X.prog X.w) X.A (tryCompare (.ref a) "__ne__" (.ref b)) (fun r s' => ∃ b', r = some (Value.bool b') ∧ ∃ H', L2.Inv X pins σ H' s' ∧ Q b' H') X.xe s := by
    unfold tryCompare
    have sp : PySem.W.Looks (model X.prog X.w) s.heap (specialOf (.ref a) "__ne__") (some (.builtin "object.__ne__")) := J.type.andThen (PySem.W.looks_findIn KX ec.ne)
    refine wpAny_bind (NtL.csib sp (ne_bind _) (wpAny_call (codeAny_call_builtin PySem.F.cmp_object.ne.plain PySem.F.cmpEntry_ne (PySem.W.check_slot PySem.F.cmpKind_ne PySem.F.cmpSplit_ne sub (PySem.F.cmpArgs_ne _ _) ?_))))
    show wpAny (model X.prog X.w) X.A.in1 (do
      cRoomFor "comparison" [Value.ref a, Value.ref b]
      match ← callSpecialIfBound? (.ref a) "__eq__" [.ref b] with
      | some .notImplemented | none => ret .notImplemented
      | some r => ret (.bool (!(← truthy r)))) _ _ _
    refine wpAny_bind (wpAny_cRoomFor (by show X.A.units + 1 < cLine; exact hu) ?_)
    refine wpAny_bind (thn inner fun r s' ⟨b', er, H', I', q⟩ => ?_)
    rw [er]
    show wpAny (model X.prog X.w) X.A.in1 (truthy (Value.bool b') >>= fun t => ret (.bool (!t))) _ _ s'
    refine wpAny_bind (m := truthy (Value.bool b')) (wpAny_of_eq (a := b') (by rfl) ?_)
    refine wpAny_pure ?_
    exact wpAny_pure ⟨!b', rfl, H', I', q⟩
  unfold richCompare
  simp only [oneThing_ref]
  refine wpAny_holding (wpAny_bind (wpAny_cRoomFor (by omega) ?_))
  refine wpAny_bind (J.type.here (wpAny_bind (J'.type.here ?_)))
  split
  · rename_i q
    simp at q
  · refine wpAny_bind (wpAny_pure ?_)
    simp only [Bool.false_eq_true, if_false]
    refine wpAny_bind (thn one fun r s' ⟨b', er, H', I', q⟩ => ?_)
    rw [er]
    exact wpAny_pure ⟨.bl b', H', I', rfl, b', rfl, q⟩
/-! as operators -/
/-- the classes with an own __eq__ of this text -/
structure EqOk (X : Cx) (L : Pl) (E : XK) (CX : CXT) (k : Nat) (C : Cfg) (Φ : Nat → DefF) : Prop where
  at_ : ∀ c f, C.eqm c = some f → ∃ fa fd ps, EqC X (L.ca c) fa ∧ FnO X.prog X.w X.K X.mg X.base CX k fa fd ps (spF L (Φ f)) ∧ Par fd ps ∧ bindOk ps 2 [] [] = true
theorem o_eqO {C : Cfg} {Φ : Nat → DefF} (hK : X.K = L.K) (hu : X.A.units + 65 < cLine) (hx : Passes CX X E) (hr : Rm k X.A) (eo : EqOk X L E CX k C Φ) : OpR X (compareOp .Eq) (r2 L E fun B S x y => (cmpO C Φ B S .eq x y).bind fun b S => .ok (.bl b) S) := by
  intro pins s σ H x y v u Q I rx ry h
  obtain ⟨μ, B, S, p, q, rs, hp, hq, o⟩ := h
  have o : OutOk L E μ H B ((eqF C Φ B S p q).bind fun b S => .ok (.bl b) S) (fun r _ μ' H' => ∀ v, RelP L μ' H' r v → Q v H') := o
  unfold eqF at o
  cases eo1 : ownEq B S p q with
  | none =>
    rw [eo1] at o
    have o : OutOk L E μ H B ((Out.of (eqP (der B S p) (der B S q)) S).bind fun b S => .ok (.bl b) S) (fun r _ μ' H' => ∀ v, RelP L μ' H' r v → Q v H') := o
    refine o_eq (E := E) hK (by omega) pins s σ H x y v u Q I rx ry ⟨μ, B, S, p, q, rs, hp, hq, ?_⟩
    show OutOk L E μ H B (Out.of ((eqP (der B S p) (der B S q)).map PV.bl) S) _
    cases e : eqP (der B S p) (der B S q) with
    | none => rw [e] at o; exact False.elim o
    | some b => rw [e] at o; exact o
  | some c =>
    rw [eo1] at o
    obtain ⟨n, m, fs, gs, rfl, rfl, g1, g2⟩ := ownEq_some eo1
    obtain ⟨a, ea, _, dx, fs', h1, _⟩ := rs.get g1 hp
    obtain ⟨b, eb, _, dy, gs', h2, _⟩ := rs.get g2 hq
    have o : OutOk L E μ H B ((ownF C Φ c B S (.obj n) (.obj m)).bind fun b S => .ok (.bl b) S) (fun r _ μ' H' => ∀ v, RelP L μ' H' r v → Q v H') := o
    unfold ownF at o
    cases ef : C.eqm c with
    | none => rw [ef] at o; exact False.elim o
    | some f =>
      rw [ef] at o
      obtain ⟨fa, fd, ps, ec, hF, par, hb⟩ := eo.at_ c f ef
      rw [ea] at rx hp
      rw [eb] at ry hq
      have rx : v = Value.ref a := rx
      have ry : u = Value.ref b := ry
      rw [rx, ry]
      have sp := own_sp (F := Φ f) (E := E) (Q := fun b H' => Q (.bl b) H') rs hp hq ((OutOk.bind o).imp fun b S1 μ1 H1 e1 rs1 o1 => OutOk.now o1 rs1 (.bl b) rfl)
      refine thn (rc_eq (by omega) ec hF hr hx par hb I h1 h2 sp) fun w s' ⟨r, H', I', rr, b', er, q⟩ => ?_
      exact ⟨r, H', I', rr, by rw [er]; exact q⟩
theorem o_neO {C : Cfg} {Φ : Nat → DefF} (hK : X.K = L.K) (hu : X.A.units + 65 < cLine) (hx : Passes CX X E) (hr : Rm k X.A.in1) (eo : EqOk X L E CX k C Φ) : OpR X (compareOp .NotEq) (r2 L E fun B S x y => (cmpO C Φ B S .ne x y).bind fun b S => .ok (.bl b) S) := by
  intro pins s σ H x y v u Q I rx ry h
  obtain ⟨μ, B, S, p, q, rs, hp, hq, o⟩ := h
  have o : OutOk L E μ H B ((neF C Φ B S p q).bind fun b S => .ok (.bl b) S) (fun r _ μ' H' => ∀ v, RelP L μ' H' r v → Q v H') := o
  unfold neF at o
  cases eo1 : ownEq B S p q with
  | none =>
    rw [eo1] at o
    have o : OutOk L E μ H B ((Out.of ((eqP (der B S p) (der B S q)).map (!·)) S).bind fun b S => .ok (.bl b) S) (fun r _ μ' H' => ∀ v, RelP L μ' H' r v → Q v H') := o
    refine o_ne (E := E) hK (by omega) pins s σ H x y v u Q I rx ry ⟨μ, B, S, p, q, rs, hp, hq, ?_⟩
    show OutOk L E μ H B (Out.of ((eqP (der B S p) (der B S q)).map fun b => PV.bl (!b)) S) _
    cases e : eqP (der B S p) (der B S q) with
    | none => rw [e] at o; exact False.elim o
    | some b => rw [e] at o; exact o
  | some c =>
    rw [eo1] at o
    obtain ⟨n, m, fs, gs, rfl, rfl, g1, g2⟩ := ownEq_some eo1
    obtain ⟨a, ea, _, dx, fs', h1, _⟩ := rs.get g1 hp
    obtain ⟨b, eb, _, dy, gs', h2, _⟩ := rs.get g2 hq
    have o : OutOk L E μ H B ((notO (ownF C Φ c B S (.obj n) (.obj m))).bind fun b S => .ok (.bl b) S) (fun r _ μ' H' => ∀ v, RelP L μ' H' r v → Q v H') := o
    unfold ownF at o
    cases ef : C.eqm c with
    | none => rw [ef] at o; exact False.elim o
    | some f =>
      rw [ef] at o
      obtain ⟨fa, fd, ps, ec, hF, par, hb⟩ := eo.at_ c f ef
      rw [ea] at rx hp
      rw [eb] at ry hq
      have rx : v = Value.ref a := rx
      have ry : u = Value.ref b := ry
      rw [rx, ry]
      have sp := own_sp (F := Φ f) (E := E) (Q := fun b H' => Q (.bl (!b)) H') rs hp hq (by
        have o2 := OutOk.bind (show OutOk L E μ H B ((notO (boolO (callF (Φ f) true B S [.obj n, .obj m]))).bind fun b S => .ok (PV.bl b) S) (fun r _ μ' H' => ∀ v, RelP L μ' H' r v → Q v H') from o)
        cases ec : callF (Φ f) true B S [.obj n, .obj m] with
        | fail => rw [ec] at o2; exact False.elim o2
        | exc c w S' => rw [ec] at o2; exact False.elim o2
        | ok r S' =>
          rw [ec] at o2
          cases r with
          | bl b => exact fun μ' H' e r => OutOk.now (o2 μ' H' e r) r (.bl (!b)) rfl
          | _ => exact False.elim o2)
      refine thn (rc_ne (Q := fun b H' => Q (.bl b) H') (by omega) ec hF hr hx par hb I h1 h2 sp) fun w s' ⟨r, H', I', rr, b', er, q⟩ => ?_
      exact ⟨r, H', I', rr, by rw [er]; exact q⟩
end
end RV
end
section
/-! RVMisc: chained comparisons, module constants, three swapped stores, calls of built-ins. -/
namespace RV
open PySem PySem.Spec PyProof.Rows L2
section
variable {X : Cx} {L : Pl} {E : XK} {pos p : Pos} {a b c : Expr} {fa fb fc : FE}
/-! ### a op b op' c -/
def chainF (op op' : COp) (fa fb fc : FE) : FE := fun B ρ S => (fa B ρ S).bind fun x S => (fb B ρ S).bind fun y S => match cmpF B S op x y with
    | some true => (fc B ρ S).bind fun z S => Out.of ((cmpF B S op' y z).map .bl) S
    | some false => .ok (.bl false) S
    | none => .fail
theorem chain_read {op op' : COp} {σ : L2.St} {H : Hp} {Q : VK} (h : tE L E (chainF op op' fa fb fc) σ H Q) :
    tChain (r2 L E fun B S x y => Out.of ((cmpF B S op x y).map .bl) S) (r2 L E fun B S x y => Out.of ((cmpF B S op' x y).map .bl) S) (tE L E fa) (tE L E fb) (tE L E fc) σ H Q := by
  obtain ⟨μ, B, ρ, S, rs, rl, o⟩ := h
  have o : OutOk L E μ H B ((fa B ρ S).bind fun x S => (fb B ρ S).bind fun y S => match cmpF B S op x y with
    | some true => (fc B ρ S).bind fun z S => Out.of ((cmpF B S op' y z).map .bl) S
    | some false => .ok (.bl false) S
    | none => .fail) (fun r _ μ' H' => ∀ v, RelP L μ' H' r v → Q v H') := o
  refine ⟨μ, B, ρ, S, rs, rl, o.bind.imp fun x S1 μ1 H1 e1 rs1 o1 v hv => ⟨μ1, B, ρ, S1, rs1, rl.mono e1, o1.bind.imp fun y S2 μ2 H2 e2 rs2 o2 w hw => ?_⟩⟩
  refine ⟨μ2, B, S2, x, y, rs2, RelP.mono e2 _ _ hv, hw, ?_⟩
  cases ec : cmpF B S2 op x y with
  | none => rw [ec] at o2; exact False.elim o2
  | some k =>
    rw [ec] at o2
    show OutOk L E μ2 H2 B (Out.of ((cmpF B S2 op x y).map PV.bl) S2) _
    rw [ec]
    intro μ3 H3 e3 rs3 r hr
    have hr : r = .bl k := hr
    refine ⟨k, hr, ?_⟩
    cases k with
    | false =>
      rw [if_neg Bool.false_ne_true]
      exact (OutOk.shift e3 (show OutOk L E μ2 H2 B (.ok (.bl false) S2) (fun r _ μ' H' => ∀ v, RelP L μ' H' r v → Q v H') from o2)).now rs3 (.bl false) rfl
    | true =>
      rw [if_pos rfl]
      have o3 : OutOk L E μ3 H3 B ((fc B ρ S2).bind fun z S => Out.of ((cmpF B S op' y z).map .bl) S) (fun r _ μ' H' => ∀ v, RelP L μ' H' r v → Q v H') := OutOk.shift e3 o2
      exact ⟨μ3, B, ρ, S2, rs3, ((rl.mono e1).mono e2).mono e3, o3.bind.imp fun z S4 μ4 H4 e4 rs4 o4 u hu => ⟨μ4, B, S4, y, z, rs4, RelP.mono e4 _ _ (RelP.mono e3 _ _ hw), hu, o4⟩⟩
/-! ### module constants -/
theorem e_globI {x : Str} {i : Int} {t : Tok} (hg : Gl X x) (hm : X.mg x = some (.int i t)) (hd : (x == ("__debug__" : Str)) = false) : PE X (.Name x pos) (tE L E fun _ _ S => .ok (.int i) S) := tC_of (fun _ _ _ => rfl) (fun _ _ => rfl) (pe_glob (v := .int i) hg hm ⟨t, rfl⟩ hd)
theorem e_globS {x z : Str} {t : Tok} (hg : Gl X x) (hm : X.mg x = some (.str z t)) (hd : (x == ("__debug__" : Str)) = false) : PE X (.Name x pos) (tE L E fun _ _ S => .ok (.str z) S) := tC_of (fun _ _ _ => rfl) (fun _ _ => rfl) (pe_glob (v := .str z) hg hm ⟨t, rfl⟩ hd)
end
end RV
end
section
/-! RVDisp: dict displays with entries. -/
namespace RV
open PySem PySem.Spec PyProof.Rows L2
section
variable {X : Cx} {L : Pl} {E : XK} {pos : Pos}
/-- what was built hidden becomes an object of the store -/
theorem new_adopt {μ1 μ' : Mu} {H1 H' : Hp} {B S S' : Sto} {so : SO} {Q : VK} {D : Addr} (o : OutOk L E μ1 H1 B (newS B S' so) (fun r _ μ' H' => ∀ v, RelP L μ' H' r v → Q v H')) (rs1 : RelS L μ1 H1 (B ++ S)) (e : Ext μ1 H1 μ' H') (rs : RelS L μ' H' (B ++ S'))
    (hD : μ'.hd D) (hn : H1 D = none) (hr : RelO L μ' H' so D) : Q (.ref D) H' := by
  have hnd : ¬ μ1.hd D := fun z => (rs1.hid D z).1 hn
  have o : ∀ μ H, Ext μ1 H1 μ H → RelS L μ H (B ++ (S' ++ [so])) → ∀ v, RelP L μ H (.obj (B.length + S'.length)) v → Q v H := o
  refine o (μ'.adopt μ1 (B ++ S').length D) H' (e.adopt rs hn) ?_ (.ref D) ⟨D, rfl, ?_⟩
  · rw [← List.append_assoc]
    exact rs.adopt e.hd1 hD hnd hr
  · show (if B.length + S'.length = (B ++ S').length then some D else μ' (B.length + S'.length)) = some D
    rw [if_pos (by rw [List.length_append])]
/-- {k: v}, k a tuple -/
theorem e_dct1 {k v : Expr} {fk fv : FE} (hP : X.prog = L.P) (hw : X.w = L.w) (hK : X.K = L.K) (hu : X.A.units + 65 < cLine) (hk : PE X k (tE L E fk)) (hv : PE X v (tE L E fv)) :
    PE X (.Dict [some k] [v] pos) (tE L E fun B ρ S => (fk B ρ S).bind fun kk S => (fv B ρ S).bind fun vv S => match RV.putK true kk vv [] with
      | some kvs => newS B S (.dct kvs)
      | none => .fail) := by
  refine ⟨fun pins s σ H Q I h => ?_⟩
  obtain ⟨μ, B, ρ, S, rs, rl, o⟩ := h
  have hn : H s.heap.objs.size = none := I.hok.fresh (Nat.le_refl _)
  have hb := I.big
  have hs : (s.heap.objs.size == sysModules) = false := by
    apply beq_eq_false_iff_ne.mpr
    exact Nat.ne_of_gt hb
  rw [arm_eval_Dict, zip_pairTrees [some k] [v] X.env pos rfl rfl, dictDisplay_pairs _ (by simp [pairTrees]) (by simp [pairTrees])]
  have I1 : L2.Inv X pins σ (upd H s.heap.objs.size (DctX L s.heap.objs.size [])) { s with heap := s.heap.push { cls := .type "dict", data := .dict #[] } } :=
    I.laid (a := s.heap.objs.size) (o := DctX L s.heap.objs.size []) (t' := s.toks) (fun _ _ q => Heap.get?_push_of_some _ q) (Nat.le_refl _) (by
      have hg : (s.heap.push { cls := .type "dict", data := .dict #[] }).get? s.heap.objs.size = some { cls := .type "dict", data := .dict #[] } := Heap.get?_push_size _ rfl
      obtain ⟨o1, es, ep, h1, h2, h3, h4, _⟩ := Heap.DictOfH.new (knd := nestedKind L.P L.w) s.heap
      exact ⟨⟨o1, es, ep, h1, h2, h3, h4⟩, ⟨_, hg⟩, fun h1 h2 ⟨o, es, ep, a1, a2, a3, a4⟩ st => ⟨o, es, ep, st _ a1, a2, a3, a4⟩⟩)
  have eh := Ext.hide (o := DctX L s.heap.objs.size []) rs hn
  have rsh := rs.hide (o := DctX L s.heap.objs.size []) hn
  rw [hP, hw]
  refine wpAny_bind (wpAny_standAt (wpAny_bind (wpAny_subDictH (knd := nestedKind L.P L.w) (Q := fun d s' => wpAny (model L.P L.w) X.A (pure (Value.ref d)) (EP X pins σ Q) X.xe s') (by show X.A.units + 8 < cLine; omega) (by simp [pairTrees]) ?_)))
  rw [← hP, ← hw]
  refine pairTrees_cons_walk (thn (hk.run pins _ σ _ (fun x H1 => tE L E fv σ H1 fun y H2 => ∀ s2 u1 u2, L2.Inv X pins σ H2 s2 → RelV x u1 → RelV y u2 → ∃ ps, CarriesH (nestedKind L.P L.w) s2.heap [(u1, u2)] ps ∧ s2.heap.DictOfH (nestedKind L.P L.w) s.heap.objs.size [] ∧
      ∀ h' tk, h'.DictOfH (nestedKind L.P L.w) s.heap.objs.size (storedAllH [] ps) → Heap.SameBut s.heap.objs.size s2.heap h' → EP X pins σ Q (.ref s.heap.objs.size) { s2 with heap := h', toks := tk }) I1 ?_) fun u1 s1 ⟨x, H1, I2, rx, q1⟩ => thn (hv.run pins s1 σ H1 _ I2 q1) fun u2 s2 ⟨y, H2, I3, ry, q2⟩ => pairTrees_nil_walk ?_)
  · refine ⟨μ.hide s.heap.objs.size, B, ρ, S, rsh, rl.mono eh, (OutOk.shift eh (OutOk.bind0 o)).imp fun kk S1 μ1 H1 e1 rs1 o1 x hx => ⟨μ1, B, ρ, S1, rs1, (rl.mono eh).mono e1, (OutOk.shift (eh.trans e1) (OutOk.bind0 o1)).imp fun vv S2 μ2 H2 e2 rs2 o2 y hy => ?_⟩⟩
    intro s2 u1 u2 I2 r1 r2
    cases ep : RV.putK true kk vv [] with
    | none => rw [ep] at o2; exact False.elim o2
    | some kvs =>
      rw [ep] at o2
      obtain ⟨hkk, _, ekv⟩ := putK_some ep
      obtain ⟨zs, ek, _⟩ := keyT hkk
      have hx2 := RelP.mono e2 _ _ hx
      have hxb : ∃ b, x = .ref b := by
        rw [ek] at hx
        obtain ⟨b, ws, eb, _⟩ := hx
        exact ⟨b, eb⟩
      obtain ⟨b, eb⟩ := hxb
      rw [eb] at r1 hx2
      have r1 : u1 = Value.ref b := r1
      have hd0 : (μ.hide s.heap.objs.size).hd s.heap.objs.size := .inl rfl
      have hd2 := e2.hd1 _ (e1.hd1 _ hd0)
      have hD2 : H2 s.heap.objs.size = some (DctX L s.heap.objs.size []) := e2.keep _ _ (e1.keep _ _ upd_same (rsh.hid _ hd0).2) (rs1.hid _ (e1.hd1 _ hd0)).2
      have dd := dct_at (kvs := []) (μ := μ2) I2 hK hD2 List.nodup_nil rfl
      refine ⟨[(nk kk, b, u2)], ⟨r1, rfl, key_at I2 hK hkk hx2, trivial⟩, dd, fun h' tk hd' sb => ?_⟩
      have loose : Loose H2 s.heap.objs.size := ⟨fun ys z => (by rw [hD2] at z; cases z), fun b u z => (by rw [hD2] at z; cases z)⟩
      have rs3 := rs2.over (o := DctX L s.heap.objs.size [(nk kk, b, u2)]) hd2 loose
      have e3 := ((eh.trans e1).trans e2).over (a := s.heap.objs.size) (o := DctX L s.heap.objs.size [(nk kk, b, u2)]) hn
      refine ⟨.ref s.heap.objs.size, upd H2 s.heap.objs.size (DctX L s.heap.objs.size [(nk kk, b, u2)]), I2.write (e := s.heap.objs.size) (t' := tk) (by rw [hD2]; trivial) (.inl rfl) (fun c o hc ho => (sb.2 c hc).trans ho) ?_ ?_, rfl, ?_⟩
      · obtain ⟨o1, es1, ep1, g1, _⟩ := hd'
        exact ⟨o1, g1⟩
      · obtain ⟨o1, es1, ep1, g1, g2, g3, g4, _⟩ := hd'
        exact ⟨⟨o1, es1, ep1, g1, g2, g3, g4⟩, ⟨o1, g1⟩, fun h1 h2 ⟨o, es, ep, a1, a2, a3, a4⟩ st => ⟨o, es, ep, st _ a1, a2, a3, a4⟩⟩
      · refine new_adopt (so := .dct kvs) o2 rs e3 rs3 hd2 hn ⟨[(nk kk, b, u2)], upd_same, by simp, hs, ?_⟩
        rw [ekv]
        exact ⟨b, y, u2, [], rfl, hkk, RelP.over hd2 loose _ _ hx2, RelP.over hd2 loose _ _ hy, r2, rfl⟩
  · obtain ⟨ps, c1, c2, c3⟩ := q2 s2 u1 u2 I3 rx ry
    refine ⟨ps, by rw [hP, hw]; exact c1, by rw [hP, hw]; exact c2, fun h' tk a b => wpAny_pure (c3 h' tk ?_ b)⟩
    rw [hP, hw] at a
    exact a
/-! ### keys that are numbers or texts -/
def denDF : List (FE × FE) → List (PV × PV) → Sto → Loc → Sto → Out (List (PV × PV))
  | [], acc, _, _, S => .ok acc S
  | (fk, fv) :: r, acc, B, ρ, S => (fk B ρ S).bind fun kk S => (fv B ρ S).bind fun vv S => match RV.putK false kk vv acc with
    | some acc' => denDF r acc' B ρ S
    | none => .fail
def putAll : List (PV × PV) → List (PV × PV) → List (PV × PV)
  | acc, [] => acc
  | acc, (k, v) :: r => putAll (putV k v acc) r
def RelKV (L : Pl) (μ : Mu) (H : Hp) : List (PV × PV) → List (V × V) → Prop
  | [], ps => ps = []
  | (k, v) :: qs, ps => ∃ y r, ps = (kV (lk k), y) :: r ∧ keyOk false k = true ∧ RelP L μ H v y ∧ RelKV L μ H qs r
theorem RelKV.mono {μ μ' : Mu} {H H' : Hp} (e : Ext μ H μ' H') : ∀ (qs : List (PV × PV)) (ps : List (V × V)), RelKV L μ H qs ps → RelKV L μ' H' qs ps
  | [], _, h => h
  | (k, v) :: qs, _, h => by
    obtain ⟨y, r, e1, hk, h1, h2⟩ := h
    exact ⟨y, r, e1, hk, RelP.mono e v y h1, RelKV.mono e qs r h2⟩
/-- the pairs, then their storing -/
theorem pairs_read {μ1 : Mu} {H1 : Hp} {B : Sto} {ρ : Loc} {σ : L2.St} {fin : List (PV × PV) → Sto → Prop} : ∀ (fs : List (FE × FE)) (acc : List (PV × PV)) (μ' : Mu) (H' : Hp) (S' : Sto) (QQ : List (V × V) → Hp → Prop), Ext μ1 H1 μ' H' → RelS L μ' H' (B ++ S') → RelR L μ' H' ρ σ →
    OutOk L E μ1 H1 B (denDF fs acc B ρ S') (fun acc' S _ _ => fin acc' S) →
    (∀ μ2 H2 S2 qs ps, Ext μ1 H1 μ2 H2 → Ext μ' H' μ2 H2 → RelS L μ2 H2 (B ++ S2) → RelKV L μ2 H2 qs ps → qs.length = fs.length → fin (putAll acc qs) S2 → QQ ps H2) → tPairs (fs.map fun f => (tE L E f.1, tE L E f.2)) σ H' QQ
  | [], acc, μ', H', S', QQ, e, rs, rl, o, k => k μ' H' S' [] [] e (Ext.refl _ _) rs rfl rfl (o μ' H' e rs)
  | (fk, fv) :: fs, acc, μ', H', S', QQ, e, rs, rl, o, k => by
    have o : OutOk L E μ1 H1 B ((fk B ρ S').bind fun kk S => (fv B ρ S).bind fun vv S => match RV.putK false kk vv acc with
      | some acc' => denDF fs acc' B ρ S
      | none => .fail) (fun acc' S _ _ => fin acc' S) := o
    refine ⟨μ', B, ρ, S', rs, rl, (OutOk.shift e (OutOk.bind0 o)).imp fun kk S2 μ2 H2 e2 rs2 o2 x hx => ⟨μ2, B, ρ, S2, rs2, rl.mono e2, (OutOk.shift (e.trans e2) (OutOk.bind0 o2)).imp fun vv S3 μ3 H3 e3 rs3 o3 y hy => ?_⟩⟩
    cases ep : RV.putK false kk vv acc with
    | none => rw [ep] at o3; exact False.elim o3
    | some acc' =>
      rw [ep] at o3
      obtain ⟨hkk, _, ekv⟩ := putK_some ep
      refine pairs_read fs acc' μ3 H3 S3 _ ((e.trans e2).trans e3) rs3 ((rl.mono e2).mono e3) o3 fun μ4 H4 S4 qs ps e4 e4' rs4 hr hl hf => ?_
      refine k μ4 H4 S4 ((kk, vv) :: qs) ((x, y) :: ps) e4 ((e2.trans e3).trans e4') rs4 ⟨y, ps, ?_, hkk, RelP.mono e4' _ _ hy, hr⟩ (by rw [List.length_cons, List.length_cons, hl]) (by
        show fin (putAll (putV kk vv acc) qs) S4
        rw [← ekv]; exact hf)
      rw [leaf_kV hkk hx]
theorem kv_split {μ : Mu} {H : Hp} : ∀ {qs : List (PV × PV)} {ps : List (V × V)}, RelKV L μ H qs ps → ∃ kvs : List (Key × V), ps = kvs.map (fun kv => (kV kv.1, kv.2)) ∧ kvs.length = qs.length ∧
    ∀ (acc : List (PV × PV)) (gs : List (Key × V)), RelK L μ H acc gs → (gs.map (·.1)).Nodup → RelK L μ H (putAll acc qs) (mergeK gs kvs) ∧ ((mergeK gs kvs).map (·.1)).Nodup
  | [], ps, h => by
    have h : ps = [] := h
    exact ⟨[], h, rfl, fun acc gs h1 h2 => ⟨h1, h2⟩⟩
  | (k, v) :: qs, ps, h => by
    obtain ⟨y, r, e, hk, h1, h2⟩ := h
    obtain ⟨kvs, e2, l2, f⟩ := kv_split h2
    refine ⟨(lk k, y) :: kvs, by rw [e, e2]; rfl, by rw [List.length_cons, List.length_cons, l2], fun acc gs g1 g2 => ?_⟩
    obtain ⟨p1, p2, _⟩ := RelK.put hk h1 g1 g2
    exact f (putV k v acc) (L2.putK gs (lk k) y) p1 p2
theorem RelK.overO {μ : Mu} {H : Hp} {a : Addr} {o : HO} (hd : μ.hd a) (hl : Loose H a) {kvs : List (PV × PV)} {gs : List (Key × V)} (h : RelK L μ H kvs gs) : RelK L μ (upd H a o) kvs gs := RelK.over hd hl kvs gs h
/-- {k: v, ..}, the keys numbers or texts -/
theorem e_dctL {keys : List (Option Expr)} {values : List Expr} {fs : List (FE × FE)} (hp : PPs X pos keys values (fs.map fun f => (tE L E f.1, tE L E f.2))) (hall : keys.all (·.isSome) = true) (hl : keys.length = values.length) (h0 : keys ≠ []) (h15 : keys.length ≤ 15) (hf : fs.length ≤ 15) :
    PE X (.Dict keys values pos) (tE L E fun B ρ S => (denDF fs [] B ρ S).bind fun kvs S => newS B S (.dlf kvs)) := PEw (pe_disp hp hall hl h0 h15) fun σ H Q h => by
  obtain ⟨μ, B, ρ, S, rs, rl, o⟩ := h
  intro p hn
  have eh := Ext.hide (o := .dK []) rs hn
  have rsh := rs.hide (o := .dK []) hn
  refine pairs_read fs [] (μ.hide p) _ S _ eh rsh (rl.mono eh) (OutOk.bind0 o) fun μ2 H2 S2 qs ps e2 e2' rs2 hr hlen o2 => ?_
  have hd0 : (μ.hide p).hd p := .inl rfl
  have hd2 := e2'.hd1 _ hd0
  have hD2 : H2 p = some (.dK []) := e2'.keep _ _ upd_same (rsh.hid _ hd0).2
  obtain ⟨kvs, e3, l3, f⟩ := kv_split hr
  obtain ⟨g1, g2⟩ := f [] [] rfl List.nodup_nil
  refine ⟨hD2, kvs, e3, by rw [l3, hlen]; exact hf, ?_⟩
  have loose : Loose H2 p := ⟨fun ys z => (by rw [hD2] at z; cases z), fun b u z => (by rw [hD2] at z; cases z)⟩
  exact new_adopt (so := .dlf (putAll [] qs)) o2 rs (e2.over (a := p) (o := .dK (mergeK [] kvs)) hn) (rs2.over hd2 loose) hd2 hn ⟨_, upd_same, g2, g1.overO hd2 loose⟩
end
end RV
end
section
/-! RVDc: dict comprehensions, the keys numbers or texts. -/
namespace RV
open PySem PySem.Spec PyProof.Rows L2
section
variable {X : Cx} {L : Pl} {E : XK}
def turnD (t : IE) (vs : List Nat) (fk fv : FE) (B : Sto) (ρ : Loc) (x : PV) (acc : List (PV × PV)) (S : Sto) : Out (List (PV × PV)) := match tgt t x (wipeL ρ vs) with
  | some ρ' => (fk B ρ' S).bindF fun kk S => (fv B ρ' S).bindF fun vv S => Out.of (RV.putK false kk vv acc) S
  | none => .fail
def dcF (t : IE) (vs : List Nat) (fi fk fv : FE) : FE := fun B ρ S => (fi B ρ S).bind fun src S => (loop B never (turnD t vs fk fv B ρ) src [] S).bindF fun kvs S => newS B S (mkD false kvs)
theorem dc_read {t : IE} {vs : List Nat} {fi fk fv : FE} (htv : ∀ i ∈ tv t, i ∈ vs) (σ : L2.St) (H : Hp) (Q : VK) (h : tE L E (dcF t vs fi fk fv) σ H Q) : tDc (tI L E fi) (gT L t) tYes (tE L E0 fk) (tE L E0 fv) vs σ H Q := by
  obtain ⟨μ, B, ρ, S, rs, rl, o⟩ := h
  refine ⟨μ, B, ρ, S, rs, rl, OutOk.imp (OutOk.bind (show OutOk L E μ H B ((fi B ρ S).bind fun src S => (loop B never (turnD t vs fk fv B ρ) src [] S).bindF fun kvs S => newS B S (.dlf kvs)) _ from o)) fun src S1 μ1 H1 e1 rs1 o1 => ?_⟩
  have o1 := OutOk.bindF0 o1
  rw [loop_G] at o1
  cases hq : seqOf B S1 src with
  | none => rw [hq] at o1; exact False.elim o1
  | some xs =>
    rw [hq] at o1
    have o1 : OutOk L E0 μ1 H1 B (loopG (fun i S => itemAt B S src i) never (turnD t vs fk fv B ρ) (xs.length + 1) 0 [] S1) (fun kvs S _ _ => OutOk L E μ1 H1 B (newS B S (.dlf kvs)) (fun r _ μ' H' => ∀ v, RelP L μ' H' r v → Q v H')) := o1
    refine ⟨⟨xs, rfl⟩, fun J hJ D hD => ⟨fun i m' H' => ∃ (μ' : Mu) (S' : Sto) (acc : List (PV × PV)) (gs : List (Key × V)), Past B src i ∧ Ext μ1 H1 μ' H' ∧ RelS L μ' H' (B ++ S') ∧ μ'.hd D ∧ H' D = some (.dK gs) ∧ RelK L μ' H' acc gs ∧ (gs.map (·.1)).Nodup ∧
      OutOk L E0 μ1 H1 B (loopG (fun i S => itemAt B S src i) never (turnD t vs fk fv B ρ) m' i acc S') (fun kvs S _ _ => OutOk L E μ1 H1 B (newS B S (.dlf kvs)) (fun r _ μ' H' => ∀ v, RelP L μ' H' r v → Q v H')),
      ⟨_, μ1.hide D, S1, [], [], Past.zero, Ext.hide rs1 hD, rs1.hide hD, .inl rfl, upd_same, rfl, List.nodup_nil, o1⟩, ?_⟩⟩
    rintro i m' H2 ⟨μ2, S2, acc, gs, past, e2, rs2, hd2, hl2, hr2, nd2, o2⟩
    cases m' with
    | zero => exact False.elim o2
    | succ m' =>
      have o2 : OutOk L E0 μ1 H1 B (stepG never (turnD t vs fk fv B ρ) acc S2 (loopG (fun i S => itemAt B S src i) never (turnD t vs fk fv B ρ) m' (i + 1)) (itemAt B S2 src i)) (fun kvs S _ _ => OutOk L E μ1 H1 B (newS B S (.dlf kvs)) (fun r _ μ' H' => ∀ v, RelP L μ' H' r v → Q v H')) := o2
      cases hit : itemAt B S2 src i with
      | none => rw [hit] at o2; exact False.elim o2
      | some w =>
        rw [hit] at o2
        cases w with
        | none =>
          have o3 : ∀ μ' H', Ext μ1 H1 μ' H' → RelS L μ' H' (B ++ S2) → OutOk L E μ1 H1 B (newS B S2 (.dlf acc)) (fun r _ μ' H' => ∀ v, RelP L μ' H' r v → Q v H') := o2
          exact .inl ⟨hJ.stop μ2 H2 S2 i e2.ex0 rs2 past hit, new_adopt (so := .dlf acc) (o3 μ2 H2 e2 rs2) rs1 e2 rs2 hd2 hD ⟨gs, hl2, nd2, hr2⟩⟩
        | some p =>
          obtain ⟨hgo, hy⟩ := hJ.go μ2 H2 S2 i p e2.ex0 rs2 hit
          refine .inr ⟨hgo, fun H' => ∃ (μ' : Mu) (S' : Sto) (acc : List (PV × PV)) (gs : List (Key × V)), Past B src (i + 1) ∧ Ext μ1 H1 μ' H' ∧ RelS L μ' H' (B ++ S') ∧ μ'.hd D ∧ H' D = some (.dK gs) ∧ RelK L μ' H' acc gs ∧ (gs.map (·.1)).Nodup ∧
            OutOk L E0 μ1 H1 B (loopG (fun i S => itemAt B S src i) never (turnD t vs fk fv B ρ) m' (i + 1) acc S') (fun kvs S _ _ => OutOk L E μ1 H1 B (newS B S (.dlf kvs)) (fun r _ μ' H' => ∀ v, RelP L μ' H' r v → Q v H')), fun H' hN => ⟨m', Nat.lt_succ_self _, hN⟩, fun x H3 hyl => ?_⟩
          obtain ⟨e3, rs3, hx⟩ := hy x H3 hyl
          have o3 := OutOk.afterT (show OutOk L E0 μ1 H1 B (RV.afterT never (loopG (fun i S => itemAt B S src i) never (turnD t vs fk fv B ρ) m' (i + 1)) (turnD t vs fk fv B ρ p acc S2)) _ from o2)
          have hl3 : H3 D = some (.dK gs) := e3.keep _ _ hl2 (rs2.hid D hd2).2
          have hr3 := RelK.mono e3 _ _ hr2
          have e23 := e2.trans e3
          have rlw := ((rl.mono e1).mono e23).wipe vs
          cases ht : tgt t p (wipeL ρ vs) with
          | none =>
            have : turnD t vs fk fv B ρ p acc S2 = .fail := by
              unfold turnD
              rw [ht]
            rw [this] at o3
            exact False.elim o3
          | some ρ3 =>
            have : turnD t vs fk fv B ρ p acc S2 = (fk B ρ3 S2).bindF fun kk S => (fv B ρ3 S).bindF fun vv S => Out.of (RV.putK false kk vv acc) S := by
              unfold turnD
              rw [ht]
            rw [this] at o3
            refine ⟨μ2, wipeL ρ vs, p, ρ3, rlw, hx, ht, fun σ3 rl3 k3 => ⟨?_, ?_⟩⟩
            · refine wipe_same (ts := tv t) ?_ (fun j hj => k3 j hj) htv
              rw [← rl3.len, ← rl.len, ← wipeL_length ρ vs]
              exact tgt_len ht
            · refine tYes_if ?_
              refine ⟨μ2, B, ρ3, S2, rs3, rl3, (OutOk.shift e23 (OutOk.bindF0 o3)).imp fun kk S4 μ4 H4 e4 rs4 o4 y hy => ⟨μ4, B, ρ3, S4, rs4, rl3.mono e4, (OutOk.shift (e23.trans e4) (OutOk.bindF0 o4)).imp fun vv S5 μ5 H5 e5 rs5 o5 z hz => ?_⟩⟩
              have hd4 := e4.hd1 D hd2
              have hd5 := e5.hd1 D hd4
              have hl4 : H4 D = some (.dK gs) := e4.keep _ _ hl3 (rs3.hid D hd2).2
              have hl5 : H5 D = some (.dK gs) := e5.keep _ _ hl4 (rs4.hid D hd4).2
              have hr5 := RelK.mono e5 _ _ (RelK.mono e4 _ _ hr3)
              have e25 := (e23.trans e4).trans e5
              obtain ⟨acc', ea, o6⟩ := OutOk.of' o5
              obtain ⟨hkk, hle, ekv⟩ := putK_some ea
              have loose : Loose H5 D := ⟨fun ys z => (by rw [hl5] at z; cases z), fun b u z => (by rw [hl5] at z; cases z)⟩
              have hlt : gs.length < sizeLine := by rw [← hr5.length]; exact Nat.lt_of_le_of_lt hle (by decide)
              have o7 : ∀ μ' H', Ext μ1 H1 μ' H' → RelS L μ' H' (B ++ S5) → OutOk L E0 μ1 H1 B (loopG (fun i S => itemAt B S src i) never (turnD t vs fk fv B ρ) m' (i + 1) acc' S5) _ := o6
              have rs6 := rs5.over (o := .dK (L2.putK gs (lk kk) z)) hd5 loose
              have e26 := e25.over (a := D) (o := .dK (L2.putK gs (lk kk) z)) hD
              obtain ⟨p1, p2, _⟩ := RelK.put hkk hz hr5 nd2
              refine ⟨gs, lk kk, leaf_kV hkk hy, hl5, hlt, μ5, S5, acc', L2.putK gs (lk kk) z, past.succ hit, e26, rs6, hd5, upd_same, ?_, p2, o7 μ5 _ e26 rs6⟩
              rw [ekv]
              exact p1.overO hd5 loose
variable {kx vx tg iter : Expr} {scope : Scope} {own : List (Str × Nat)} {pos spos : Pos} {t : IE} {fi fk fv : FE}
/-- the block's parts hold in every block -/
abbrev Blk (X : Cx) (scope : Scope) (G : Cx → Prop) : Prop := ∀ (s : Shared) (H : Hp) (C : Addr) (cl : List (Str × Addr)) (fp : List Addr), G (X.blk s H scope (compEnvC scope cl C X.env) fp)
/-- name = {k: v for ..} on one line, the name a local -/
theorem ps_setDc {i : Nat} {y : Str} {py : Pos} {ifs : List Expr} {wi : TI} {g : TG} {tt : TT} {tk tv : TE} (hc : X.calm = true) (hN : X.N.Nodup) (hy : X.N[i]? = some y) (hyl : X.env.scope.names.lookup y = some .local)
    (hsw : swapsWith (.DictComp kx vx [⟨tg, iter, ifs, 0⟩] scope pos) (some (.Name y py)) spos.line X.env = pure true) (hi : PI X tg iter wi) (ok : BlkOk X.N X.env.scope scope own)
    (hg : Blk X scope fun Y => PG Y tg g) (ht : Blk X scope fun Y => PTs Y ifs tt) (hk : Blk X scope fun Y => PE Y kx tk) (he : Blk X scope fun Y => PE Y vx tv) (hs : ∀ x, foldedSetIterable iter X.env x = pure x) :
    PS X (.Assign [.Name y py] (.DictComp kx vx [⟨tg, iter, ifs, 0⟩] scope pos) spos) (tAsg (tDc wi g tt tk tv (own.map (·.2))) (gName i)) where
  run := fun pins s σ H D I h => by
    have h : tDc wi g tt tk tv (own.map (·.2)) σ H (fun x H1 => gName i x σ H1 D.nx) := h
    refine have core := dc_core (pos := pos) (pos' := firstIterPos [⟨tg, iter, ifs, 0⟩] pos) (Qf := fun _ t => SP X pins D .next t) (use := assign (.Name y py) X.env) hc hN I hi ok hg ht hk he hs h ?_; ?_
    · intro L C t m G J q hn ⟨f0, f1, _, f3, f4, f5⟩
      refine wpAny_assign_Name (store_ok2 (v := V.ref L) J hN hy (.inl hyl) rfl (fun t2 J2 z => ?_) (.inr hyl))
      obtain ⟨a, sb, ha⟩ := z
      have off : C ≠ a := ha.elim (fun e => e ▸ f1) fun e e' => f4 y a e e'.symm
      exact ⟨m, hn.sameBut sb off, fun _ sb3 => ⟨_, G, J2.turned (t' := t2.toks) (fun b _ nb e => (sb3.2 b nb).trans e) f0 f1 f3 f4 f5, q⟩⟩
    · rw [exec_Assign_Name_used _ _ _ _ hsw]
      exact wpAny_bind (wpAny_standAt (wpAny_bind (show wpAny _ X.A (do let _ ← comprehension (.DictComp kx vx [⟨tg, iter, ifs, 0⟩] scope pos) scope X.env (firstIterPos [⟨tg, iter, ifs, 0⟩] pos) newDict false (eval iter X.env) (some (assign (.Name y py) X.env))) _ _ s from wpAny_bind (thn core fun _ _ z => wpAny_pure (wpAny_pure z)))))
theorem sw_trueD {ks vs : Expr} {gs : List Comprehension} {scope : Scope} {pos py : Pos} {y : Str} {l : Nat} {env : Env} (hk : env.scope.kind = .function) (hy : env.scope.names.lookup y = some .local) (hl : (py.line == pos.line) = true)
    (ha : (scope.names.any fun (n, k) => n == y && (k == .local || k == .cell)) = false) : swapsWith (.DictComp ks vs gs scope pos) (some (.Name y py)) l env = pure true := by
  have ky : env.kindOf y = some .local := hy
  have hb : env.blockKind = .function := block_fn hk
  unfold swapsWith
  simp only [hb, ky, ha, Expr.pos, hl]
  rfl
theorem e_dc (hc : X.calm = true) (hN : X.N.Nodup) (hi : PI X tg iter (tI L E fi)) (ok : BlkOk X.N X.env.scope scope own) (htv : ∀ i ∈ tv t, i ∈ own.map (·.2))
    (hg : ∀ (s : Shared) (H : Hp) (C : Addr) (cl : List (Str × Addr)) (fp : List Addr), PG (X.blk s H scope (compEnvC scope cl C X.env) fp) tg (gT L t))
    (hk : ∀ (s : Shared) (H : Hp) (C : Addr) (cl : List (Str × Addr)) (fp : List Addr), PE (X.blk s H scope (compEnvC scope cl C X.env) fp) kx (tE L E0 fk))
    (he : ∀ (s : Shared) (H : Hp) (C : Addr) (cl : List (Str × Addr)) (fp : List Addr), PE (X.blk s H scope (compEnvC scope cl C X.env) fp) vx (tE L E0 fv)) (hs : ∀ x, foldedSetIterable iter X.env x = pure x) :
    PE X (.DictComp kx vx [⟨tg, iter, [], 0⟩] scope pos) (tE L E (dcF t (own.map (·.2)) fi fk fv)) := PEw (pe_dc hc hN hi ok hg (fun _ _ _ _ _ => pts_nil) hk he hs) fun σ H Q h => dc_read htv σ H Q h
theorem s_setDc {i : Nat} {y : Str} {py : Pos} (hc : X.calm = true) (hN : X.N.Nodup) (hy : X.N[i]? = some y) (hyl : X.env.scope.names.lookup y = some .local)
    (hsw : swapsWith (.DictComp kx vx [⟨tg, iter, [], 0⟩] scope pos) (some (.Name y py)) spos.line X.env = pure true) (hi : PI X tg iter (tI L E fi)) (ok : BlkOk X.N X.env.scope scope own) (htv : ∀ i ∈ tv t, i ∈ own.map (·.2))
    (hg : ∀ (s : Shared) (H : Hp) (C : Addr) (cl : List (Str × Addr)) (fp : List Addr), PG (X.blk s H scope (compEnvC scope cl C X.env) fp) tg (gT L t))
    (hk : ∀ (s : Shared) (H : Hp) (C : Addr) (cl : List (Str × Addr)) (fp : List Addr), PE (X.blk s H scope (compEnvC scope cl C X.env) fp) kx (tE L E0 fk))
    (he : ∀ (s : Shared) (H : Hp) (C : Addr) (cl : List (Str × Addr)) (fp : List Addr), PE (X.blk s H scope (compEnvC scope cl C X.env) fp) vx (tE L E0 fv)) (hs : ∀ x, foldedSetIterable iter X.env x = pure x) :
    PS X (.Assign [.Name y py] (.DictComp kx vx [⟨tg, iter, [], 0⟩] scope pos) spos) (tS L E fun B ρ S => (dcF t (own.map (·.2)) fi fk fv B ρ S).bind fun v S => (Out.of (tgt (.var i) v ρ) S).bind fun ρ' S => .ok (ρ', .nx) S) :=
  PSw (ps_setDc hc hN hy hyl hsw hi ok hg (fun _ _ _ _ _ => pts_nil) hk he hs) fun D σ H h => asg_read (fun σ H Q q => dc_read htv σ H Q q) D σ H h
end
end RV
end
section
/-! RVBif: calls of built-ins and of list methods; three swapped stores. -/
namespace RV
open PySem PySem.Spec PyProof.Rows L2
section
variable {X : Cx} {L : Pl} {E : XK} {pos p apos : Pos} {e : Expr} {es : List Expr} {fs : Sto → Loc → Sto → Out (List PV)} {g : Sto → Sto → List PV → Out PV} {x : Str}
theorem e_bi {id : String} (hc : CallR X (.builtin id) (rL L E g)) (hg : Gl X x) (hm : X.mg x = none) (hv : bootBuiltins x = some (.builtin id)) (hn : x ≠ "__name__") (hdb : (x == ("__debug__" : Str)) = false) (hst : noStar (e :: es) = true) (ha : PA X (e :: es) (tA L E fs)) :
    PE X (.Call (.Name x p) (e :: es) [] pos) (tE L E fun B ρ S => (fs B ρ S).bind fun vs S => g B S vs) := by
  obtain ⟨h1, h2⟩ := star_cons (env := X.env) hst
  exact PEw (pe_callB hc hg hm hv ha hn hdb h1 (star_plain h2)) fun σ H Q h => tE_args h
theorem e_ty {T : String} (hc : CallR X (.type T) (rL L E g)) (hg : Gl X x) (hm : X.mg x = none) (hv : bootBuiltins x = some (.type T)) (hn : x ≠ "__name__") (hdb : (x == ("__debug__" : Str)) = false) (hst : noStar (e :: es) = true) (ha : PA X (e :: es) (tA L E fs)) :
    PE X (.Call (.Name x p) (e :: es) [] pos) (tE L E fun B ρ S => (fs B ρ S).bind fun vs S => g B S vs) := by
  obtain ⟨h1, h2⟩ := star_cons (env := X.env) hst
  exact PEw (pe_callTy hc hg hm hv ha hn hdb h1 (star_plain h2)) fun σ H Q h => tE_args h
/-! methods of lists -/
def mthF (b : BI) (fo : FE) (fs : Sto → Loc → Sto → Out (List PV)) : FE := fun B ρ S => (fo B ρ S).bind fun x S => match recvOk B S b x with
    | true => (fs B ρ S).bind fun vs S => biF B S b (x :: vs)
    | false => .fail
/-- the reading of a list's method, by values -/
def rM (L : Pl) (E : XK) (b : BI) : V → List V → Hp → VK → Prop := fun x xs H Q => ∃ μ B S p ps, RelS L μ H (B ++ S) ∧ RelP L μ H p x ∧ RelL L μ H ps xs ∧ OutOk L E μ H B (biF B S b (p :: ps)) (fun r _ μ' H' => ∀ v, RelP L μ' H' r v → Q v H')
variable {o : Expr} {fo : FE} {b : BI} {m : Str} {id : String}
theorem e_mth (hslot : Slot "list" m id) (hty : typeOf (.builtin id) = pure (.type "method_descriptor")) (hm : MtR X id (rM L E b)) (ho : PE X o (tE L E fo)) (ha : PA X (e :: es) (tA L E fs)) (hb : absOk o = true) (hst : noStar (e :: es) = true) (h30 : Nat.blt (e :: es).length 30 = true) (hline : (apos.endLine == pos.line) = true) :
    PE X (.Call (.Attribute o m apos) (e :: es) [] pos) (tE L E (mthF b fo fs)) := by
  obtain ⟨h1, h2⟩ := star_cons (env := X.env) hst
  have hfew : ((backTo pos (starEach (e :: es) X.env)).all (fun x => !x.1) && (backToKw pos (keywordEach [] X.env)).all (fun x => x.1.isSome)
      && decide ((e :: es).length + ([] : List Keyword).length + (if ([] : List Keyword).isEmpty then 0 else 1) < 30)) = true := by
    rw [star_all hst]
    show (true && true && decide ((e :: es).length + 0 + 0 < 30)) = true
    rw [decide_eq_true (show (e :: es).length + 0 + 0 < 30 from Nat.le_of_ble_eq_true h30)]
    rfl
  refine PEw (pe_bm PySem.F.plainAttrs_list hslot hty hm ho ha (abase_ok hb) hfew hline h1 (star_plain h2)) fun σ H Q h => ?_
  obtain ⟨μ, B, ρ, S, rs, rl, o⟩ := h
  have o : OutOk L E μ H B ((fo B ρ S).bind fun x S => match recvOk B S b x with
    | true => (fs B ρ S).bind fun vs S => biF B S b (x :: vs)
    | false => .fail) (fun r _ μ' H' => ∀ v, RelP L μ' H' r v → Q v H') := o
  refine ⟨μ, B, ρ, S, rs, rl, o.bind.imp fun q S1 μ1 H1 e1 rs1 o1 x hx => ?_⟩
  cases c : recvOk B S1 b q with
  | false => rw [c] at o1; exact False.elim o1
  | true =>
    rw [c] at o1
    exact ⟨recv_lst rs1 hx c, μ1, B, ρ, S1, rs1, rl.mono e1, (OutOk.bind o1).imp fun vs S2 μ2 H2 e2 rs2 o2 xs hxs => ⟨μ2, B, S2, q, vs, rs2, RelP.mono e2 _ _ hx, hxs, o2⟩⟩
theorem e_mth0 (hslot : Slot "list" m id) (hty : typeOf (.builtin id) = pure (.type "method_descriptor")) (hm : MtR X id (rM L E b)) (ho : PE X o (tE L E fo)) (hb : absOk o = true) (hline : (apos.endLine == pos.line) = true) :
    PE X (.Call (.Attribute o m apos) [] [] pos) (tE L E (mthF b fo fun _ _ S => .ok [] S)) := by
  refine PEw (pe_bm0 PySem.F.plainAttrs_list hslot hty hm ho (abase_ok hb) hline) fun σ H Q h => ?_
  obtain ⟨μ, B, ρ, S, rs, rl, o⟩ := h
  have o : OutOk L E μ H B ((fo B ρ S).bind fun x S => match recvOk B S b x with
    | true => (Out.ok [] S).bind fun vs S => biF B S b (x :: vs)
    | false => .fail) (fun r _ μ' H' => ∀ v, RelP L μ' H' r v → Q v H') := o
  refine ⟨μ, B, ρ, S, rs, rl, o.bind.imp fun q S1 μ1 H1 e1 rs1 o1 x hx => ?_⟩
  cases c : recvOk B S1 b q with
  | false => rw [c] at o1; exact False.elim o1
  | true =>
    rw [c] at o1
    exact ⟨recv_lst rs1 hx c, μ1, B, S1, q, [], rs1, hx, rfl, o1⟩
theorem e_append (hK : X.K = L.K) (ho : PE X o (tE L E fo)) (ha : PA X (e :: es) (tA L E fs)) (hb : absOk o = true) (hst : noStar (e :: es) = true) (h30 : Nat.blt (e :: es).length 30 = true) (hline : (apos.endLine == pos.line) = true) :
    PE X (.Call (.Attribute o "append" apos) (e :: es) [] pos) (tE L E (mthF .append fo fs)) := e_mth PySem.F.slot_list_append PySem.F.type_list_append (m_append hK) ho ha hb hst h30 hline
theorem e_extend (hK : X.K = L.K) (ho : PE X o (tE L E fo)) (ha : PA X (e :: es) (tA L E fs)) (hb : absOk o = true) (hst : noStar (e :: es) = true) (h30 : Nat.blt (e :: es).length 30 = true) (hline : (apos.endLine == pos.line) = true) :
    PE X (.Call (.Attribute o "extend" apos) (e :: es) [] pos) (tE L E (mthF .extend fo fs)) := e_mth PySem.F.slot_list_extend PySem.F.type_list_extend (m_extend hK) ho ha hb hst h30 hline
theorem e_pop (hK : X.K = L.K) (ho : PE X o (tE L E fo)) (hb : absOk o = true) (hline : (apos.endLine == pos.line) = true) :
    PE X (.Call (.Attribute o "pop" apos) [] [] pos) (tE L E (mthF .pop fo fun _ _ S => .ok [] S)) := e_mth0 PySem.F.slot_list_pop PySem.F.type_list_pop (m_pop hK) ho hb hline
end
end RV
end
section
/-! RVGet: tuple(range(n)); d.get(k) of a dict with tuple keys. -/
namespace RV
open PySem PySem.Spec PyProof.Rows L2
section
variable {X : Cx} {L : Pl} {E : XK} {a : Expr} {fa fb : FE} {p1 p2 pos apos : Pos}
theorem rg_rel {μ : Mu} {H : Hp} : ∀ (n : Nat) (i : Int), RelL L μ H (rngI n i) ((List.range n).map fun (j : Nat) => V.int (i + j))
  | 0, _ => rfl
  | n + 1, i => by
    rw [List.range_succ_eq_map, List.map_cons, List.map_map]
    refine ⟨_, _, rfl, by show V.int (i + ((0 : Nat) : Int)) = V.int i; simp, ?_⟩
    have e : ((fun (j : Nat) => V.int (i + (j : Int))) ∘ Nat.succ) = fun (j : Nat) => V.int (i + 1 + (j : Int)) := funext fun j => by
      show V.int (i + ((j + 1 : Nat) : Int)) = V.int (i + 1 + (j : Int))
      congr 1
      omega
    rw [e]
    exact rg_rel n (i + 1)
theorem e_trng (hc : X.calm = true) (ht : Gl X "tuple") (mt : X.mg "tuple" = none) (hr : Gl X "range") (mr : X.mg "range" = none) (ha : PE X a (tE L E fa)) (hst : starEach [a] X.env = [(false, eval a X.env)]) :
    PE X (.Call (.Name "tuple" p1) [.Call (.Name "range" p2) [a] [] pos] [] apos) (tE L E fun B ρ S => (fa B ρ S).bind fun x S => trngF x S) := by
  refine PEw (pe_tupRg hc ht mt (prg_1 hr mr ha (by rw [hst]; rfl)) rfl) fun σ H Q h => ?_
  obtain ⟨μ, B, ρ, S, rs, rl, o⟩ := h
  refine ⟨μ, B, ρ, S, rs, rl, (OutOk.bind o).imp fun x S1 μ1 H1 e1 rs1 o1 v hv => ?_⟩
  cases x with
  | int j =>
    have hv : v = .int j := hv
    have o1 : OutOk L E μ1 H1 B (match decide (0 ≤ j) && decide (j ≤ 16777216) with
      | true => .ok (.tup (rngI j.toNat 0)) S1
      | false => .fail) (fun p _ μ' H' => ∀ v, RelP L μ' H' p v → Q v H') := o1
    cases z : decide (0 ≤ j) && decide (j ≤ 16777216) with
    | false => rw [z] at o1; exact False.elim o1
    | true =>
      rw [z] at o1
      rw [Bool.and_eq_true, decide_eq_true_eq, decide_eq_true_eq] at z
      refine ⟨j, hv, RgOk.of_le (by omega) z.2 (by omega) z.1, fun q hq => ?_⟩
      have el := Ext.laid (o := .tup (rgV 0 j)) rs1 hq
      refine OutOk.now (OutOk.shift el o1) (rs1.laid hq) (.ref q) ⟨q, _, rfl, .inl (.inl upd_same), ?_⟩
      have ev : rgV 0 j = (List.range j.toNat).map fun (i : Nat) => V.int (0 + i) := by
        unfold rgV
        rw [Int.sub_zero]
      have := rg_rel (L := L) (μ := μ1) (H := upd H1 q (.tup (rgV 0 j))) j.toNat 0
      rw [← ev] at this
      exact this
  | _ => exact False.elim o1
def dgF (fa fb : FE) : FE := fun B ρ S => (fa B ρ S).bind fun x S => match recvD B S x with
    | true => (fb B ρ S).bind fun y S => Out.of (dgetF B S x y) S
    | false => .fail
theorem dct_of {μ : Mu} {H : Hp} {B S : Sto} {n : Nat} {v : V} (rs : RelS L μ H (B ++ S)) (hv : RelP L μ H (.obj n) v) (h : recvD B S (.obj n) = true) : ∃ a xs, v = .ref a ∧ H a = some (DctX L a xs) := by
  have h : (match getS B S n with
    | some (.dct _) => true
    | _ => false) = true := h
  cases g : getS B S n with
  | none => rw [g] at h; cases h
  | some o =>
    rw [g] at h
    cases o with
    | dct kvs =>
      obtain ⟨a, e1, _, xs, h1, _⟩ := rs.get g hv
      exact ⟨a, xs, e1, h1⟩
    | _ => cases h
theorem e_dget {o k : Expr} (hK : X.K = L.K) (hP : X.prog = L.P) (hw : X.w = L.w) (hu : X.A.units + 65 < cLine) (ho : PE X o (tE L E fa)) (hk : PE X k (tE L E fb)) (hb : absOk o = true) (hst : noStar [k] = true) (hline : (apos.endLine == pos.line) = true) :
    PE X (.Call (.Attribute o "get" apos) [k] [] pos) (tE L E (dgF fa fb)) := by
  obtain ⟨h1, h2⟩ := star_cons (env := X.env) hst
  have hfew : ((backTo pos (starEach [k] X.env)).all (fun x => !x.1) && (backToKw pos (keywordEach [] X.env)).all (fun x => x.1.isSome)
      && decide ([k].length + ([] : List Keyword).length + (if ([] : List Keyword).isEmpty then 0 else 1) < 30)) = true := by
    rw [star_all hst]
    rfl
  refine ⟨fun pins s σ H Q I h => ?_⟩
  obtain ⟨μ, B, ρ, S, rs, rl, ou⟩ := h
  have key : tE L E fa σ H fun x H1 => (∃ a xs, x = .ref a ∧ H1 a = some (DctX L a xs)) ∧ tE L E fb σ H1 fun y H2 => r2 L E (fun B S x y => Out.of (dgetF B S x y) S) x y H2 Q := by
    refine ⟨μ, B, ρ, S, rs, rl, (OutOk.bind ou).imp fun x S1 μ1 H1 e1 rs1 o1 v hv => ?_⟩
    have o1 : OutOk L E μ1 H1 B (match recvD B S1 x with
      | true => (fb B ρ S1).bind fun y S => Out.of (dgetF B S x y) S
      | false => .fail) (fun p _ μ' H' => ∀ v, RelP L μ' H' p v → Q v H') := o1
    cases z : recvD B S1 x with
    | false => rw [z] at o1; exact False.elim o1
    | true =>
      rw [z] at o1
      refine ⟨?_, μ1, B, ρ, S1, rs1, rl.mono e1, (OutOk.bind o1).imp fun y S2 μ2 H2 e2 rs2 o2 w hw => ⟨μ2, B, S2, x, y, rs2, RelP.mono e2 x v hv, hw, o2⟩⟩
      cases x with
      | obj n => exact dct_of rs1 hv z
      | _ => cases z
  refine wpAny_Call_method_late (abase_ok hb) hfew hline rfl (thn (ho.run pins s σ H _ I key) fun v s1 z => ?_)
  obtain ⟨x, H1, I1, r1, ⟨a, xs, rfl, hD⟩, q1⟩ := z
  cases r1
  obtain ⟨⟨ob, es, ep, d1, d2, d3, d4⟩, _⟩ := I1.hok a _ hD
  refine ⟨"dict", "dict.get", PySem.F.plainAttrs_dict, PySem.F.slot_dict_get, PySem.F.type_dict_get, ⟨ob, d1, d2.1⟩, fun b e => by cases e; exact ⟨ob, d1, d2.2.1⟩, ?_⟩
  have hA := (pa_cons hk pa_nil (by rw [h1])).run pos pins s1 σ H1 (fun vs H2 => ∃ y, vs = [y] ∧ r2 L E (fun B S x y => Out.of (dgetF B S x y) S) (.ref a) y H2 Q) I1 (by
    obtain ⟨μ', B', ρ', S', r1, r2, o'⟩ := q1
    exact ⟨μ', B', ρ', S', r1, r2, o'.imp fun y S2 μ2 H2 e2 rs2 o2 w hw => ⟨w, rfl, o2 w hw⟩⟩)
  rw [h1] at hA ⊢
  refine Calls.callWith_builtin (by show (false || (backTo pos (starEach [] X.env)).any (·.1)) = false; rfl) (Calls.evalArgs_plain ?_)
  refine thn hA fun us s2 z => ?_
  obtain ⟨vs, H2, I2, r2_, y, rfl, μ2, B2, S2, p, q, rs2, hp, hq, o2⟩ := z
  obtain ⟨u, rfl, ru⟩ := vals1 r2_
  obtain ⟨r, er, o3⟩ := o2.of'
  have o3 : Dem L μ2 H2 (B2 ++ S2) r Q := o3
  cases p with
  | obj n =>
    have er : (match getS B2 S2 n with
      | some (.dct kvs) => match findK true q kvs with
        | some (some v) => some v
        | some none => some PV.non
        | none => none
      | _ => none) = some r := er
    cases g : getS B2 S2 n with
    | none => rw [g] at er; cases er
    | some so =>
      rw [g] at er
      cases so with
      | dct kvs =>
        have er : (match findK true q kvs with
          | some (some v) => some v
          | some none => some PV.non
          | none => none) = some r := er
        obtain ⟨a', ea, _, ys, g1, g2, g3, g4⟩ := rs2.get g hp
        cases ea
        unfold findK at er
        cases ck : keyOk true q with
        | false => rw [ck] at er; cases er
        | true =>
          rw [ck] at er
          obtain ⟨zs, ez, hz⟩ := keyT ck
          obtain ⟨c, ws, ec, hc, hl⟩ : ∃ c ws, y = .ref c ∧ SqT L.K H2 c ws ∧ RelL L μ2 H2 zs ws := by rw [ez] at hq; exact hq
          have hkk := key_at I2 hK ck (by rw [← ec]; exact hq)
          have dd := dct_at I2 hK g1 g2 g4
          rw [ec] at ru
          cases ru
          have hr : (nestedKind L.P L.w).room X.A.in1 := by show X.A.units + 1 + 8 < cLine; omega
          rw [hP, hw]
          refine PySem.get_keyed hr hkk g3 ⟨ys, dd, rfl⟩ ?_
          rw [PySem.valueAt_pairsH]
          rcases RelD.find ck g4 with ⟨z1, z2⟩ | ⟨pv, v, b, u, z1, z2, z3, z4⟩
          · rw [z1] at er
            cases er
            rw [z2]
            exact ⟨.non, H2, I2.tok _, rfl, o3.now rs2 rfl⟩
          · rw [z1] at er
            cases er
            rw [z2]
            exact ⟨v, H2, I2.tok _, z4, o3.now rs2 z3⟩
      | _ => cases er
  | _ => cases er
end
end RV
end
section
/-! RVZs: list(zip(*rows)), the rows tuples of one length. -/
namespace RV
open PySem PySem.Spec PyProof.Rows L2
/-- the cells of a zip over several tuples lie apart -/
structure ZAp (z TI TO : Addr) (its ls : List Addr) : Prop where
  nd : its.Nodup
  zi : z ∉ its
  Ti : TI ∉ its
  Oi : TO ∉ its
  Tz : TI ≠ z
  Oz : TO ≠ z
  TO' : TI ≠ TO
  li : ∀ l ∈ ls, l ∉ its ∧ l ≠ z ∧ l ≠ TO ∧ l ≠ TI
/-- each iterator stands at its own place -/
def ItsAt (h : Heap) (its ls : List Addr) (rows : List (Array Value)) (k : Nat → Nat) : Prop := ∀ j it l row, its[j]? = some it → ls[j]? = some l → rows[j]? = some row → h.IsTupleIter it l (k j) ∧ h.IsTuple l row
abbrev ZRec (TI TO : Addr) (f0 : Value) (fl : Bool) : Obj := { cls := .type "zip", dict := none, data := .fields #[f0, .bool fl, .bool false, .ref TI, .ref TO], slots := #[] }
/-- the column -/
def colA (rows : List (Array Value)) (i : Nat) : List Value := rows.map fun r => r.getD i .none
section
variable {prog : Program} {w : World} {A : Around} {E : Value → Shared → Prop} {s : Shared} {z TI TO T : Addr} {its ls : List Addr} {rows : List (Array Value)} {i m : Nat} {f : Bool} {oT : Obj}
theorem ItsAt.step {h h' : Heap} {k : Nat → Nat} (ap : ZAp z TI TO its ls) (hl : ls.length = its.length) {j : Nat} {it l : Addr} {row : Array Value} (x : ItsAt h its ls rows k) (e1 : its[j]? = some it) (e2 : ls[j]? = some l) (hit : h'.IsTupleIter it l (k j + 1)) (sb : Heap.SameBut it h h') :
    ItsAt h' its ls rows (fun q => if q = j then k j + 1 else k q) := by
  intro q it' l' row' a1 a2 a3
  obtain ⟨h1, h2⟩ := x q it' l' row' a1 a2 a3
  have hne : l' ≠ it := fun z' => (ap.li l' (List.mem_of_getElem? a2)).1 (by rw [z']; exact List.mem_of_getElem? e1)
  by_cases hq : q = j
  · subst hq
    rw [e1] at a1
    cases a1
    rw [e2] at a2
    cases a2
    refine ⟨?_, h2.extBut sb.extBut hne⟩
    show h'.IsTupleIter it l (if q = q then k q + 1 else k q)
    rw [if_pos rfl]
    exact hit
  · have hni : it' ≠ it := fun z' => hq (by
      subst z'
      exact (List.getElem?_inj (List.getElem?_eq_some_iff.mp a1).1 ap.nd).mp (by rw [a1, e1]))
    refine ⟨?_, h2.extBut sb.extBut hne⟩
    show h'.IsTupleIter it' l' (if q = j then k j + 1 else k q)
    rw [if_neg hq]
    exact h1.extBut sb.extBut hni
theorem some_in (h0 : 0 < its.length) : ((its.map Value.ref).toArray).isEmpty = false := match its, h0 with
  | _ :: _, _ => rfl
/-- a further item while the tuple given out before is still there -/
theorem zs_item_held {Q : Value → Shared → Prop} (ap : ZAp z TI TO its ls) (hl : ls.length = its.length) (hr : rows.length = its.length) (h0 : 0 < its.length) (h9 : its.length ≤ sizeLine) (hm : ∀ r ∈ rows, r.size = m) (hi : i < m)
    (hz : s.heap.get? z = some (ZRec TI TO (rawInt T) f)) (hT : s.heap.get? T = some oT) (hTI : s.heap.get? TI = some { cls := .type "tuple", data := .seq (its.map Value.ref).toArray }) (hit : ItsAt s.heap its ls rows fun _ => i)
    (hQ : ∀ h', h'.get? z = some (ZRec TI TO (rawInt T) true) → ItsAt h' its ls rows (fun _ => i + 1) → h'.get? s.heap.objs.size = some { cls := .type "tuple", data := .seq (colA rows i).toArray } → h'.objs.size = s.heap.objs.size + 1 →
      (∀ c o, c ≠ z → c ∉ its → s.heap.get? c = some o → h'.get? c = some o) → Q (.ref s.heap.objs.size) { s with heap := h' }) :
    wpAny (model prog w) A (Builtin.«zip.__next__» ⟨[.ref z], []⟩) (fun fin s' => ∃ v, fin = .done (.ret v) ∧ Q v s') E s := by
  refine show wpAny _ _ (field (.ref z) 2 >>= _) _ _ _ from wpAny_bind (wpAny_field hz rfl (x := .bool false) rfl (wpAny_bind (wpAny_field hz rfl (x := .ref TI) rfl (wpAny_bind (wpAny_seqItems hTI rfl ?_)))))
  simp only [some_in h0, Bool.false_eq_true, if_false]
  refine wpAny_bind (wpAny_tupleHeld_zip hz hT fun h₁ hz₁ hs₁ => ?_)
  simp only [Bool.false_eq_true, if_false]
  refine wpAny_bind (PySem.MeetsSeq2.wpAny_forIn_array _ (fun rest b s' => ∃ (j : Nat) (h' : Heap), rest = (its.map Value.ref).drop j ∧ j ≤ its.length ∧ b = (none, ((colA rows i).take j).toArray) ∧ s' = { s with heap := h' } ∧ h'.objs.size = s.heap.objs.size ∧
    h'.get? z = some (ZRec TI TO (rawInt T) true) ∧ ItsAt h' its ls rows (fun q => if q < j then i + 1 else i) ∧ ∀ c o, c ≠ z → c ∉ its → s.heap.get? c = some o → h'.get? c = some o) _ ?turn ?fin _ _ ?h0)
  case h0 => 
    refine ⟨0, h₁, rfl, Nat.zero_le _, rfl, rfl, hs₁.1, hz₁, fun q it l row a1 a2 a3 => ?_, fun c o hc _ e => hs₁.extBut c o hc e⟩
    obtain ⟨b1, b2⟩ := hit q it l row a1 a2 a3
    show h₁.IsTupleIter it l (if q < 0 then i + 1 else i) ∧ _
    rw [if_neg (Nat.not_lt_zero _)]
    exact ⟨b1.extBut hs₁.extBut (fun e => ap.zi (by rw [← e]; exact List.mem_of_getElem? a1)), b2.extBut hs₁.extBut (ap.li l (List.mem_of_getElem? a2)).2.1⟩
  case turn =>
    rintro x rest b s' ⟨j, h', er, hj, eb, es, hsz, hzz, hia, hk⟩
    subst es eb
    have hjl : j < its.length := by
      rcases Nat.lt_or_ge j its.length with q | q
      · exact q
      · rw [List.drop_of_length_le (by rw [List.length_map]; exact q)] at er
        cases er
    have hjm : j < (its.map Value.ref).length := by rw [List.length_map]; exact hjl
    rw [List.drop_eq_getElem_cons hjm] at er
    have ex : x = Value.ref its[j] := by
      have := (List.cons.inj er).1
      rw [this, List.getElem_map]
    have erest : rest = (its.map Value.ref).drop (j + 1) := (List.cons.inj er).2
    subst ex
    have a1 : its[j]? = some its[j] := List.getElem?_eq_getElem hjl
    have hjl2 : j < ls.length := by omega
    have hjr : j < rows.length := by omega
    have a2 : ls[j]? = some ls[j] := List.getElem?_eq_getElem hjl2
    have a3 : rows[j]? = some rows[j] := List.getElem?_eq_getElem hjr
    obtain ⟨b1, b2⟩ := hia j _ _ _ a1 a2 a3
    have b1 : h'.IsTupleIter its[j] ls[j] (if j < j then i + 1 else i) := b1
    rw [if_neg (Nat.lt_irrefl _)] at b1
    have hsr : i < rows[j].size := by rw [hm _ (List.getElem_mem hjr)]; exact hi
    refine wpAny_bind (wpAny_holding ?_)
    show wpAny _ _ (Builtin.SmallTypes.nextOf (.ref its[j]) >>= _) _ _ _
    refine wpAny_bind (RZ.nextOf_tuple_item (s := { s with heap := h' }) b1 b2 (x := rows[j][i]) (by simp [hsr]) fun h2 hit2 sb2 => wpAny_pure ?_)
    refine wpAny_pure ?_
    refine ⟨j + 1, h2, erest, hjl, ?_, rfl, by rw [sb2.1]; exact hsz, ?_, ?_, fun c o hc hci e => sb2.extBut c o (fun z' => hci (by rw [z']; exact List.getElem_mem hjl)) (hk c o hc hci e)⟩
    · have e1 : (colA rows i)[j]? = some rows[j][i] := by
        unfold colA
        rw [List.getElem?_map, a3]
        simp [hsr]
      rw [List.take_add_one, e1]
      simp
    · exact sb2.extBut z _ (fun z' => ap.zi (by rw [z']; exact List.getElem_mem hjl)) hzz
    · intro q it l row c1 c2 c3
      have st := ItsAt.step (rows := rows) (row := rows[j]) (k := fun q => if q < j then i + 1 else i) ap hl hia a1 a2 (by rw [if_neg (Nat.lt_irrefl _)]; exact hit2) sb2 q it l row c1 c2 c3
      have ek : (fun q => if q = j then (if j < j then i + 1 else i) + 1 else if q < j then i + 1 else i) q = (fun q => if q < j + 1 then i + 1 else i) q := by
        show (if q = j then (if j < j then i + 1 else i) + 1 else if q < j then i + 1 else i) = (if q < j + 1 then i + 1 else i)
        rw [if_neg (Nat.lt_irrefl _)]
        by_cases hq : q = j
        · rw [if_pos hq, if_pos (by omega)]
        · rw [if_neg hq]
          by_cases hq2 : q < j
          · rw [if_pos hq2, if_pos (by omega)]
          · rw [if_neg hq2, if_neg (by omega)]
      rw [← ek]
      exact st
  case fin =>
    rintro b s' ⟨j, h', er, hj, eb, es, hsz, hzz, hia, hk⟩
    subst es eb
    have hjl : j = its.length := by
      rcases Nat.lt_or_ge j its.length with q | q
      · rw [List.drop_eq_getElem_cons (by rw [List.length_map]; exact q)] at er
        cases er
      · omega
    subst hjl
    have hct : (colA rows i).take its.length = colA rows i := List.take_of_length_le (by unfold colA; rw [List.length_map]; omega)
    rw [hct]
    show wpAny (model prog w) A (newTuple (colA rows i) >>= fun r => ret r) _ _ _
    refine wpAny_bind (wpAny_newTuple ?_ (by unfold colA; rw [List.length_map]; omega))
    refine wpAny_pure ⟨_, rfl, ?_⟩
    show Q (.ref h'.objs.size) { s with heap := h'.push { cls := .type "tuple", data := .seq (colA rows i).toArray } }
    have hp : (h'.push { cls := .type "tuple", data := .seq (colA rows i).toArray }).get? h'.objs.size = some { cls := .type "tuple", data := .seq (colA rows i).toArray } := Heap.get?_push_size _ rfl
    have hsz4 : (h'.push { cls := .type "tuple", data := .seq (colA rows i).toArray }).objs.size = h'.objs.size + 1 := Heap.size_push ..
    rw [hsz] at hp hsz4 ⊢
    refine hQ _ (Heap.get?_push_of_some _ hzz) (fun q it l row c1 c2 c3 => ?_) hp hsz4 fun c o hc hci e => Heap.get?_push_of_some _ (hk c o hc hci e)
    obtain ⟨d1, d2⟩ := hia q it l row c1 c2 c3
    have d1 : h'.IsTupleIter it l (if q < its.length then i + 1 else i) := d1
    rw [if_pos (List.getElem?_eq_some_iff.mp c1).1] at d1
    exact ⟨d1.at fun o e => Heap.get?_push_of_some _ e, d2.at fun o e => Heap.get?_push_of_some _ e⟩
/-- the end, the tuple given out before still there -/
theorem zs_end_held {Q : Fin → Shared → Prop} (hh : A.handled = none) (ap : ZAp z TI TO its ls) (hl : ls.length = its.length) (hr : rows.length = its.length) (h0 : 0 < its.length) (hm : ∀ r ∈ rows, r.size = m)
    (hz : s.heap.get? z = some (ZRec TI TO (rawInt T) f)) (hT : s.heap.get? T = some oT) (hTI : s.heap.get? TI = some { cls := .type "tuple", data := .seq (its.map Value.ref).toArray }) (hit : ItsAt s.heap its ls rows fun _ => m)
    (hE : ∀ h' e, (∀ c o, c ≠ z → c ∉ its → s.heap.get? c = some o → h'.get? c = some o) → (∃ o, h'.get? e = some o ∧ o.cls = .type "StopIteration") → E (.ref e) { s with heap := h' }) :
    wpAny (model prog w) A (Builtin.«zip.__next__» ⟨[.ref z], []⟩) Q E s := by
  refine show wpAny _ _ (field (.ref z) 2 >>= _) _ _ _ from wpAny_bind (wpAny_field hz rfl (x := .bool false) rfl (wpAny_bind (wpAny_field hz rfl (x := .ref TI) rfl (wpAny_bind (wpAny_seqItems hTI rfl ?_)))))
  simp only [some_in h0, Bool.false_eq_true, if_false]
  refine wpAny_bind (wpAny_tupleHeld_zip hz hT fun h₁ hz₁ hs₁ => ?_)
  simp only [Bool.false_eq_true, if_false]
  refine wpAny_bind (PySem.MeetsSeq2.wpAny_forIn_array _ (fun rest b s' => rest = its.map Value.ref ∧ s' = { s with heap := h₁ }) _ ?turn ?fin _ _ ⟨rfl, rfl⟩)
  case turn =>
    rintro x rest b s' ⟨er, es⟩
    subst es
    have h0r : 0 < rows.length := by omega
    have h0l : 0 < ls.length := by omega
    have a1 : its[0]? = some its[0] := List.getElem?_eq_getElem h0
    have a2 : ls[0]? = some ls[0] := List.getElem?_eq_getElem h0l
    have a3 : rows[0]? = some rows[0] := List.getElem?_eq_getElem h0r
    obtain ⟨b1, b2⟩ := hit 0 _ _ _ a1 a2 a3
    have ex : x = Value.ref its[0] := by
      have e1 : (x :: rest)[0]? = (its.map Value.ref)[0]? := by rw [er]
      rw [List.getElem?_map, a1] at e1
      simpa using e1
    subst ex
    have b1' := b1.extBut hs₁.extBut (fun e => ap.zi (by rw [← e]; exact List.getElem_mem h0))
    have b2' := b2.extBut hs₁.extBut (ap.li _ (List.getElem_mem h0l)).2.1
    refine wpAny_bind (wpAny_holding ?_)
    show wpAny _ _ (Builtin.SmallTypes.nextOf (.ref its[0]) >>= _) _ _ _
    refine wpAny_bind (RZ.nextOf_tuple_end (s := { s with heap := h₁ }) hh b1' b2' (by rw [← hm _ (List.getElem_mem h0r)]; simp) fun h2 e hs2 he => ?_)
    exact hE h2 e (fun c o hc hci x => hs2 c o (fun z' => hci (by rw [z']; exact List.getElem_mem h0)) (hs₁.extBut c o hc x)) he
  case fin =>
    rintro b s' ⟨er, es⟩
    have := congrArg List.length er
    rw [List.length_map] at this
    simp at this
    omega
/-- the first item -/
theorem zs_item_first {Q : Value → Shared → Prop} {kept0 : Array Value} (ap : ZAp z TI TO its ls) (hl : ls.length = its.length) (hr : rows.length = its.length) (h0 : 0 < its.length) (h9 : its.length ≤ sizeLine) (hm : ∀ r ∈ rows, r.size = m) (hi : i < m)
    (hz : s.heap.get? z = some (ZRec TI TO .none false)) (hTI : s.heap.get? TI = some { cls := .type "tuple", data := .seq (its.map Value.ref).toArray }) (hk0 : kept0.size = its.length) (hTO : s.heap.get? TO = some { cls := .type "tuple", data := .seq kept0 }) (hit : ItsAt s.heap its ls rows fun _ => i)
    (hQ : ∀ h', h'.get? z = some (ZRec TI TO (rawInt s.heap.objs.size) false) → ItsAt h' its ls rows (fun _ => i + 1) → h'.get? s.heap.objs.size = some { cls := .type "tuple", data := .seq (colA rows i).toArray } → h'.objs.size = s.heap.objs.size + 1 →
      (∀ c o, c ≠ z → c ≠ TO → c ∉ its → s.heap.get? c = some o → h'.get? c = some o) → Q (.ref s.heap.objs.size) { s with heap := h' }) :
    wpAny (model prog w) A (Builtin.«zip.__next__» ⟨[.ref z], []⟩) (fun fin s' => ∃ v, fin = .done (.ret v) ∧ Q v s') E s := by
  refine show wpAny _ _ (field (.ref z) 2 >>= _) _ _ _ from wpAny_bind (wpAny_field hz rfl (x := .bool false) rfl (wpAny_bind (wpAny_field hz rfl (x := .ref TI) rfl (wpAny_bind (wpAny_seqItems hTI rfl ?_)))))
  simp only [some_in h0, Bool.false_eq_true, if_false]
  refine wpAny_bind ?_
  unfold Builtin.SmallTypes.ownedTupleIsFree
  refine wpAny_bind (wpAny_field hz rfl (x := .none) rfl (wpAny_pure ?_))
  simp only [if_true]
  refine wpAny_bind (wpAny_rule ?_)
  refine wpAny_bind (wpAny_field hz rfl (x := .ref TO) rfl ?_)
  refine wpAny_bind (wpAny_setField_rec hz (by simp) fun h₁ hz₁ hs₁ => ?_)
  replace hz₁ : h₁.get? z = some (ZRec TI TO .ellipsis false) := hz₁
  refine wpAny_bind (wpAny_forIn_list _ (fun rest b s' => ∃ (j : Nat) (h' : Heap) (kept : Array Value), rest = ((its.map Value.ref).zipIdx).drop j ∧ j ≤ its.length ∧ b = (none, ()) ∧ s' = { s with heap := h' } ∧ h'.objs.size = s.heap.objs.size ∧ kept.size = its.length ∧ kept.toList.take j = (colA rows i).take j ∧
    h'.get? TO = some { cls := .type "tuple", data := .seq kept } ∧ h'.get? z = some (ZRec TI TO .ellipsis false) ∧ ItsAt h' its ls rows (fun q => if q < j then i + 1 else i) ∧ ∀ c o, c ≠ z → c ≠ TO → c ∉ its → s.heap.get? c = some o → h'.get? c = some o) _ ?turn ?fin _ _ ?h0)
  case h0 =>
    refine ⟨0, h₁, kept0, rfl, Nat.zero_le _, rfl, rfl, hs₁.1, hk0, by simp, hs₁.extBut TO _ ap.Oz hTO, hz₁, fun q it l row a1 a2 a3 => ?_, fun c o hc _ _ e => hs₁.extBut c o hc e⟩
    obtain ⟨b1, b2⟩ := hit q it l row a1 a2 a3
    show h₁.IsTupleIter it l (if q < 0 then i + 1 else i) ∧ _
    rw [if_neg (Nat.not_lt_zero _)]
    exact ⟨b1.extBut hs₁.extBut (fun e => ap.zi (by rw [← e]; exact List.mem_of_getElem? a1)), b2.extBut hs₁.extBut (ap.li l (List.mem_of_getElem? a2)).2.1⟩
  case turn =>
    rintro x rest b s' ⟨j, h', kept, er, hj, eb, es, hsz, hks, hkt, hTO', hzz, hia, hk⟩
    subst es eb
    have hjl : j < its.length := by
      rcases Nat.lt_or_ge j its.length with q | q
      · exact q
      · rw [List.drop_of_length_le (by rw [List.length_zipIdx, List.length_map]; exact q)] at er
        cases er
    have hjm : j < ((its.map Value.ref).zipIdx).length := by rw [List.length_zipIdx, List.length_map]; exact hjl
    rw [List.drop_eq_getElem_cons hjm] at er
    have ex : x = (Value.ref its[j], j) := by
      have := (List.cons.inj er).1
      rw [this]
      simp
    have erest : rest = ((its.map Value.ref).zipIdx).drop (j + 1) := (List.cons.inj er).2
    subst ex
    have a1 : its[j]? = some its[j] := List.getElem?_eq_getElem hjl
    have hjl2 : j < ls.length := by omega
    have hjr : j < rows.length := by omega
    have a2 : ls[j]? = some ls[j] := List.getElem?_eq_getElem hjl2
    have a3 : rows[j]? = some rows[j] := List.getElem?_eq_getElem hjr
    obtain ⟨b1, b2⟩ := hia j _ _ _ a1 a2 a3
    have b1 : h'.IsTupleIter its[j] ls[j] (if j < j then i + 1 else i) := b1
    rw [if_neg (Nat.lt_irrefl _)] at b1
    have hsr : i < rows[j].size := by rw [hm _ (List.getElem_mem hjr)]; exact hi
    refine wpAny_bind (wpAny_onRaise ?_)
    show wpAny _ _ (Builtin.SmallTypes.nextOf (.ref its[j]) >>= _) _ _ _
    refine wpAny_bind (RZ.nextOf_tuple_item (s := { s with heap := h' }) b1 b2 (x := rows[j][i]) (by simp [hsr]) fun h2 hit2 sb2 => wpAny_pure ?_)
    have hTO2 : h2.get? TO = some { cls := .type "tuple", data := .seq kept } := sb2.extBut TO _ (fun z' => ap.Oi (by rw [z']; exact List.getElem_mem hjl)) hTO'
    refine wpAny_bind (wpAny_seqItems hTO2 rfl ?_)
    refine wpAny_bind (wpAny_updateSeq hTO2 rfl ?_)
    refine wpAny_bind (wpAny_letGo (wpAny_pure ?_))
    have hTO3 : (h2.update TO (Obj.mapSeq (·.setIfInBounds j rows[j][i]))).get? TO = some { cls := .type "tuple", data := .seq (kept.setIfInBounds j rows[j][i]) } := by
      rw [Heap.get?_update_self _ hTO2 rfl]
      simp [Obj.mapSeq]
    have up : ∀ c o, c ≠ TO → h2.get? c = some o → (h2.update TO (Obj.mapSeq (·.setIfInBounds j rows[j][i]))).get? c = some o := fun c o hc e => (Heap.get?_update_other _ _ (Ne.symm hc)).trans e
    refine ⟨j + 1, _, kept.setIfInBounds j rows[j][i], erest, hjl, rfl, rfl, ?_, by simpa using hks, ?_, hTO3, up z _ (Ne.symm ap.Oz) (sb2.extBut z _ (fun z' => ap.zi (by rw [z']; exact List.getElem_mem hjl)) hzz), ?_, fun c o hc hcT hci e => up c o hcT (sb2.extBut c o (fun z' => hci (by rw [z']; exact List.getElem_mem hjl)) (hk c o hc hcT hci e))⟩
    · show (h2.update TO _).objs.size = _
      rw [Heap.size_update, sb2.1]
      exact hsz
    · have e1 : (colA rows i)[j]? = some rows[j][i] := by
        unfold colA
        rw [List.getElem?_map, a3]
        simp [hsr]
      rw [List.take_add_one, List.take_add_one, e1, Array.toList_setIfInBounds, List.take_set_of_le (Nat.le_refl _), hkt, List.getElem?_set_self (by rw [Array.length_toList, hks]; exact hjl)]
    · intro q it l row c1 c2 c3
      have st := ItsAt.step (rows := rows) (row := rows[j]) (k := fun q => if q < j then i + 1 else i) ap hl hia a1 a2 (by rw [if_neg (Nat.lt_irrefl _)]; exact hit2) sb2 q it l row c1 c2 c3
      have ek : (fun q => if q = j then (if j < j then i + 1 else i) + 1 else if q < j then i + 1 else i) q = (fun q => if q < j + 1 then i + 1 else i) q := by
        show (if q = j then (if j < j then i + 1 else i) + 1 else if q < j then i + 1 else i) = (if q < j + 1 then i + 1 else i)
        rw [if_neg (Nat.lt_irrefl _)]
        by_cases hq : q = j
        · rw [if_pos hq, if_pos (by omega)]
        · rw [if_neg hq]
          by_cases hq2 : q < j
          · rw [if_pos hq2, if_pos (by omega)]
          · rw [if_neg hq2, if_neg (by omega)]
      rw [← ek]
      exact ⟨st.1.at fun o e => up it o (fun z' => ap.Oi (by rw [← z']; exact List.mem_of_getElem? c1)) e, st.2.at fun o e => up l o (ap.li l (List.mem_of_getElem? c2)).2.2.1 e⟩
  case fin =>
    rintro b s' ⟨j, h', kept, er, hj, eb, es, hsz, hks, hkt, hTO', hzz, hia, hk⟩
    subst es eb
    have hjl : j = its.length := by
      rcases Nat.lt_or_ge j its.length with q | q
      · rw [List.drop_eq_getElem_cons (by rw [List.length_zipIdx, List.length_map]; exact q)] at er
        cases er
      · omega
    subst hjl
    have hct : (colA rows i).take its.length = colA rows i := List.take_of_length_le (by unfold colA; rw [List.length_map]; omega)
    have hkk : kept.toList = colA rows i := by
      rw [hct, List.take_of_length_le (by rw [Array.length_toList]; omega)] at hkt
      exact hkt
    refine wpAny_bind (wpAny_seqItems hTO' rfl ?_)
    show wpAny (model prog w) A (newTuple kept.toList >>= fun result => Builtin.SmallTypes.ownedTupleHandOut (.ref z) result >>= fun _ => ret result) _ _ _
    rw [hkk]
    refine wpAny_bind (wpAny_newTuple ?_ (by unfold colA; rw [List.length_map]; omega))
    show wpAny _ _ (Builtin.SmallTypes.ownedTupleHandOut (.ref z) (.ref h'.objs.size) >>= _) _ _ _
    refine wpAny_bind ?_
    unfold Builtin.SmallTypes.ownedTupleHandOut
    have hz6 : (h'.push { cls := .type "tuple", data := .seq (colA rows i).toArray }).get? z = some (ZRec TI TO .ellipsis false) := Heap.get?_push_of_some _ hzz
    refine wpAny_bind (wpAny_setField_rec hz6 (by simp) fun h7 hz7 hs7 => ?_)
    replace hz7 : h7.get? z = some (ZRec TI TO (rawInt h'.objs.size) false) := hz7
    refine wpAny_setField_rec hz7 (by simp) fun h8 hz8 hs8 => ?_
    replace hz8 : h8.get? z = some (ZRec TI TO (rawInt h'.objs.size) false) := hz8
    have up : ∀ c o, c ≠ z → h'.get? c = some o → h8.get? c = some o := fun c o c1 e => hs8.extBut _ _ c1 (hs7.extBut _ _ c1 (Heap.get?_push_of_some _ e))
    have hzlt : z < h'.objs.size := Heap.lt_size hzz
    have hT8 : h8.get? h'.objs.size = some { cls := .type "tuple", data := .seq (colA rows i).toArray } := hs8.extBut _ _ (Nat.ne_of_gt hzlt) (hs7.extBut _ _ (Nat.ne_of_gt hzlt) (Heap.get?_push_size _ rfl))
    have hsz8 : h8.objs.size = h'.objs.size + 1 := by rw [hs8.1, hs7.1, Heap.size_push]
    refine wpAny_pure ⟨_, rfl, ?_⟩
    show Q (.ref h'.objs.size) _
    rw [hsz] at hz8 hT8 hsz8 ⊢
    refine hQ h8 hz8 (fun q it l row c1 c2 c3 => ?_) hT8 hsz8 fun c o hc hcT hci e => up c o hc (hk c o hc hcT hci e)
    obtain ⟨d1, d2⟩ := hia q it l row c1 c2 c3
    have d1 : h'.IsTupleIter it l (if q < its.length then i + 1 else i) := d1
    rw [if_pos (List.getElem?_eq_some_iff.mp c1).1] at d1
    exact ⟨d1.at fun o e => up it o (fun z' => ap.zi (by rw [← z']; exact List.mem_of_getElem? c1)) e, d2.at fun o e => up l o (ap.li l (List.mem_of_getElem? c2)).2.1 e⟩
/-! ### next(z) -/
theorem zs_nx {Q : Option Value → Shared → Prop} (ty : s.TypeIs (.ref z) "zip") (h : wpAny (model prog w) A.in1 (Builtin.«zip.__next__» ⟨[.ref z], []⟩) (fun r t => ∃ v, r = .done (.ret v) ∧ Q (some v) t) (fun e t => ∃ a o, e = .ref a ∧ t.heap.get? a = some o ∧ o.cls = .type "StopIteration" ∧ Q none t) s) : wpAny (model prog w) A (pyNext (.ref z)) Q E s := by
  unfold pyNext
  refine wpAny_bind (wpAny_attempt (wpAny_callSpecial?_slot (name := Str.ofString "__next__") ty F.slot_zip_next (wpAny_call_entry F.slot_zip_next ty F.entry_zip_next ?_ (F.args_zip_next_1 _))))
  refine wpAny_mono h (fun r t => ?_) fun e t => ?_
  · rintro ⟨v, er, q⟩
    exact ⟨v, er, wpAny_pure q⟩
  · rintro ⟨a, o, rfl, ho, hc, q⟩
    exact wpAny_bind (wpAny_isInstance (T := "StopIteration") (b := true) ⟨o, ho, hc⟩ isSubtype_stop (wpAny_pure q))
theorem zs_next_first {Q : Option Value → Shared → Prop} {kept0 : Array Value} (ap : ZAp z TI TO its ls) (hl : ls.length = its.length) (hr : rows.length = its.length) (h0 : 0 < its.length) (h9 : its.length ≤ sizeLine) (hm : ∀ r ∈ rows, r.size = m) (hi : i < m)
    (hz : s.heap.get? z = some (ZRec TI TO .none false)) (hTI : s.heap.get? TI = some { cls := .type "tuple", data := .seq (its.map Value.ref).toArray }) (hk0 : kept0.size = its.length) (hTO : s.heap.get? TO = some { cls := .type "tuple", data := .seq kept0 }) (hit : ItsAt s.heap its ls rows fun _ => i)
    (hQ : ∀ h', h'.get? z = some (ZRec TI TO (rawInt s.heap.objs.size) false) → ItsAt h' its ls rows (fun _ => i + 1) → h'.get? s.heap.objs.size = some { cls := .type "tuple", data := .seq (colA rows i).toArray } → h'.objs.size = s.heap.objs.size + 1 →
      (∀ c o, c ≠ z → c ≠ TO → c ∉ its → s.heap.get? c = some o → h'.get? c = some o) → Q (some (.ref s.heap.objs.size)) { s with heap := h' }) : wpAny (model prog w) A (pyNext (.ref z)) Q E s := by
  exact zs_nx ⟨_, hz, rfl⟩ (zs_item_first (Q := fun v => Q (some v)) ap hl hr h0 h9 hm hi hz hTI hk0 hTO hit hQ)
theorem zs_next_held {Q : Option Value → Shared → Prop} (ap : ZAp z TI TO its ls) (hl : ls.length = its.length) (hr : rows.length = its.length) (h0 : 0 < its.length) (h9 : its.length ≤ sizeLine) (hm : ∀ r ∈ rows, r.size = m) (hi : i < m)
    (hz : s.heap.get? z = some (ZRec TI TO (rawInt T) f)) (hT : s.heap.get? T = some oT) (hTI : s.heap.get? TI = some { cls := .type "tuple", data := .seq (its.map Value.ref).toArray }) (hit : ItsAt s.heap its ls rows fun _ => i)
    (hQ : ∀ h', h'.get? z = some (ZRec TI TO (rawInt T) true) → ItsAt h' its ls rows (fun _ => i + 1) → h'.get? s.heap.objs.size = some { cls := .type "tuple", data := .seq (colA rows i).toArray } → h'.objs.size = s.heap.objs.size + 1 →
      (∀ c o, c ≠ z → c ∉ its → s.heap.get? c = some o → h'.get? c = some o) → Q (some (.ref s.heap.objs.size)) { s with heap := h' }) : wpAny (model prog w) A (pyNext (.ref z)) Q E s := by
  exact zs_nx ⟨_, hz, rfl⟩ (zs_item_held (Q := fun v => Q (some v)) ap hl hr h0 h9 hm hi hz hT hTI hit hQ)
theorem zs_next_end {Q : Option Value → Shared → Prop} (hh : A.handled = none) (ap : ZAp z TI TO its ls) (hl : ls.length = its.length) (hr : rows.length = its.length) (h0 : 0 < its.length) (hm : ∀ r ∈ rows, r.size = m)
    (hz : s.heap.get? z = some (ZRec TI TO (rawInt T) f)) (hT : s.heap.get? T = some oT) (hTI : s.heap.get? TI = some { cls := .type "tuple", data := .seq (its.map Value.ref).toArray }) (hit : ItsAt s.heap its ls rows fun _ => m)
    (hQ : ∀ h', (∀ c o, c ≠ z → c ∉ its → s.heap.get? c = some o → h'.get? c = some o) → Q none { s with heap := h' }) : wpAny (model prog w) A (pyNext (.ref z)) Q E s := by
  refine zs_nx ⟨_, hz, rfl⟩ (zs_end_held (A := A.in1) hh ap hl hr h0 hm hz hT hTI hit fun g e kp st => ?_)
  obtain ⟨o, ho, hc⟩ := st
  exact ⟨e, o, rfl, ho, hc, hQ _ kp⟩
end
end RV
end
section
/-! RVZl: list(z), z a zip over tuples of one length. -/
namespace RV
open PySem PySem.Calls PySem.Spec PyProof.Rows L2 PySem.W
abbrev TupO (vs : List Value) : Obj := { cls := .type "tuple", data := .seq vs.toArray }
def ZSt (h : Heap) (z TI TO S : Addr) (its ls : List Addr) (rows : List (Array Value)) (i : Nat) : Prop :=
  h.get? TI = some (TupO (its.map Value.ref)) ∧ ItsAt h its ls rows (fun _ => i) ∧
    ((i = 0 ∧ h.get? z = some (ZRec TI TO .none false) ∧ ∃ kept0 : Array Value, kept0.size = its.length ∧ h.get? TO = some { cls := .type "tuple", data := .seq kept0 }) ∨
      ∃ (T : Addr) (oT : Obj) (f : Bool), h.get? z = some (ZRec TI TO (rawInt T) f) ∧ h.get? T = some oT ∧ S < T)
structure ZLow (z TI TO S : Addr) (its ls : List Addr) : Prop where
  z : z < S
  TI : TI < S
  TO : TO < S
  its : ∀ a ∈ its, a < S
  ls : ∀ a ∈ ls, a < S
structure ZG (S : Addr) (rows : List (Array Value)) (h : Heap) (as : List Addr) : Prop where
  rise : as.Pairwise (· < ·)
  above : ∀ a ∈ as, S < a
  at_ : ∀ (j : Nat) (a : Addr), as[j]? = some a → h.get? a = some (TupO (colA rows j))
section
variable {prog : Program} {w : World} {A : Around} {E : Value → Shared → Prop} {s : Shared} {z TI TO S : Addr} {its ls : List Addr} {rows : List (Array Value)} {m : Nat} {R : Result → Shared → Prop}
theorem ZSt.keep {h h' : Heap} {i : Nat} (x : ZSt h z TI TO S its ls rows i) (lo : ZLow z TI TO S its ls) (k : ∀ b o, b ≠ S → h.get? b = some o → h'.get? b = some o) : ZSt h' z TI TO S its ls rows i := by
  obtain ⟨h1, h2, h3⟩ := x
  refine ⟨k _ _ (Nat.ne_of_lt lo.TI) h1, fun j it l row a1 a2 a3 => ?_, ?_⟩
  · obtain ⟨b1, b2⟩ := h2 j it l row a1 a2 a3
    exact ⟨b1.at fun o e => k it o (Nat.ne_of_lt (lo.its it (List.mem_of_getElem? a1))) e, b2.at fun o e => k l o (Nat.ne_of_lt (lo.ls l (List.mem_of_getElem? a2))) e⟩
  · rcases h3 with ⟨e, h4, kept, e2, h5⟩ | ⟨T, oT, f, h4, h5, h6⟩
    · exact .inl ⟨e, k _ _ (Nat.ne_of_lt lo.z) h4, kept, e2, k _ _ (Nat.ne_of_lt lo.TO) h5⟩
    · exact .inr ⟨T, oT, f, k _ _ (Nat.ne_of_lt lo.z) h4, k _ _ (Nat.ne_of_gt h6) h5, h6⟩
theorem zs_one {i : Nat} {Q : Option Value → Shared → Prop} (ap : ZAp z TI TO its ls) (lo : ZLow z TI TO S its ls) (hl : ls.length = its.length) (hr : rows.length = its.length) (h0 : 0 < its.length) (h9 : its.length ≤ sizeLine) (hm : ∀ r ∈ rows, r.size = m) (hi : i < m) (hS : S < s.heap.objs.size)
    (x : ZSt s.heap z TI TO S its ls rows i)
    (hQ : ∀ h', ZSt h' z TI TO S its ls rows (i + 1) → h'.get? s.heap.objs.size = some (TupO (colA rows i)) → h'.objs.size = s.heap.objs.size + 1 → (∀ c o, c ≠ z → c ≠ TO → c ∉ its → s.heap.get? c = some o → h'.get? c = some o) → Q (some (.ref s.heap.objs.size)) { s with heap := h' }) :
    wpAny (model prog w) A (pyNext (.ref z)) Q E s := by
  obtain ⟨h1, h2, h3⟩ := x
  rcases h3 with ⟨rfl, h4, kept, e2, h5⟩ | ⟨T, oT, f, h4, h5, h6⟩
  · refine zs_next_first ap hl hr h0 h9 hm hi h4 h1 e2 h5 h2 fun h' a1 a2 a3 a4 a5 => hQ h' ⟨a5 _ _ ap.Tz ap.TO' ap.Ti h1, a2, .inr ⟨_, _, false, a1, a3, hS⟩⟩ a3 a4 a5
  · have hTz : T ≠ z := fun e => by rw [e] at h6; exact absurd (Nat.lt_trans h6 lo.z) (Nat.lt_irrefl _)
    have hTi : T ∉ its := fun e => absurd (Nat.lt_trans h6 (lo.its T e)) (Nat.lt_irrefl _)
    exact zs_next_held ap hl hr h0 h9 hm hi h4 h5 h1 h2 fun h' a1 a2 a3 a4 a5 => hQ h' ⟨a5 _ _ ap.Tz ap.Ti h1, a2, .inr ⟨T, oT, true, a1, a5 _ _ hTz hTi h5, h6⟩⟩ a3 a4 fun c o c1 _ c3 e => a5 c o c1 c3 e
/-- what list(z) leaves: the list, its columns, all else as it was -/
structure ZEnd (S z TO : Addr) (its : List Addr) (rows : List (Array Value)) (m : Nat) (h0 g : Heap) (as : List Addr) : Prop where
  old : ∀ b o, b ≠ S → b ≠ z → b ≠ TO → b ∉ its → h0.get? b = some o → g.get? b = some o
  lst : ∃ (acc : Array Value) (c : Nat), acc.toList = as.map Value.ref ∧ g.get? S = some { cls := .type "list", data := .seq acc c }
  len : as.length = m
  col : ZG S rows g as
theorem ZEnd.from {h0 h1 g : Heap} {as : List Addr} (x : ZEnd S z TO its rows m h1 g as) (k : ∀ b o, b ≠ S → h0.get? b = some o → h1.get? b = some o) : ZEnd S z TO its rows m h0 g as :=
  { x with old := fun b o q1 q2 q3 q4 e => x.old b o q1 q2 q3 q4 (k b o q1 e) }
/-- a further column -/
theorem ZG.more {g g' : Heap} {as : List Addr} {n : Addr} (G : ZG S rows g as) (hS : S < n) (top : ∀ a ∈ as, a < n) (kp : ∀ a o, S < a → g.get? a = some o → g'.get? a = some o) (new : g'.get? n = some (TupO (colA rows as.length))) : ZG S rows g' (as ++ [n]) where
  rise := List.pairwise_append.mpr ⟨G.rise, List.pairwise_singleton .., fun a m b mb => by cases List.mem_singleton.mp mb; exact top a m⟩
  above := fun a m => (List.mem_append.mp m).elim (G.above a) fun q => List.mem_singleton.mp q ▸ hS
  at_ := fun j a e => by
    by_cases q : j < as.length
    · have e : as[j]? = some a := (List.getElem?_append_left q).symm.trans e
      exact kp a _ (G.above a (List.mem_of_getElem? e)) (G.at_ j a e)
    · have l := (List.getElem?_eq_some_iff.mp e).1
      rw [List.length_append, List.length_singleton] at l
      have ej : j = as.length := by omega
      rw [ej, List.getElem?_append_right (Nat.le_refl _), Nat.sub_self] at e
      cases e
      rw [ej]
      exact new
theorem zs_loop (hh : A.handled = none) (ap : ZAp z TI TO its ls) (lo : ZLow z TI TO S its ls) (hl : ls.length = its.length) (hr : rows.length = its.length) (h0 : 0 < its.length) (h9 : its.length ≤ sizeLine) (hm : ∀ r ∈ rows, r.size = m) (hm0 : 0 < m) (hm9 : m ≤ sizeLine) (res : Value)
    (fin : ∀ g tk as, ZEnd S z TO its rows m s.heap g as → R (.ok (.ret res)) { s with heap := g, toks := tk }) :
    ∀ (left i : Nat) (h : Heap) (tk : Nat) (as : List Addr), left + i = m → ZSt h z TI TO S its ls rows i → ZEnd S z TO its rows i s.heap h as → S < h.objs.size →
      codeAny (model prog w) A (.builtin "list.extend.loop" ⟨[.ref S, .ref z, res], []⟩) R { s with heap := h, toks := tk } := by
  have far : ∀ {a : Addr}, S < a → a ≠ z ∧ a ≠ TO ∧ a ∉ its := fun {a} q => ⟨fun e => Nat.lt_asymm q (e ▸ lo.z), fun e => Nat.lt_asymm q (e ▸ lo.TO), fun e => Nat.lt_asymm q (lo.its a e)⟩
  have nS : S ≠ z ∧ S ≠ TO ∧ S ∉ its := ⟨Nat.ne_of_gt lo.z, Nat.ne_of_gt lo.TO, fun e => Nat.lt_irrefl _ (lo.its S e)⟩
  intro left
  induction left with
  | zero =>
    intro i h tk as em st x _
    rw [Nat.zero_add] at em
    subst em
    obtain ⟨acc, c, ea, eS⟩ := x.lst
    refine codeAny_builtin PySem.F.entry_extend_loop (Around.under_plainId PySem.F.plain_extend_loop _ ▸ ?_)
    obtain ⟨q1, q2, ⟨e, _⟩ | ⟨T, oT, f, q4, q5, q6⟩⟩ := st
    · exact absurd hm0 (by rw [e]; decide)
    · exact wpAny_bind (zs_next_end (s := { s with heap := h, toks := tk }) (A := A.in1) hh ap hl hr h0 hm q4 q5 q1 q2 fun g kp => wpAny_pure (fin g tk as
        { old := fun b o c1 c2 c3 c4 e => kp b o c2 c4 (x.old b o c1 c2 c3 c4 e)
          lst := ⟨acc, c, ea, kp S _ nS.1 nS.2.2 eS⟩
          len := x.len
          col := ⟨x.col.rise, x.col.above, fun j a e => kp a _ (far (x.col.above a (List.mem_of_getElem? e))).1 (far (x.col.above a (List.mem_of_getElem? e))).2.2 (x.col.at_ j a e)⟩ }))
  | succ left ih =>
    intro i h tk as em st x hS
    obtain ⟨acc, c, ea, eS⟩ := x.lst
    have en : acc.size = i := by rw [← x.len, ← List.length_map (f := Value.ref), ← ea]; rfl
    refine codeAny_builtin PySem.F.entry_extend_loop (Around.under_plainId PySem.F.plain_extend_loop _ ▸ ?_)
    refine wpAny_bind (zs_one (s := { s with heap := h, toks := tk }) (S := S) ap lo hl hr h0 h9 hm (by omega) hS st fun g st' new sz kp => ?_)
    have new : g.get? h.objs.size = some (TupO (colA rows i)) := new
    have sz : g.objs.size = h.objs.size + 1 := sz
    have kp : ∀ b o, b ≠ z → b ≠ TO → b ∉ its → h.get? b = some o → g.get? b = some o := kp
    have gS := kp S _ nS.1 nS.2.1 nS.2.2 eS
    have off : ∀ b o, b ≠ S → g.get? b = some o → (g.update S (Obj.mapSeq fun xs => xs.push (Value.ref h.objs.size))).get? b = some o := fun b o q e => by rw [Heap.get?_update_other _ _ q.symm, e]
    have top : ∀ a ∈ as, a < h.objs.size := fun a q => by
      obtain ⟨j, e⟩ := List.mem_iff_getElem?.mp q
      exact Heap.lt_size (x.col.at_ j a e)
    have x' : ZEnd S z TO its rows (i + 1) s.heap (g.update S (Obj.mapSeq fun xs => xs.push (Value.ref h.objs.size))) (as ++ [h.objs.size]) :=
      { old := fun b o c1 c2 c3 c4 e => off b o c1 (kp b o c2 c3 c4 (x.old b o c1 c2 c3 c4 e))
        lst := ⟨acc.push (Value.ref h.objs.size), _, by rw [Array.toList_push, ea, List.map_append]; rfl, Heap.get?_update_self _ gS rfl⟩
        len := by rw [List.length_append, x.len]; rfl
        col := x.col.more hS top (fun a o q e => off a o (Nat.ne_of_gt q) (kp a o (far q).1 (far q).2.1 (far q).2.2 e)) (x.len.symm ▸ off _ _ (Nat.ne_of_gt hS) new) }
    show wpAny _ A.in1 (updateSeq S (fun xs => xs.push (Value.ref h.objs.size)) >>= _) _ _ _
    exact wpAny_bind (wpAny_updateSeq gS rfl (wpAny_pure ⟨plainId_quiet PySem.F.plain_extend_loop _, ih (i + 1) _ tk _ (by omega) (st'.keep lo off) x' (by rw [Heap.size_update, sz]; exact Nat.lt_succ_of_lt hS)⟩) (by rw [en]; omega) (by show (acc.push (Value.ref h.objs.size)).size ≤ sizeLine + 1; rw [Array.size_push]; omega))
theorem zip_no_len : typeLookup (.type "zip") "__len__" = pure none := by rw [typeLookup_type, builtinLookup_eq_fast]; kernel_rfl
theorem zip_no_hint : typeLookup (.type "zip") "__length_hint__" = pure none := by rw [typeLookup_type, builtinLookup_eq_fast]; kernel_rfl
/-- a list's items written anew, once -/
theorem seq_put {c : Nat} {xs : Array Value} {F : Array Value → Array Value} {Q : Unit → Shared → Prop} (hS : s.heap.get? S = some { cls := .type "list", data := .seq xs c }) (b1 : xs.size ≤ sizeLine) (b2 : (F xs).size ≤ sizeLine + 1)
    (hQ : ∀ g c', g.get? S = some { cls := .type "list", data := .seq (F xs) c' } → (∀ b o, b ≠ S → s.heap.get? b = some o → g.get? b = some o) → Q () { s with heap := g }) : wpAny (model prog w) A (updateSeq S F) Q E s :=
  wpAny_updateSeq hS rfl (hQ _ _ (Heap.get?_update_self _ hS rfl) fun b o q e => by rw [Heap.get?_update_other _ _ q.symm, e]) (by omega) (by omega)
theorem zs_extend (hh : A.handled = none) (ap : ZAp z TI TO its ls) (lo : ZLow z TI TO S its ls) (hl : ls.length = its.length) (hr : rows.length = its.length) (h0 : 0 < its.length) (h9 : its.length ≤ sizeLine) (hm : ∀ r ∈ rows, r.size = m) (hm0 : 0 < m) (hm9 : m ≤ sizeLine) (res : Value) (c₀ : Nat)
    (hst : ZSt s.heap z TI TO S its ls rows 0) (hz0 : s.heap.get? z = some (ZRec TI TO .none false)) (hS : s.heap.get? S = some { cls := .type "list", data := .seq #[] c₀ })
    (fin : ∀ g tk as, ZEnd S z TO its rows m s.heap g as → R (.ok (.ret res)) { s with heap := g, toks := tk }) :
    wpAny (model prog w) A.in1 (Builtin.List.listExtendWith (.ref S) (.ref z) res)
      (fun r t => match r with
        | .done f => R (.ok f) t
        | .again q => q.quiet = true ∧ codeAny (model prog w) A q R t) (fun e t => R (.error e) t) s := by
  have ty : s.TypeIs (.ref z) "zip" := ⟨_, hz0, rfl⟩
  have same : Builtin.List.listSameRef (.ref S) (.ref z) = false := by simp [Builtin.List.listSameRef, Nat.ne_of_gt lo.z]
  unfold Builtin.List.listExtendWith
  refine wpAny_bind (wpAny_typeOf ty ?_)
  simp only [same, show (Value.type "zip" == Value.type "list") = false by decide, show (Value.type "zip" == Value.type "tuple") = false by decide, Bool.or_false, Bool.false_eq_true, if_false]
  refine wpAny_bind (wpAny_pyIter_zip (show IsZip s.heap z TI TO .none from hz0) (wpAny_bind (wpAny_holding ?_)))
  unfold Builtin.List.listLengthHint
  refine wpAny_bind (wpAny_specialOf ty zip_no_len (wpAny_bind (wpAny_specialOf ty zip_no_hint (wpAny_pure (wpAny_bind (wpAny_rule ?_))))))
  refine wpAny_bind (wpAny_bind (seq_put (F := fun xs => xs.push .none) hS (Nat.zero_le _) (by show 1 ≤ sizeLine + 1; omega) fun g c' gS k1 => seq_put (s := { s with heap := g }) (F := fun xs => xs.pop) gS (by show 1 ≤ sizeLine; decide) (by show 0 ≤ sizeLine + 1; omega) fun g2 c2 gS2 k2 => ?_))
  have k : ∀ b o, b ≠ S → s.heap.get? b = some o → g2.get? b = some o := fun b o q e => k2 b o q (k1 b o q e)
  exact wpAny_pure ⟨plainId_quiet PySem.F.plain_extend_loop _, zs_loop (s := s) hh ap lo hl hr h0 h9 hm hm0 hm9 res fin m 0 g2 s.toks [] (Nat.add_zero _) (hst.keep lo k) ⟨fun b o q _ _ _ e => k b o q e, ⟨_, _, rfl, gS2⟩, rfl, .nil, fun _ q => (by cases q), fun _ _ q => (by cases q)⟩ (Heap.lt_size gS2)⟩
theorem zs_init (hh : A.handled = none) (ap : ZAp z TI TO its ls) (lo : ZLow z TI TO S its ls) (hl : ls.length = its.length) (hr : rows.length = its.length) (h0 : 0 < its.length) (h9 : its.length ≤ sizeLine) (hm : ∀ r ∈ rows, r.size = m) (hm0 : 0 < m) (hm9 : m ≤ sizeLine)
    (hst : ZSt s.heap z TI TO S its ls rows 0) (hz0 : s.heap.get? z = some (ZRec TI TO .none false)) (hS : s.heap.get? S = some { cls := .type "list", data := .seq #[] })
    (fin : ∀ g tk as, ZEnd S z TO its rows m s.heap g as → R (.ok (.ret .none)) { s with heap := g, toks := tk }) :
    wpAny (model prog w) A.in1 (Builtin.«list.__init__» ⟨[.ref S, .ref z], []⟩)
      (fun r t => match r with
        | .done f => R (.ok f) t
        | .again q => q.quiet = true ∧ codeAny (model prog w) A q R t) (fun e t => R (.error e) t) s := by
  show wpAny _ _ (Builtin.List.listItems (.ref S) >>= fun old => Builtin.List.listUpdate (.ref S) (fun _ => #[]) >>= fun _ => letGo old.toList.reverse >>= fun _ => Builtin.List.listExtendWith (.ref S) (.ref z) .none) _ _ s
  refine wpAny_bind ?_
  unfold Builtin.List.listItems
  refine wpAny_bind (wpAny_seqItems hS rfl (wpAny_pure (wpAny_bind (seq_put (F := fun _ => #[]) hS (Nat.zero_le _) (Nat.zero_le _) fun g c gS k => wpAny_bind (wpAny_letGo ?_)))))
  exact zs_extend (s := { s with heap := g }) hh ap lo hl hr h0 h9 hm hm0 hm9 .none c (hst.keep lo k) (k z _ (Nat.ne_of_lt lo.z) hz0) gS fun g' tk as x => fin g' tk as (x.from k)
/-- list(z) -/
theorem zs_list {Q : Value → Shared → Prop} (hh : A.handled = none) (ap : ZAp z TI TO its ls) (hl : ls.length = its.length) (hr : rows.length = its.length) (h0 : 0 < its.length) (h9 : its.length ≤ sizeLine) (hm : ∀ r ∈ rows, r.size = m) (hm0 : 0 < m) (hm9 : m ≤ sizeLine)
    (lo : ZLow z TI TO s.heap.objs.size its ls) (hst : ZSt s.heap z TI TO s.heap.objs.size its ls rows 0) (hz0 : s.heap.get? z = some (ZRec TI TO .none false))
    (hQ : ∀ h' tk acc c as, (∀ b o, b ≠ z → b ≠ TO → b ∉ its → s.heap.get? b = some o → h'.get? b = some o) → h'.get? s.heap.objs.size = some { cls := .type "list", dict := none, data := .seq acc c, slots := #[] } → as.length = m → ZG s.heap.objs.size rows h' as → acc.toList = as.map Value.ref → Q (.ref s.heap.objs.size) { s with heap := h', toks := tk }) :
    wpAny (model prog w) A (call (.type "list") [.ref z]) Q E s := by
  refine callType_codes (Q₁ := fun ob t => ob = .ref s.heap.objs.size ∧ t = { s with heap := s.heap.push { cls := .type "list", data := .seq #[] } }) PySem.F.called_list (PySem.F.typeCall_list_1 _) PySem.F.entry_list_init (code_list_new _ ⟨rfl, rfl⟩) ?_
  rintro _ _ ⟨rfl, rfl⟩
  have k : ∀ b o, s.heap.get? b = some o → (s.heap.push { cls := .type "list", data := .seq #[] }).get? b = some o := fun _ _ e => Heap.get?_push_of_some _ e
  have nw := Heap.get?_push_size s.heap (o := { cls := .type "list", data := .seq #[] }) rfl
  refine ⟨⟨_, nw, rfl⟩, PySem.F.args_list_init_2 _ _, zs_init (S := s.heap.objs.size) (A := A.in1) hh ap lo hl hr h0 h9 hm hm0 hm9 (hst.keep lo fun b o _ => k b o) (k _ _ hz0) nw fun g tk as x => ⟨rfl, ?_⟩⟩
  obtain ⟨acc, c, ea, eS⟩ := x.lst
  exact hQ g tk acc c as (fun b o c1 c2 c3 e => x.old b o (Nat.ne_of_lt (Heap.lt_size e)) c1 c2 c3 (k b o e)) eS x.len x.col ea
end
end RV
end
section
/-! RVZn: zip(..) of one and of four. -/
namespace RV
open PySem PySem.Calls PySem.Spec PyProof.Rows L2 PySem.W
/-- iter(v) where objects have been laid since -/
theorem begun_on {prog : Program} {w : World} {A : Around} {E : Value → Shared → Prop} {Q : Value → Shared → Prop} {v : Value} {o : Obj} {Hq : Heap → Prop} (B : Begins v o Hq) {h h' : Heap} {g : Array GenState} {d : Drawn} {tk : Nat} {os : OsState} (a : Hq h) (old : ∀ b p, h.get? b = some p → h'.get? b = some p)
    (q : Q (.ref h'.objs.size) ⟨h'.push o, g, d, tk, os⟩) : wpAny (model prog w) A (pyIter v) Q E ⟨h', g, d, tk, os⟩ :=
  B.iter prog w A E ⟨h', g, d, tk, os⟩ Q (B.keeps h h' a old) q
abbrev zyT1 (h : Heap) (o1 : Obj) : Heap := (h.push o1).push { cls := .type "tuple", data := .seq #[.ref h.objs.size] }
abbrev zyO1 (h : Heap) (o1 : Obj) : Heap := (zyT1 h o1).push { cls := .type "tuple", data := .seq #[.none] }
abbrev zyZ1 (h : Heap) (o1 : Obj) : Heap := (zyO1 h o1).push { cls := .type "zip", data := .fields #[.none, .bool false, .bool false, .ref (h.push o1).objs.size, .ref (zyT1 h o1).objs.size] }
theorem zyType1 (a1 : Value) : checkTypeCall "zip" ⟨[a1], []⟩ = pure () := by kernel_rfl
theorem zyNew1 (a1 : Value) : checkBuiltinCall "zip.__new__" ⟨[.type "zip", a1], []⟩ = pure () := by kernel_rfl
theorem zyInit1 (obj a1 : Value) : argsOk "object.__init__" ⟨[obj, a1], []⟩ := by unfold argsOk; kernel_rfl
theorem meets_zy1 {v1 : Value} {o1 : Obj} {H1 : Heap → Prop} (B1 : Begins v1 o1 H1) :
    Meets (Builtin.«zip.__new__» ⟨[.type "zip", v1], []⟩) (fun _ R s => (H1 s.heap) ∧
      R (.ok (.ret (.ref (zyO1 s.heap o1).objs.size))) { s with heap := zyZ1 s.heap o1 }) :=
  Meets.of_wp (by
    rintro prog w A R ⟨hp, g, d, tk, os⟩ ⟨h1, fin⟩
    have hsub := sub_zip
    wp_walk using begun_on (h' := hp) B1 h1 (fun _ _ e => e)
    exact ⟨_, rfl, fin⟩)
abbrev zyT4 (h : Heap) (o1 o2 o3 o4 : Obj) : Heap := ((((h.push o1).push o2).push o3).push o4).push { cls := .type "tuple", data := .seq #[.ref h.objs.size, .ref (h.push o1).objs.size, .ref ((h.push o1).push o2).objs.size, .ref (((h.push o1).push o2).push o3).objs.size] }
abbrev zyO4 (h : Heap) (o1 o2 o3 o4 : Obj) : Heap := (zyT4 h o1 o2 o3 o4).push { cls := .type "tuple", data := .seq #[.none, .none, .none, .none] }
abbrev zyZ4 (h : Heap) (o1 o2 o3 o4 : Obj) : Heap := (zyO4 h o1 o2 o3 o4).push { cls := .type "zip", data := .fields #[.none, .bool false, .bool false, .ref ((((h.push o1).push o2).push o3).push o4).objs.size, .ref (zyT4 h o1 o2 o3 o4).objs.size] }
theorem zyType4 (a1 a2 a3 a4 : Value) : checkTypeCall "zip" ⟨[a1, a2, a3, a4], []⟩ = pure () := by kernel_rfl
theorem zyNew4 (a1 a2 a3 a4 : Value) : checkBuiltinCall "zip.__new__" ⟨[.type "zip", a1, a2, a3, a4], []⟩ = pure () := by kernel_rfl
theorem zyInit4 (obj a1 a2 a3 a4 : Value) : argsOk "object.__init__" ⟨[obj, a1, a2, a3, a4], []⟩ := by unfold argsOk; kernel_rfl
theorem meets_zy4 {v1 v2 v3 v4 : Value} {o1 o2 o3 o4 : Obj} {H1 H2 H3 H4 : Heap → Prop} (B1 : Begins v1 o1 H1) (B2 : Begins v2 o2 H2) (B3 : Begins v3 o3 H3) (B4 : Begins v4 o4 H4) :
    Meets (Builtin.«zip.__new__» ⟨[.type "zip", v1, v2, v3, v4], []⟩) (fun _ R s => (H1 s.heap ∧ H2 s.heap ∧ H3 s.heap ∧ H4 s.heap) ∧
      R (.ok (.ret (.ref (zyO4 s.heap o1 o2 o3 o4).objs.size))) { s with heap := zyZ4 s.heap o1 o2 o3 o4 }) :=
  Meets.of_wp (by
    rintro prog w A R ⟨hp, g, d, tk, os⟩ ⟨⟨h1, h2, h3, h4⟩, fin⟩
    have hsub := sub_zip
    wp_walk using begun_on (h' := hp) B1 h1 (fun _ _ e => e), begun_on (h' := (hp.push o1)) B2 h2 (fun _ _ e => (Heap.get?_push_of_some _ e)), begun_on (h' := ((hp.push o1).push o2)) B3 h3 (fun _ _ e => (Heap.get?_push_of_some _ (Heap.get?_push_of_some _ e))), begun_on (h' := (((hp.push o1).push o2).push o3)) B4 h4 (fun _ _ e => (Heap.get?_push_of_some _ (Heap.get?_push_of_some _ (Heap.get?_push_of_some _ e))))
    exact ⟨_, rfl, fin⟩)
end RV
end
section
/-! RVZm: zip(..) of one to four tuples. -/
namespace RV
open PySem PySem.Calls PySem.Spec PyProof.Rows L2 PySem.W
/-- what a zip over tuples begins with -/
def ZBeg (s : Shared) (ls : List Addr) (rows : List (Array Value)) (h' : Heap) (z : Addr) : Prop := ∃ (TI TO : Addr) (its : List Addr), ZAp z TI TO its ls ∧ its.length = ls.length ∧ ZLow z TI TO h'.objs.size its ls ∧ h'.get? z = some (ZRec TI TO .none false) ∧ ZSt h' z TI TO h'.objs.size its ls rows 0 ∧
  (∀ c o, s.heap.get? c = some o → h'.get? c = some o) ∧ s.heap.objs.size ≤ z ∧ s.heap.objs.size ≤ TO ∧ (∀ a ∈ its, s.heap.objs.size ≤ a) ∧ s.heap.objs.size ≤ h'.objs.size
section
variable {prog : Program} {w : World} {A : Around} {E : Value → Shared → Prop} {s : Shared} {ls : List Addr} {rows : List (Array Value)} {Q : Value → Shared → Prop}
abbrev itT (l : Addr) : Obj := { cls := .type "tuple_iterator", data := .fields #[.ref l, .int 0 0] }
/-- the cells lie one behind another -/
theorem zbeg_of {h' : Heap} {n : Nat} (hn : ls.length = n) (h0 : 0 < n) (hls : ∀ (j : Nat) (l : Addr) (row : Array Value), ls[j]? = some l → rows[j]? = some row → s.heap.IsTuple l row) (hll : ∀ l ∈ ls, l < s.heap.objs.size)
    (g1 : ∀ (j : Nat) (l : Addr), ls[j]? = some l → h'.get? (s.heap.objs.size + j) = some (itT l))
    (gT : h'.get? (s.heap.objs.size + n) = some (TupO (((List.range n).map fun j => s.heap.objs.size + j).map Value.ref)))
    (gO : h'.get? (s.heap.objs.size + n + 1) = some { cls := .type "tuple", data := .seq (List.replicate n Value.none).toArray })
    (gZ : h'.get? (s.heap.objs.size + n + 2) = some (ZRec (s.heap.objs.size + n) (s.heap.objs.size + n + 1) .none false)) (hz : h'.objs.size = s.heap.objs.size + n + 3) (hk : ∀ c o, s.heap.get? c = some o → h'.get? c = some o) :
    ZBeg s ls rows h' (s.heap.objs.size + n + 2) := by
  have mem : ∀ {a : Addr}, a ∈ ((List.range n).map fun j => s.heap.objs.size + j) → ∃ j, j < n ∧ a = s.heap.objs.size + j := fun {a} h => by
    obtain ⟨j, hj, e⟩ := List.mem_map.mp h
    exact ⟨j, List.mem_range.mp hj, e.symm⟩
  refine ⟨s.heap.objs.size + n, s.heap.objs.size + n + 1, (List.range n).map fun j => s.heap.objs.size + j, ⟨?_, fun h => ?_, fun h => ?_, fun h => ?_, ?_, ?_, ?_, fun l hl => ⟨fun h => ?_, ?_, ?_, ?_⟩⟩, by simp [hn], ⟨?_, ?_, ?_, fun a h => ?_, fun a h => ?_⟩, gZ, ⟨gT, fun j it l row a1 a2 a3 => ?_, .inl ⟨rfl, gZ, _, ?_, gO⟩⟩, hk, ?_, ?_, fun a h => ?_, ?_⟩
  · exact List.Pairwise.map _ (fun a b hab e => hab (Nat.add_left_cancel e)) List.nodup_range
  · obtain ⟨j, hj, e⟩ := mem h
    have e : s.heap.objs.size + n + 2 = s.heap.objs.size + j := e
    omega
  · obtain ⟨j, hj, e⟩ := mem h
    have e : s.heap.objs.size + n = s.heap.objs.size + j := e
    omega
  · obtain ⟨j, hj, e⟩ := mem h
    have e : s.heap.objs.size + n + 1 = s.heap.objs.size + j := e
    omega
  · show (s.heap.objs.size + n : Nat) ≠ s.heap.objs.size + n + 2
    omega
  · show (s.heap.objs.size + n + 1 : Nat) ≠ s.heap.objs.size + n + 2
    omega
  · show (s.heap.objs.size + n : Nat) ≠ s.heap.objs.size + n + 1
    omega
  · obtain ⟨j, hj, e⟩ := mem h
    have := hll l hl
    rw [e] at this
    exact absurd this (Nat.not_lt.mpr (Nat.le_add_right _ _))
  · exact Nat.ne_of_lt (Nat.lt_of_lt_of_le (hll l hl) (Nat.le_trans (Nat.le_add_right _ n) (Nat.le_add_right _ _)))
  · exact Nat.ne_of_lt (Nat.lt_of_lt_of_le (hll l hl) (Nat.le_trans (Nat.le_add_right _ n) (Nat.le_add_right _ _)))
  · exact Nat.ne_of_lt (Nat.lt_of_lt_of_le (hll l hl) (Nat.le_add_right _ n))
  · rw [hz]
    show (s.heap.objs.size + n + 2 : Nat) < s.heap.objs.size + n + 3
    omega
  · rw [hz]
    show (s.heap.objs.size + n : Nat) < s.heap.objs.size + n + 3
    omega
  · rw [hz]
    show (s.heap.objs.size + n + 1 : Nat) < s.heap.objs.size + n + 3
    omega
  · obtain ⟨j, hj, e⟩ := mem h
    rw [hz, e]
    show (s.heap.objs.size + j : Nat) < s.heap.objs.size + n + 3
    omega
  · rw [hz]
    exact Nat.lt_of_lt_of_le (hll a h) (Nat.le_trans (Nat.le_add_right _ n) (Nat.le_add_right _ _))
  · rw [List.getElem?_map] at a1
    have hj : j < n := by rw [← hn]; exact (List.getElem?_eq_some_iff.mp a2).1
    rw [List.getElem?_range hj] at a1
    have a1 : some (s.heap.objs.size + j) = some it := a1
    cases a1
    exact ⟨itO_iter (k := true) (g1 j l a2), (hls j l row a2 a3).at fun o e => hk l o e⟩
  · simp
  · show (s.heap.objs.size : Nat) ≤ s.heap.objs.size + n + 2
    omega
  · show (s.heap.objs.size : Nat) ≤ s.heap.objs.size + n + 1
    omega
  · obtain ⟨j, hj, e⟩ := mem h
    rw [e]
    show (s.heap.objs.size : Nat) ≤ s.heap.objs.size + j
    omega
  · rw [hz]
    omega
end
end RV
end
section
/-! RVZk: zip(*rows) made. -/
namespace RV
open PySem PySem.Calls PySem.Spec PyProof.Rows L2 PySem.W
section
variable {prog : Program} {w : World} {A : Around} {E : Value → Shared → Prop} {s : Shared} {ls : List Addr} {rows : List (Array Value)} {Q : Value → Shared → Prop}
theorem g1_cons {h' : Heap} {b : Nat} {l : Addr} {r : List Addr} (h : h'.get? b = some (itT l)) (t : ∀ (j : Nat) (x : Addr), r[j]? = some x → h'.get? (b + 1 + j) = some (itT x)) : ∀ (j : Nat) (x : Addr), (l :: r)[j]? = some x → h'.get? (b + j) = some (itT x) := fun j x e => by
  cases j with
  | zero =>
    have e : some l = some x := e
    cases e
    exact h
  | succ j =>
    have := t j x e
    rwa [show b + (j + 1) = b + 1 + j from by omega]
theorem g1_nil {h' : Heap} {b : Nat} : ∀ (j : Nat) (x : Addr), ([] : List Addr)[j]? = some x → h'.get? (b + j) = some (itT x) := fun j x e => by simp at e
theorem zs_make (hr : rows.length = ls.length) (h1 : 1 ≤ ls.length) (h4 : ls.length ≤ 4) (hls : ∀ (j : Nat) (l : Addr) (row : Array Value), ls[j]? = some l → rows[j]? = some row → s.heap.IsTuple l row)
    (h : ∀ h' z, ZBeg s ls rows h' z → Q (.ref z) { s with heap := h' }) : wpAny (model prog w) A (call (.type "zip") (ls.map Value.ref)) Q E s := by
  have hll : ∀ l ∈ ls, l < s.heap.objs.size := fun l hl => by
    obtain ⟨j, hj⟩ := List.mem_iff_getElem?.mp hl
    have hjl : j < rows.length := by rw [hr]; exact (List.getElem?_eq_some_iff.mp hj).1
    obtain ⟨o, ho, _⟩ := hls j l _ hj (List.getElem?_eq_getElem hjl)
    exact Heap.lt_size ho
  match ls, rows, hr, h1, h4, hls, hll, h with
  | [l1], [r1], _, _, _, hls, hll, h =>
    have t1 := hls 0 l1 r1 rfl rfl
    refine callType_new F.called_zip (by decide) (zyType1 _) (zyNew1 _) (fun obj => zyInit1 obj _) F.entry_zip_new (meets_zy1 (begins_tuple l1 r1)) ⟨t1, ?_⟩
    have z1 : (s.heap.push (itT l1)).objs.size = s.heap.objs.size + 1 := by rw [Heap.size_push]
    have zT : (zyT1 s.heap (itT l1)).objs.size = s.heap.objs.size + 2 := by rw [Heap.size_push, z1]
    have zO : (zyO1 s.heap (itT l1)).objs.size = s.heap.objs.size + 3 := by rw [Heap.size_push, zT]
    have zZ : (zyZ1 s.heap (itT l1)).objs.size = s.heap.objs.size + 4 := by rw [Heap.size_push, zO]
    have gZ : (zyZ1 s.heap (itT l1)).get? (zyO1 s.heap (itT l1)).objs.size = some (ZRec (s.heap.push (itT l1)).objs.size (zyT1 s.heap (itT l1)).objs.size .none false) := Heap.get?_push_size _ rfl
    have gO : (zyZ1 s.heap (itT l1)).get? (zyT1 s.heap (itT l1)).objs.size = some { cls := .type "tuple", data := .seq #[.none] } := Heap.get?_push_of_some _ (Heap.get?_push_size _ rfl)
    have gT : (zyZ1 s.heap (itT l1)).get? (s.heap.push (itT l1)).objs.size = some { cls := .type "tuple", data := .seq #[.ref s.heap.objs.size] } := Heap.get?_push_of_some _ (Heap.get?_push_of_some _ (Heap.get?_push_size _ rfl))
    have g1 : (zyZ1 s.heap (itT l1)).get? s.heap.objs.size = some (itT l1) := Heap.get?_push_of_some _ (Heap.get?_push_of_some _ (Heap.get?_push_of_some _ (Heap.get?_push_size _ rfl)))
    rw [zO, zT, z1] at gZ
    rw [zT] at gO
    rw [z1] at gT
    show _ ∧ _
    rw [zO]
    exact ⟨⟨_, gZ, rfl⟩, h _ _ (zbeg_of (n := 1) rfl (by decide) hls hll (g1_cons g1 g1_nil) gT gO gZ zZ fun c o e => Heap.get?_push_of_some _ (Heap.get?_push_of_some _ (Heap.get?_push_of_some _ (Heap.get?_push_of_some _ e))))⟩
  | [l1, l2], [r1, r2], _, _, _, hls, hll, h =>
    exact zip_begins2 (begins_tuple l1 r1) (begins_tuple l2 r2) (hls 0 l1 r1 rfl rfl) (hls 1 l2 r2 rfl rfl) fun h' hz hTI hTO g1 g2 sz hk =>
      h h' _ (zbeg_of (n := 2) rfl (by decide) hls hll (g1_cons g1 (g1_cons g2 g1_nil)) hTI hTO hz sz hk)
  | [l1, l2, l3], [r1, r2, r3], _, _, _, hls, hll, h =>
    exact zip_begins3 (begins_tuple l1 r1) (begins_tuple l2 r2) (begins_tuple l3 r3) (hls 0 l1 r1 rfl rfl) (hls 1 l2 r2 rfl rfl) (hls 2 l3 r3 rfl rfl) fun h' hz hTI hTO g1 g2 g3 sz hk =>
      h h' _ (zbeg_of (n := 3) rfl (by decide) hls hll (g1_cons g1 (g1_cons g2 (g1_cons g3 g1_nil))) hTI hTO hz sz hk)
  | [l1, l2, l3, l4], [r1, r2, r3, r4], _, _, _, hls, hll, h =>
    have t1 := hls 0 l1 r1 rfl rfl
    have t2 := hls 1 l2 r2 rfl rfl
    have t3 := hls 2 l3 r3 rfl rfl
    have t4 := hls 3 l4 r4 rfl rfl
    refine callType_new F.called_zip (by decide) (zyType4 _ _ _ _) (zyNew4 _ _ _ _) (fun obj => zyInit4 obj _ _ _ _) F.entry_zip_new (meets_zy4 (begins_tuple l1 r1) (begins_tuple l2 r2) (begins_tuple l3 r3) (begins_tuple l4 r4)) ⟨⟨t1, t2, t3, t4⟩, ?_⟩
    have z1 : (s.heap.push (itT l1)).objs.size = s.heap.objs.size + 1 := by rw [Heap.size_push]
    have z2 : ((s.heap.push (itT l1)).push (itT l2)).objs.size = s.heap.objs.size + 2 := by rw [Heap.size_push, z1]
    have z3 : (((s.heap.push (itT l1)).push (itT l2)).push (itT l3)).objs.size = s.heap.objs.size + 3 := by rw [Heap.size_push, z2]
    have z4 : ((((s.heap.push (itT l1)).push (itT l2)).push (itT l3)).push (itT l4)).objs.size = s.heap.objs.size + 4 := by rw [Heap.size_push, z3]
    have zT : (zyT4 s.heap (itT l1) (itT l2) (itT l3) (itT l4)).objs.size = s.heap.objs.size + 5 := by rw [Heap.size_push, z4]
    have zO : (zyO4 s.heap (itT l1) (itT l2) (itT l3) (itT l4)).objs.size = s.heap.objs.size + 6 := by rw [Heap.size_push, zT]
    have zZ : (zyZ4 s.heap (itT l1) (itT l2) (itT l3) (itT l4)).objs.size = s.heap.objs.size + 7 := by rw [Heap.size_push, zO]
    have gZ : (zyZ4 s.heap (itT l1) (itT l2) (itT l3) (itT l4)).get? (zyO4 s.heap (itT l1) (itT l2) (itT l3) (itT l4)).objs.size = some (ZRec ((((s.heap.push (itT l1)).push (itT l2)).push (itT l3)).push (itT l4)).objs.size (zyT4 s.heap (itT l1) (itT l2) (itT l3) (itT l4)).objs.size .none false) := Heap.get?_push_size _ rfl
    have gO : (zyZ4 s.heap (itT l1) (itT l2) (itT l3) (itT l4)).get? (zyT4 s.heap (itT l1) (itT l2) (itT l3) (itT l4)).objs.size = some { cls := .type "tuple", data := .seq #[.none, .none, .none, .none] } := Heap.get?_push_of_some _ (Heap.get?_push_size _ rfl)
    have gT : (zyZ4 s.heap (itT l1) (itT l2) (itT l3) (itT l4)).get? ((((s.heap.push (itT l1)).push (itT l2)).push (itT l3)).push (itT l4)).objs.size = some { cls := .type "tuple", data := .seq #[.ref s.heap.objs.size, .ref (s.heap.push (itT l1)).objs.size, .ref ((s.heap.push (itT l1)).push (itT l2)).objs.size, .ref (((s.heap.push (itT l1)).push (itT l2)).push (itT l3)).objs.size] } := Heap.get?_push_of_some _ (Heap.get?_push_of_some _ (Heap.get?_push_size _ rfl))
    have g1 : (zyZ4 s.heap (itT l1) (itT l2) (itT l3) (itT l4)).get? s.heap.objs.size = some (itT l1) := Heap.get?_push_of_some _ (Heap.get?_push_of_some _ (Heap.get?_push_of_some _ (Heap.get?_push_of_some _ (Heap.get?_push_of_some _ (Heap.get?_push_of_some _ (Heap.get?_push_size _ rfl))))))
    have g2 : (zyZ4 s.heap (itT l1) (itT l2) (itT l3) (itT l4)).get? (s.heap.push (itT l1)).objs.size = some (itT l2) := Heap.get?_push_of_some _ (Heap.get?_push_of_some _ (Heap.get?_push_of_some _ (Heap.get?_push_of_some _ (Heap.get?_push_of_some _ (Heap.get?_push_size _ rfl)))))
    have g3 : (zyZ4 s.heap (itT l1) (itT l2) (itT l3) (itT l4)).get? ((s.heap.push (itT l1)).push (itT l2)).objs.size = some (itT l3) := Heap.get?_push_of_some _ (Heap.get?_push_of_some _ (Heap.get?_push_of_some _ (Heap.get?_push_of_some _ (Heap.get?_push_size _ rfl))))
    have g4 : (zyZ4 s.heap (itT l1) (itT l2) (itT l3) (itT l4)).get? (((s.heap.push (itT l1)).push (itT l2)).push (itT l3)).objs.size = some (itT l4) := Heap.get?_push_of_some _ (Heap.get?_push_of_some _ (Heap.get?_push_of_some _ (Heap.get?_push_size _ rfl)))
    rw [zO, zT, z4] at gZ
    rw [zT] at gO
    rw [z4, z3, z2, z1] at gT
    rw [z1] at g2
    rw [z2] at g3
    rw [z3] at g4
    show _ ∧ _
    rw [zO]
    exact ⟨⟨_, gZ, rfl⟩, h _ _ (zbeg_of (n := 4) rfl (by decide) hls hll (g1_cons g1 (g1_cons g2 (g1_cons g3 (g1_cons g4 g1_nil)))) gT gO gZ zZ fun c o e => Heap.get?_push_of_some _ (Heap.get?_push_of_some _ (Heap.get?_push_of_some _ (Heap.get?_push_of_some _ (Heap.get?_push_of_some _ (Heap.get?_push_of_some _ (Heap.get?_push_of_some _ e)))))))⟩
  | [], _, _, h1, _, _, _, _ => exact absurd h1 (by decide)
  | _ :: _ :: _ :: _ :: _ :: _, _, _, _, h4, _, _, _ => exact absurd h4 (by simp)
  | [_], [], hr, _, _, _, _, _ => cases hr
  | [_], _ :: _ :: _, hr, _, _, _, _, _ => simp at hr
  | [_, _], [], hr, _, _, _, _, _ => cases hr
  | [_, _], [_], hr, _, _, _, _, _ => simp at hr
  | [_, _], _ :: _ :: _ :: _, hr, _, _, _, _, _ => simp at hr
  | [_, _, _], [], hr, _, _, _, _, _ => cases hr
  | [_, _, _], [_], hr, _, _, _, _, _ => simp at hr
  | [_, _, _], [_, _], hr, _, _, _, _, _ => simp at hr
  | [_, _, _], _ :: _ :: _ :: _ :: _, hr, _, _, _, _, _ => simp at hr
  | [_, _, _, _], [], hr, _, _, _, _, _ => cases hr
  | [_, _, _, _], [_], hr, _, _, _, _, _ => simp at hr
  | [_, _, _, _], [_, _], hr, _, _, _, _, _ => simp at hr
  | [_, _, _, _], [_, _, _], hr, _, _, _, _, _ => simp at hr
  | [_, _, _, _], _ :: _ :: _ :: _ :: _ :: _, hr, _, _, _, _, _ => simp at hr
end
end RV
end
section
/-! RVZr: list(zip(*rows)) as an expression. -/
namespace RV
open PySem PySem.Calls PySem.Spec PyProof.Rows L2 PySem.W
/-! ### several new objects at once -/
def updL (H : Hp) : List (Addr × HO) → Hp
  | [] => H
  | p :: r => upd (updL H r) p.1 p.2
theorem updL_ne {H : Hp} {b : Addr} : ∀ {ps : List (Addr × HO)}, (∀ p ∈ ps, p.1 ≠ b) → updL H ps b = H b
  | [], _ => rfl
  | p :: r, h => by
    show upd (updL H r) p.1 p.2 b = H b
    rw [upd_ne (Ne.symm (h p (List.mem_cons_self ..)))]
    exact updL_ne fun q hq => h q (List.mem_cons_of_mem _ hq)
theorem updL_get {H : Hp} {a : Addr} {o : HO} : ∀ {ps : List (Addr × HO)}, (ps.map (·.1)).Nodup → (a, o) ∈ ps → updL H ps a = some o
  | [], _, h => by cases h
  | p :: r, nd, h => by
    have nd : (p.1 :: r.map (·.1)).Nodup := nd
    rw [List.nodup_cons] at nd
    show upd (updL H r) p.1 p.2 a = some o
    rcases List.mem_cons.mp h with e | h
    · rw [← e]
      exact upd_same
    · have : a ≠ p.1 := fun z => nd.1 (by rw [← z]; exact List.mem_map.mpr ⟨_, h, rfl⟩)
      rw [upd_ne this]
      exact updL_get nd.2 h
theorem updL_none {H : Hp} {b : Addr} {u : HO} {ps : List (Addr × HO)} (hn : ∀ p ∈ ps, H p.1 = none) (h : H b = some u) : updL H ps b = some u := by
  rw [updL_ne fun p hp z => ?_]
  · exact h
  · have := hn p hp
    rw [z, h] at this
    cases this
theorem Inv.lays {X : Cx} {pins : List (Addr × Obj)} {σ : L2.St} {H : Hp} {s : Shared} {h' : Heap} {t' : Nat} {ps : List (Addr × HO)} (I : Inv X pins σ H s) (k : ∀ b u, s.heap.get? b = some u → h'.get? b = some u) (hp : ∀ p ∈ ps, s.heap.objs.size ≤ p.1) (nd : (ps.map (·.1)).Nodup)
    (new : ∀ p ∈ ps, ObjOk X.prog X.w (updL H ps) h' p.1 p.2) : Inv X pins σ (updL H ps) { s with heap := h', toks := t' } := by
  have hn : ∀ p ∈ ps, H p.1 = none := fun p h => I.hok.fresh (hp p h)
  have lo : ∀ b u, s.heap.get? b = some u → updL H ps b = H b := fun b u e => updL_ne fun p h z => by
    have := hp p h
    rw [z] at this
    exact absurd (Nat.lt_of_lt_of_le (Heap.lt_size e) this) (Nat.lt_irrefl _)
  refine I.un ⟨fun b u q _ _ _ => k b u q, fun b u q _ _ _ => ⟨u.slots, k b u q⟩, fun b u q n _ => by rw [lo b u q]; exact n, fun b u q _ => ⟨u, k b u q⟩, fun b xs q => updL_none hn q, fun b u xs q => updL_none hn q, fun b qs q => ⟨#[], by rw [updL_none hn q]; simp⟩⟩ fun b u e => ?_
  by_cases hb : ∃ p ∈ ps, p.1 = b
  · obtain ⟨p, h1, rfl⟩ := hb
    rw [updL_get nd (show (p.1, p.2) ∈ ps from h1)] at e
    cases e
    exact new p h1
  · rw [updL_ne fun p h z => hb ⟨p, h, z⟩] at e
    exact (I.hok b u e).stay (fun c v _ q => k c v q) (fun c q => updL_none hn q) fun c xs q => updL_none hn q
section
variable {L : Pl} {μ : Mu} {H : Hp} {T : Sto}
theorem Ext.lays (r : RelS L μ H T) : ∀ {ps : List (Addr × HO)}, (∀ p ∈ ps, H p.1 = none) → (ps.map (·.1)).Nodup → Ext μ H μ (updL H ps) ∧ RelS L μ (updL H ps) T
  | [], _, _ => ⟨Ext.refl μ H, r⟩
  | p :: ps, hn, nd => by
    have nd : (p.1 :: ps.map (·.1)).Nodup := nd
    rw [List.nodup_cons] at nd
    obtain ⟨e, rs⟩ := Ext.lays r (ps := ps) (fun q hq => hn q (List.mem_cons_of_mem _ hq)) nd.2
    have h0 : updL H ps p.1 = none := by
      rw [updL_ne fun q hq z => nd.1 (by rw [← z]; exact List.mem_map.mpr ⟨q, hq, rfl⟩)]
      exact hn p (List.mem_cons_self ..)
    exact ⟨e.trans (Ext.laid rs h0), rs.laid h0⟩
end
/-! ### rows -/
section
variable {X : Cx} {L : Pl} {E : XK} {μ : Mu} {H : Hp} {pins : List (Addr × Obj)} {σ : L2.St} {s : Shared}
structure RowsOk (L : Pl) (μ : Mu) (H : Hp) (s : Shared) (rows : List (List PV)) (ys : List V) (ls : List Addr) (zss : List (List V)) (as : List (List Value)) : Prop where
  ys : ys = ls.map V.ref
  ll : ls.length = rows.length
  lz : zss.length = rows.length
  la : as.length = rows.length
  tup : ∀ (j : Nat) (l : Addr) (a : List Value), ls[j]? = some l → as[j]? = some a → s.heap.IsTuple l a.toArray
  rel : ∀ (j : Nat) (r : List PV) (zs : List V) (a : List Value), rows[j]? = some r → zss[j]? = some zs → as[j]? = some a → RelL L μ H r zs ∧ Vals zs a
theorem rows_get (I : Inv X pins σ H s) (hK : X.K = L.K) : ∀ {xs : List PV} {rows : List (List PV)} {ys : List V}, rowsT xs = some rows → RelL L μ H xs ys → ∃ ls zss as, RowsOk L μ H s rows ys ls zss as
  | [], rows, ys, e, h => by
    have e : some ([] : List (List PV)) = some rows := e
    cases e
    have h : ys = [] := h
    exact ⟨[], [], [], h, rfl, rfl, rfl, fun j l a e => by simp at e, fun j r zs a e => by simp at e⟩
  | x :: xs, rows, ys, e, h => by
    cases x with
    | tup r =>
      have e : (rowsT xs).map (r :: ·) = some rows := e
      cases q : rowsT xs with
      | none => rw [q] at e; cases e
      | some rs =>
        rw [q] at e
        have e : some (r :: rs) = some rows := e
        cases e
        obtain ⟨y, ys', rfl, ⟨l, zs, rfl, hs, hr⟩, h2⟩ := h
        obtain ⟨ls, zss, as, k⟩ := rows_get I hK q h2
        obtain ⟨its, v1, v2⟩ := I.tuple (by rw [hK]; exact hs)
        refine ⟨l :: ls, zs :: zss, its :: as, by rw [k.ys]; rfl, by simp [k.ll], by simp [k.lz], by simp [k.la], fun j l' a e1 e2 => ?_, fun j r' zs' a e1 e2 e3 => ?_⟩
        · cases j with
          | zero =>
            have e1 : some l = some l' := e1
            have e2 : some its = some a := e2
            cases e1
            cases e2
            exact show s.heap.IsTuple l its.toArray from v2.1
          | succ j => exact k.tup j l' a e1 e2
        · cases j with
          | zero =>
            have e1 : some r = some r' := e1
            have e2 : some zs = some zs' := e2
            have e3 : some its = some a := e3
            cases e1
            cases e2
            cases e3
            exact ⟨hr, v1⟩
          | succ j => exact k.rel j r' zs' a e1 e2 e3
    | _ => cases e
theorem sameLen_ok {m : Nat} : ∀ {rows : List (List PV)}, sameLen m rows = true → ∀ r ∈ rows, r.length = m
  | [], _, r, h => by cases h
  | x :: xs, e, r, h => by
    have e : (Nat.beq x.length m && sameLen m xs) = true := e
    rw [Bool.and_eq_true] at e
    rcases List.mem_cons.mp h with h | h
    · rw [h]; exact Nat.eq_of_beq_eq_true e.1
    · exact sameLen_ok e.2 r h
/-- the j-th column, three ways -/
theorem col_ok {rows : List (List PV)} {ys : List V} {ls : List Addr} {zss : List (List V)} {as : List (List Value)} (k : RowsOk L μ H s rows ys ls zss as) {m : Nat} (hm : ∀ r ∈ rows, r.length = m) {j : Nat} (hj : j < m) :
    RelL L μ H (colP rows j) (zss.map fun z => z.getD j .non) ∧ Vals (zss.map fun z => z.getD j .non) (colA (as.map List.toArray) j) := by
  have lz := k.lz
  have la := k.la
  have rel := k.rel
  clear k
  induction rows generalizing zss as with
  | nil =>
    cases zss with
    | cons _ _ => cases lz
    | nil =>
      cases as with
      | cons _ _ => cases la
      | nil => exact ⟨rfl, .nil⟩
  | cons r rows ih =>
    cases zss with
    | nil => cases lz
    | cons zs zss =>
      cases as with
      | nil => cases la
      | cons a as =>
        obtain ⟨h1, h2⟩ := rel 0 r zs a rfl rfl rfl
        obtain ⟨i1, i2⟩ := ih (fun r' hr' => hm r' (List.mem_cons_of_mem _ hr')) (by simpa using lz) (by simpa using la) (fun i r' z' a' e1 e2 e3 => rel (i + 1) r' z' a' e1 e2 e3)
        have hl := hm r (List.mem_cons_self ..)
        have e1 : r[j]? = some r[j] := List.getElem?_eq_getElem (by rw [hl]; exact hj)
        obtain ⟨v, e2, hv⟩ := h1.get e1
        obtain ⟨u, e3, hu⟩ := Vals.get h2 e2
        have g1 : r.getD j .non = r[j] := by rw [List.getD_eq_getElem?_getD, e1]; rfl
        have g2 : zs.getD j .non = v := by rw [List.getD_eq_getElem?_getD, e2]; rfl
        have g3 : a.toArray.getD j .none = u := by
          have hja : j < a.length := (List.getElem?_eq_some_iff.mp e3).1
          have : a[j] = u := (List.getElem?_eq_some_iff.mp e3).2
          simp [Array.getD, hja, this]
        refine ⟨⟨v, _, ?_, ?_, i1⟩, ?_⟩
        · show zs.getD j .non :: _ = _
          rw [g2]
        · show RelP L μ H (r.getD j .non) v
          rw [g1]; exact hv
        · show Vals (zs.getD j .non :: zss.map fun z => z.getD j .non) (a.toArray.getD j .none :: colA (as.map List.toArray) j)
          rw [g2, g3]
          exact .cons hu i2
theorem cols_len (rows : List (List PV)) : ∀ (k j : Nat), (colsP rows k j).length = k
  | 0, _ => rfl
  | k + 1, j => by
    show (colsP rows k (j + 1)).length + 1 = k + 1
    rw [cols_len rows k (j + 1)]
theorem cols_rel {rows : List (List PV)} {H' : Hp} {cv : Nat → List V} : ∀ (k j : Nat) (as : List Addr), as.length = k → (∀ (i : Nat) (a : Addr), as[i]? = some a → H' a = some (.tup (cv (j + i))) ∧ RelL L μ H' (colP rows (j + i)) (cv (j + i))) → RelL L μ H' (colsP rows k j) (as.map V.ref)
  | 0, j, as, hl, _ => by
    cases as with
    | nil => rfl
    | cons _ _ => cases hl
  | k + 1, j, as, hl, h => by
    cases as with
    | nil => cases hl
    | cons a as =>
      obtain ⟨h1, h2⟩ := h 0 a rfl
      refine ⟨.ref a, as.map V.ref, rfl, ⟨a, _, rfl, .inl (.inl h1), h2⟩, cols_rel (cv := cv) k (j + 1) as (by simpa using hl) fun i b e => ?_⟩
      have := h (i + 1) b e
      rwa [show j + (i + 1) = j + 1 + i from by omega] at this
theorem refs_eq : ∀ {ls : List Addr} {us : List Value}, Vals (ls.map V.ref) us → us = ls.map Value.ref
  | [], us, h => by
    cases h
    rfl
  | l :: ls, us, h => by
    cases h with
    | cons h1 h2 =>
      have h1 : _ = Value.ref l := h1
      rw [h1, refs_eq h2]
      rfl
theorem e_zipS {a : Expr} {fa : FE} {p p2 p3 p4 pos : Pos} (hK : X.K = L.K) (hc : X.calm = true) (hgl : Gl X "list") (hml : X.mg "list" = none) (hgz : Gl X "zip") (hmz : X.mg "zip" = none) (ha : PE X a (tE L E fa)) :
    PE X (.Call (.Name "list" p) [.Call (.Name "zip" p2) [.Starred a p3] [] p4] [] pos) (tE L E fun B ρ S => (fa B ρ S).bind fun x S => Out.of ((zipF B S x).map .lst) S) := by
  refine ⟨fun pins s σ H Q I h => ?_⟩
  obtain ⟨μ, B, ρ, S, rs, rl, o⟩ := h
  refine wpAny_Call_Name_kw (ld_blt (u := .type "list") I hgl hml (by decide +kernel) ?_)
  refine PyProof.Rows.callWith_type1 (T := "list") ?_ rfl rfl
  show wpAny _ _ (spliced ((false, eval (.Call (.Name "zip" p2) [.Starred a p3] [] p4) X.env) :: [])) _ _ s
  refine Calls.spliced_cons ?_
  refine wpAny_Call_Name_kw (ld_blt (u := .type "zip") I hgz hmz (by decide +kernel) ?_)
  show wpAny _ _ (callWith p4 (.type "zip") [] [(true, (do let v ← eval a X.env; standAt p4; pure v))] []) _ _ s
  refine ks_call (P := fun _ => True) rfl (fun h _ => ⟨.machine, .inr (.inl rfl), Looks.of_pure rfl⟩) (ks_lone ?_)
  refine thn (ha.run pins s σ H (fun y H1 => ∃ μ1 S1 q, RelS L μ1 H1 (B ++ S1) ∧ RelP L μ1 H1 q y ∧ OutOk L E μ1 H1 B (Out.of ((zipF B S1 q).map .lst) S1) (fun r _ μ' H' => ∀ v, RelP L μ' H' r v → Q v H')) I ⟨μ, B, ρ, S, rs, rl, o.bind.imp fun q S1 μ1 H1 e1 rs1 o1 v hv => ⟨μ1, S1, q, rs1, hv, o1⟩⟩) fun v s1 ⟨y, H1, I1, ry, μ1, S1, q, rs1, hq, o1⟩ => ?_
  obtain ⟨r, er, o1⟩ := OutOk.of' o1
  have er : (match seqOf B S1 q with
    | some xs => match rowsT xs with
      | some rows => zipC rows
      | none => none
    | none => none).map PV.lst = some r := er
  cases q1 : seqOf B S1 q with
  | none => rw [q1] at er; cases er
  | some xs =>
    rw [q1] at er
    have er : (match rowsT xs with
      | some rows => zipC rows
      | none => none).map PV.lst = some r := er
    cases q2 : rowsT xs with
    | none => rw [q2] at er; cases er
    | some rows =>
      rw [q2] at er
      have er : (zipC rows).map PV.lst = some r := er
      obtain ⟨ad, ys, ey, hsq, hrl⟩ := seq_sq hK rs1 hq q1
      subst ey
      obtain rfl : v = Value.ref ad := ry
      refine StX.star_any I1 hsq.symm fun us s2 I2 rv => ⟨trivial, ?_⟩
      obtain ⟨ls, zss, as, ok⟩ := rows_get I2 hK q2 hrl
      have eu : us = ls.map Value.ref := refs_eq (by rw [← ok.ys]; exact rv)
      subst eu
      cases rows with
      | nil => cases er
      | cons r0 rows =>
        have er : (match sameLen r0.length (r0 :: rows) && Nat.ble (r0 :: rows).length 4 && Nat.blt 0 r0.length && Nat.ble r0.length szL with
          | true => some (colsP (r0 :: rows) r0.length 0)
          | false => none).map PV.lst = some r := er
        cases qb : (sameLen r0.length (r0 :: rows) && Nat.ble (r0 :: rows).length 4 && Nat.blt 0 r0.length && Nat.ble r0.length szL) with
        | false => rw [qb] at er; cases er
        | true =>
          rw [qb] at er
          have er : some (PV.lst (colsP (r0 :: rows) r0.length 0)) = some r := er
          cases er
          rw [Bool.and_eq_true, Bool.and_eq_true, Bool.and_eq_true] at qb
          obtain ⟨⟨⟨b1, b2⟩, b3⟩, b4⟩ := qb
          have hm := sameLen_ok b1
          have b2 : (r0 :: rows).length ≤ 4 := Nat.le_of_ble_eq_true b2
          have b3 : 0 < r0.length := Nat.le_of_ble_eq_true b3
          have b4 : r0.length ≤ sizeLine := by
            have := Nat.le_of_ble_eq_true b4
            rwa [szL_eq] at this
          have hl4 : ls.length ≤ 4 := by rw [ok.ll]; exact b2
          have hl1 : 1 ≤ ls.length := by rw [ok.ll]; simp
          have hsz : ∀ row ∈ as.map List.toArray, row.size = r0.length := fun row hr => by
            obtain ⟨a', ha', rfl⟩ := List.mem_map.mp hr
            obtain ⟨i, hi⟩ := List.mem_iff_getElem?.mp ha'
            have hil := (List.getElem?_eq_some_iff.mp hi).1
            rw [ok.la] at hil
            have hiz : i < zss.length := by rw [ok.lz]; exact hil
            obtain ⟨g1, g2⟩ := ok.rel i _ _ a' (List.getElem?_eq_getElem hil) (List.getElem?_eq_getElem hiz) hi
            show a'.toArray.size = r0.length
            rw [List.size_toArray, ← g2.length, ← g1.length, hm _ (List.getElem_mem hil)]
          refine zs_make (rows := as.map List.toArray) (by rw [List.length_map, ok.la, ok.ll]) hl1 hl4 (fun j l row e1 e2 => ?_) fun h' z zb => ?_
          · rw [List.getElem?_map] at e2
            cases e3 : as[j]? with
            | none => rw [e3] at e2; cases e2
            | some a' =>
              rw [e3] at e2
              cases e2
              exact ok.tup j l a' e1 e3
          · obtain ⟨TI, TO, its, ap, hil, low, hz0, hst, hk, zz, zO, zi, zs⟩ := zb
            refine Calls.spliced_nil ?_
            have hsl : (4 : Nat) ≤ sizeLine := by decide
            refine zs_list (s := { s2 with heap := h' }) (I.ok.hd hc) ap hil.symm (by rw [List.length_map, ok.la, ← ok.ll, hil]) (by rw [hil]; exact hl1) (by rw [hil]; exact Nat.le_trans hl4 hsl) hsz b3 b4 low hst hz0 fun h2 tk acc c as' hk2 hD hal hG hacc => ?_
            have keep : ∀ b u, s2.heap.get? b = some u → h2.get? b = some u := fun b u e => by
              have hlt := Heap.lt_size e
              refine hk2 b u (fun z' => ?_) (fun z' => ?_) (fun z' => ?_) (hk b u e)
              · rw [z'] at hlt; exact absurd (Nat.lt_of_lt_of_le hlt zz) (Nat.lt_irrefl _)
              · rw [z'] at hlt; exact absurd (Nat.lt_of_lt_of_le hlt zO) (Nat.lt_irrefl _)
              · exact absurd (Nat.lt_of_lt_of_le hlt (zi b z')) (Nat.lt_irrefl _)
            have cv : ∀ j, j < r0.length → _ := fun j hj => col_ok ok hm hj
            have hab : ∀ a ∈ as', h'.objs.size < a := hG.above
            let cV : Nat → List V := fun j => zss.map fun z => z.getD j .non
            let ps : List (Addr × HO) := (h'.objs.size, HO.lst (as'.map V.ref)) :: (as'.zipIdx.map fun q => (q.1, HO.tup (cV q.2)))
            have ix : ∀ {q : Addr × Nat}, q ∈ as'.zipIdx → as'[q.2]? = some q.1 := fun {q} h => by
              have := List.mem_zipIdx_iff_getElem?.mp h
              exact this
            have hps : ∀ p ∈ ps, s2.heap.objs.size ≤ p.1 := fun p hp => by
              rcases List.mem_cons.mp hp with e | hp
              · rw [e]; exact zs
              · obtain ⟨q', hq', e⟩ := List.mem_map.mp hp
                rw [← e]
                exact Nat.le_trans zs (Nat.le_of_lt (hab q'.1 (List.mem_of_getElem? (ix hq'))))
            have mp : (as'.zipIdx.map fun q => (q.1, HO.tup (cV q.2))).map (·.1) = as' := by
              rw [List.map_map]
              show as'.zipIdx.map Prod.fst = as'
              simp
            have nd : (ps.map (·.1)).Nodup := by
              show (h'.objs.size :: (as'.zipIdx.map fun q => (q.1, HO.tup (cV q.2))).map (·.1)).Nodup
              rw [mp, List.nodup_cons]
              exact ⟨fun z' => absurd (hab _ z') (Nat.lt_irrefl _), hG.rise.imp fun z' => Nat.ne_of_lt z'⟩
            have new : ∀ p ∈ ps, ObjOk X.prog X.w (updL H1 ps) h2 p.1 p.2 := fun p hp => by
              rcases List.mem_cons.mp hp with e | hp
              · rw [e]
                refine ⟨by rw [List.length_map, hal]; exact b4, as'.map Value.ref, c, refs_vals as', ?_⟩
                show h2.get? h'.objs.size = _
                rw [hD]
                have : acc = (as'.map Value.ref).toArray := by rw [← hacc]
                rw [this]
              · obtain ⟨q', hq', e⟩ := List.mem_map.mp hp
                rw [← e]
                have hx := ix hq'
                have hj : q'.2 < r0.length := by rw [← hal]; exact (List.getElem?_eq_some_iff.mp hx).1
                refine ⟨?_, _, (cv q'.2 hj).2, _, hG.at_ q'.2 q'.1 hx, rfl, _, rfl⟩
                show (zss.map fun z => z.getD q'.2 .non).length ≤ sizeLine
                rw [List.length_map, ok.lz]
                exact Nat.le_trans b2 hsl
            have I3 := Inv.lays (t' := tk) I2 keep hps nd new
            have hn : ∀ p ∈ ps, H1 p.1 = none := fun p h => I2.hok.fresh (hps p h)
            obtain ⟨ex, rs3⟩ := Ext.lays rs1 hn nd
            have hnD : H1 h'.objs.size = none := hn _ (List.mem_cons_self ..)
            refine ⟨.ref h'.objs.size, updL H1 ps, I3, rfl, o1 μ1 (updL H1 ps) ex rs3 (.ref h'.objs.size) ⟨h'.objs.size, as'.map V.ref, rfl, updL_get nd (List.mem_cons_self ..), ⟨fun n z' => RelS.free rs1 hnD n z', fun z' => (rs1.hid _ z').1 hnD⟩, ?_⟩⟩
            · refine cols_rel (cv := cV) r0.length 0 as' hal fun i b e => ?_
              have hj : i < r0.length := by rw [← hal]; exact (List.getElem?_eq_some_iff.mp e).1
              rw [Nat.zero_add]
              refine ⟨updL_get nd (List.mem_cons_of_mem _ (List.mem_map.mpr ⟨(b, i), List.mem_zipIdx_iff_getElem?.mpr e, rfl⟩)), RelL.mono ex _ _ (cv i hj).1⟩
end
end RV
end
section
/-! RVSc: {elt for .. in .. for .. in ..}, elt a number: the two loops of the block. -/
namespace RV
open PySem PySem.Spec
open PyProof.Rows L2
abbrev scx (elt t0 i0 t1 i1 : Expr) (scope : Scope) (pos : Pos) : Expr := .SetComp elt [⟨t0, i0, [], 0⟩, ⟨t1, i1, [], 0⟩] scope pos
section
variable {prog : Program} {w : World} {A : Around} {s : Shared} {env : Env} {elt t0 i0 t1 i1 : Expr} {scope : Scope} {pos : Pos} {it acc : Value} {R : Result → Shared → Prop}
/-- behind a turn -/
abbrev SFail (prog : Program) (w : World) (A : Around) (env : Env) (R : Result → Shared → Prop) : Value → Shared → Prop := notedBy (model prog w) A env fun e s' => R (.error e) s'
abbrev Less (J : Nat → Shared → Prop) (n : Nat) (s : Shared) : Prop := ∃ m, m < n ∧ J m s
/-- the loop of the first for -/
theorem sc_outer (hs : ∀ x, foldedSetIterable i1 env x = pure x) (J : Nat → Shared → Prop)
    (turn : ∀ n s, J n s → wpAny (model prog w) A (pyNext it) (fun r s1 => (r = none → R (.ok .next) s1) ∧ ∀ v, r = some v →
      wpAny (model prog w) A (letOwnedTupleGo t0 it v) (fun _ s2 => wpAny (model prog w) A (assign t0 env v) (fun _ s3 => wpAny (model prog w) A (eval i1 env) (fun x s4 => wpAny (model prog w) A (pyIter x) (fun jt s5 =>
        codeAny (model prog w) A (.compStart (scx elt t0 i0 t1 i1 scope pos) 1 jt acc env) (fun r s6 => (∃ f, r = .ok f) ∧ Less J n s6) s5)
          (SFail prog w A env R) s4) (SFail prog w A env R) s3) (SFail prog w A env R) s2) (SFail prog w A env R) s1) (SFail prog w A env R) s)
    (n : Nat) (h : J n s) : codeAny (model prog w) A (.compLoop (scx elt t0 i0 t1 i1 scope pos) 0 it acc env) R s := by
  refine codeAny_loop rfl J (fun n s hJ => ?_) n h
  show wpAny _ A ((compTurn (scx elt t0 i0 t1 i1 scope pos) 0 it acc env).onRaise _) _ _ s
  refine wpAny_noted ?_
  show wpAny _ A (standAt i0.pos >>= fun _ => pyNext it >>= _) _ _ s
  have fl : ∀ (e : Value) (s : Shared), SFail prog w A env R e s → SFail prog w A env R e s := fun _ _ z => z
  refine wpAny_bind (wpAny_standAt (wpAny_bind (wpAny_mono (turn n s hJ) (fun r s1 k1 => ?_) fl)))
  cases r with
  | none => exact wpAny_pure (k1.1 rfl)
  | some v =>
    refine wpAny_bind (wpAny_mono (k1.2 v rfl) (fun _ s2 k2 => wpAny_bind (wpAny_mono k2 (fun _ s3 k3 => wpAny_bind (wpAny_pure ?_)) fl)) fl)
    refine wpAny_bind (wpAny_mono k3 (fun x s4 k4 => wpAny_bind (wpAny_standAt (wpAny_bind (wpAny_of_eq (hs x) (wpAny_bind (wpAny_holding (wpAny_mono k4 (fun jt s5 k5 => ?_) fl))))))) fl)
    refine wpAny_bind (wpAny_runOwn ?_)
    rw [Around.mark_none]
    refine codeAny_mono k5 fun r s6 k6 => ?_
    obtain ⟨⟨f, ef⟩, k6⟩ := k6
    subst ef
    exact wpAny_pure ⟨rfl, k6⟩
/-- the loop of the second for -/
theorem sc_inner (J : Nat → Shared → Prop)
    (turn : ∀ n s, J n s → wpAny (model prog w) A (pyNext it) (fun r s1 => (r = none → R (.ok .next) s1) ∧ ∀ v, r = some v →
      wpAny (model prog w) A (letOwnedTupleGo t1 it v) (fun _ s2 => wpAny (model prog w) A (assign t1 env v) (fun _ s3 => wpAny (model prog w) A (eval elt env) (fun x s4 =>
        wpAny (model prog w) A (call (.builtin "set.add") [acc, x]) (fun _ s5 => Less J n s5)
          (SFail prog w A env R) s4) (SFail prog w A env R) s3) (SFail prog w A env R) s2) (SFail prog w A env R) s1) (SFail prog w A env R) s)
    (n : Nat) (h : J n s) : codeAny (model prog w) A (.compLoop (scx elt t0 i0 t1 i1 scope pos) 1 it acc env) R s := by
  refine codeAny_loop rfl J (fun n s hJ => ?_) n h
  show wpAny _ A ((compTurn (scx elt t0 i0 t1 i1 scope pos) 1 it acc env).onRaise _) _ _ s
  refine wpAny_noted ?_
  show wpAny _ A (standAt i1.pos >>= fun _ => pyNext it >>= _) _ _ s
  have fl : ∀ (e : Value) (s : Shared), SFail prog w A env R e s → SFail prog w A env R e s := fun _ _ z => z
  refine wpAny_bind (wpAny_standAt (wpAny_bind (wpAny_mono (turn n s hJ) (fun r s1 k1 => ?_) fl)))
  cases r with
  | none => exact wpAny_pure (k1.1 rfl)
  | some v =>
    refine wpAny_bind (wpAny_mono (k1.2 v rfl) (fun _ s2 k2 => wpAny_bind (wpAny_mono k2 (fun _ s3 k3 => wpAny_bind (wpAny_pure ?_)) fl)) fl)
    refine wpAny_bind (wpAny_bind (wpAny_mono k3 (fun x s4 k4 => wpAny_bind (wpAny_standAt (wpAny_bind (wpAny_mono k4 (fun _ s5 k5 => wpAny_pure ?_) fl)))) fl))
    exact wpAny_pure ⟨rfl, k5⟩
/-- each loop's start: the iterator stands already -/
theorem sc_start {c : Nat} (h0 : codeAny (model prog w) A (.compLoop (scx elt t0 i0 t1 i1 scope pos) c it acc env) R s) (hc : c = 0 ∨ c = 1)
    (h : wpAny (model prog w) A (pyIter it) (fun jt s' => codeAny (model prog w) A (.compLoop (scx elt t0 i0 t1 i1 scope pos) c jt acc env) R s') (SFail prog w A env R) s) :
    codeAny (model prog w) A (.compStart (scx elt t0 i0 t1 i1 scope pos) c it acc env) R s := by
  refine codeAny_of_tree ?_
  show wpAny _ _ ((compStart (scx elt t0 i0 t1 i1 scope pos) c it acc env).onRaise _) _ _ s
  refine wpAny_notedAt ?_
  rcases hc with rfl | rfl <;>
  · unfold compStart
    show wpAny _ _ (ask >>= _) _ _ s
    refine wpAny_bind (wpAny_askSetting (wpAny_ite ?_))
    split
    · exact wpAny_pure ⟨rfl, h0⟩
    · refine wpAny_bind (wpAny_rule ?_)
      refine wpAny_bind (wpAny_standAt (wpAny_bind (wpAny_mono h (fun jt s' k => wpAny_pure ⟨rfl, k⟩) fun _ _ z => z)))
end
end RV
end
section
/-! RVSr: sorted({elt for .. for ..}) by values. -/
namespace RV
open PySem PySem.Spec
open PyProof.Rows L2
/-! ### the plain side -/
theorem mem_insI {x z : Int} : ∀ {l : List Int}, z ∈ insI x l ↔ z = x ∨ z ∈ l
  | [] => by simp [insI]
  | y :: r => by
    show z ∈ (match decide (x ≤ y) with
      | true => x :: y :: r
      | false => y :: insI x r) ↔ _
    cases decide (x ≤ y) with
    | true => exact List.mem_cons
    | false =>
      show z ∈ y :: insI x r ↔ _
      rw [List.mem_cons, mem_insI, List.mem_cons]
      constructor
      · rintro (h | h | h)
        · exact .inr (.inl h)
        · exact .inl h
        · exact .inr (.inr h)
      · rintro (h | h | h)
        · exact .inr (.inl h)
        · exact .inl h
        · exact .inr (.inr h)
theorem insI_lt {x : Int} : ∀ {l : List Int}, l.Pairwise (· < ·) → x ∉ l → (insI x l).Pairwise (· < ·)
  | [], _, _ => List.pairwise_singleton _ _
  | y :: r, h, hx => by
    have hc := List.pairwise_cons.mp h
    have hxy : x ≠ y := fun e => hx (by rw [e]; exact List.mem_cons_self ..)
    show List.Pairwise (· < ·) (match decide (x ≤ y) with
      | true => x :: y :: r
      | false => y :: insI x r)
    cases q : decide (x ≤ y) with
    | true =>
      have q : x ≤ y := of_decide_eq_true q
      refine List.pairwise_cons.mpr ⟨fun z hz => ?_, h⟩
      rcases List.mem_cons.mp hz with e | hz
      · rw [e]; omega
      · have := hc.1 z hz; omega
    | false =>
      have q : ¬ x ≤ y := of_decide_eq_false q
      refine List.pairwise_cons.mpr ⟨fun z hz => ?_, insI_lt hc.2 fun e => hx (List.mem_cons_of_mem _ e)⟩
      rcases mem_insI.mp hz with e | hz
      · rw [e]; omega
      · exact hc.1 z hz
theorem sortI_ok : ∀ {l : List Int}, l.Nodup → (sortI l).Pairwise (· < ·) ∧ ∀ z, z ∈ sortI l ↔ z ∈ l
  | [], _ => ⟨List.Pairwise.nil, fun z => Iff.rfl⟩
  | x :: r, h => by
    have hc := List.nodup_cons.mp h
    obtain ⟨h1, h2⟩ := sortI_ok hc.2
    refine ⟨insI_lt h1 fun e => hc.1 ((h2 x).mp e), fun z => ?_⟩
    show z ∈ insI x (sortI r) ↔ _
    rw [mem_insI, h2, List.mem_cons]
/-- one ascending list alone has these numbers -/
theorem asc_eq : ∀ {a b : List Int}, a.Pairwise (· < ·) → b.Pairwise (· < ·) → (∀ z, z ∈ a ↔ z ∈ b) → a = b
  | [], [], _, _, _ => rfl
  | [], y :: b, _, _, h => by
    have := (h y).mpr (List.mem_cons_self ..)
    cases this
  | x :: a, [], _, _, h => by
    have := (h x).mp (List.mem_cons_self ..)
    cases this
  | x :: a, y :: b, h1, h2, h => by
    have c1 := List.pairwise_cons.mp h1
    have c2 := List.pairwise_cons.mp h2
    have exy : x = y := by
      rcases List.mem_cons.mp ((h x).mp (List.mem_cons_self ..)) with e | e
      · exact e
      · rcases List.mem_cons.mp ((h y).mpr (List.mem_cons_self ..)) with e' | e'
        · exact e'.symm
        · have := c2.1 x e
          have := c1.1 y e'
          omega
    subst exy
    rw [asc_eq c1.2 c2.2 fun z => ⟨fun hz => ?_, fun hz => ?_⟩]
    · rcases List.mem_cons.mp ((h z).mp (List.mem_cons_of_mem _ hz)) with e | e
      · have := c1.1 z hz; omega
      · exact e
    · rcases List.mem_cons.mp ((h z).mpr (List.mem_cons_of_mem _ hz)) with e | e
      · have := c2.1 z hz; omega
      · exact e
theorem memI_iff {l : List Int} {k : Int} : memI l k = true ↔ k ∈ l := by
  unfold memI
  rw [List.any_eq_true]
  constructor
  · rintro ⟨j, hj, e⟩
    rw [← of_decide_eq_true e]
    exact hj
  · exact fun h => ⟨k, h, decide_eq_true rfl⟩
/-- what is gathered, as the heap has it -/
def SI (w : World) (D : Addr) (acc : List Int) : HO := SetO w D (memI acc) acc.length
theorem SI_add {w : World} {D : Addr} {acc : List Int} {i : Int} : SetO w D (fun j => memI acc j || decide (j = i)) (if memI acc i = true then acc.length else acc.length + 1) = (match memI acc i with
    | true => SI w D acc
    | false => SI w D (i :: acc)) := by
  cases q : memI acc i with
  | true =>
    have : (fun j => memI acc j || decide (j = i)) = memI acc := by
      funext j
      by_cases e : j = i
      · rw [e, q]; rfl
      · rw [decide_eq_false e, Bool.or_false]
    rw [this, if_pos rfl]
    rfl
  | false =>
    have : (fun j => memI acc j || decide (j = i)) = memI (i :: acc) := by
      funext j
      show _ = (decide (i = j) || memI acc j)
      rw [Bool.or_comm]
      by_cases e : j = i
      · rw [decide_eq_true e, decide_eq_true e.symm]
      · rw [decide_eq_false e, decide_eq_false (Ne.symm e)]
    rw [this, if_neg (by simp)]
    rfl
/-! ### the reading -/
def tSs (w : World) (wi : TI) (g : TG) (wi1 : TI) (g1 : TG) (te : TE) (vs vs1 : List Nat) : TE := fun σ H Q => wi σ H fun J H1 => ∀ D, H1 D = none → ∃ W : Nat → Nat → Hp → Prop, (∃ m, W 0 m (upd H1 D (SI w D []))) ∧ ∀ i m H2, W i m H2 →
  (J.stop i H2 ∧ Q (.ref D) H2) ∨ (J.go i H2 ∧ ∃ Nx : Hp → Prop, (∀ H', Nx H' → ∃ m', m' < m ∧ W (i + 1) m' H') ∧ ∀ x H3, J.yld i H2 x H3 → g x (wipe σ vs) H3 fun σ2 H4 => wipe σ2 vs = wipe σ vs ∧
    wi1 σ2 H4 fun J1 H5 => ∃ W1 : Nat → Nat → Hp → Prop, (∃ k, W1 0 k H5) ∧ ∀ j k H6, W1 j k H6 →
      (J1.stop j H6 ∧ Nx H6) ∨ (J1.go j H6 ∧ ∃ Ny : Hp → Prop, (∀ H', Ny H' → ∃ k', k' < k ∧ W1 (j + 1) k' H') ∧ ∀ x H7, J1.yld j H6 x H7 → g1 x (wipe σ2 vs1) H7 fun σ3 H8 => wipe σ3 vs1 = wipe σ2 vs1 ∧
        te σ3 H8 fun y H9 => ∃ (c : Int) (acc : List Int), y = .int c ∧ H9 D = some (SI w D acc) ∧ acc.length + 1 < scanBound ∧ Ny (upd H9 D (match memI acc c with
          | true => SI w D acc
          | false => SI w D (c :: acc)))))
theorem rel_nums {L : Pl} {μ : Mu} {H : Hp} : ∀ ns : List Int, RelL L μ H (ns.map .int) (ns.map V.int)
  | [] => rfl
  | n :: ns => ⟨.int n, ns.map V.int, rfl, rfl, rel_nums ns⟩
/-! ### the plain turns -/
def turnA (t : IE) (vs : List Nat) (fe : FE) (B : Sto) (ρ : Loc) (x : PV) (acc : List Int) (S : Sto) : Out (List Int) := match tgt t x (wipeL ρ vs) with
  | some ρ' => (fe B ρ' S).bindF fun v S => addI v acc S
  | none => .fail
def turnA2 (t t1 : IE) (vs vs1 : List Nat) (fi1 fe : FE) (B : Sto) (ρ : Loc) (x : PV) (acc : List Int) (S : Sto) : Out (List Int) := match tgt t x (wipeL ρ vs) with
  | some ρ' => (fi1 B ρ' S).bindF fun src1 S => loop B never (turnA t1 vs1 fe B ρ') src1 acc S
  | none => .fail
def srtF (t t1 : IE) (vs vs1 : List Nat) (fi fi1 fe : FE) : FE := fun B ρ S => (fi B ρ S).bind fun src S => (loop B never (turnA2 t t1 vs vs1 fi1 fe B ρ) src [] S).bindF fun acc S => .ok (listI acc) S
section
variable {X : Cx} {L : Pl} {E : XK}
/-- between turns: the set at D has what was gathered -/
structure SS (L : Pl) (w : World) (B : Sto) (D : Addr) (μ1 : Mu) (H1 : Hp) (μ0 : Mu) (H0 : Hp) (μ : Mu) (H : Hp) (S : Sto) (acc : List Int) : Prop where
  e : Ext μ1 H1 μ H
  f : Ex0 μ0 H0 μ H
  rs : RelS L μ H (B ++ S)
  hd : μ.hd D
  at_ : H D = some (SI w D acc)
  nd : acc.Nodup
  le : acc.length ≤ 60
section
variable {w : World} {B S : Sto} {D : Addr} {μ1 μ0 μ μ' : Mu} {H1 H0 H H' : Hp} {acc : List Int}
/-- later, the set untouched -/
theorem SS.on (k : SS L w B D μ1 H1 μ0 H0 μ H S acc) {S' : Sto} (e : Ext μ H μ' H') (rs : RelS L μ' H' (B ++ S')) : SS L w B D μ1 H1 μ0 H0 μ' H' S' acc :=
  ⟨k.e.trans e, k.f.trans e.ex0, rs, e.hd1 D k.hd, e.keep _ _ k.at_ (k.rs.hid D k.hd).2, k.nd, k.le⟩
theorem si_loose (h : H D = some (SI w D acc)) : Loose H D := ⟨fun ys z => (by rw [h] at z; cases z), fun b u z => (by rw [h] at z; cases z)⟩
theorem addI_ok {v : PV} {R : List Int → Sto → Mu → Hp → Prop} (nd : acc.Nodup) (le : acc.length ≤ 60) (o : OutOk L E μ1 H1 B (addI v acc S) R) :
    ∃ (c : Int) (acc' : List Int), v = .int c ∧ acc'.Nodup ∧ acc'.length ≤ 60 ∧ (∀ (w : World) (D : Addr), (match memI acc c with
      | true => SI w D acc
      | false => SI w D (c :: acc)) = SI w D acc') ∧ OutOk L E μ1 H1 B (.ok acc' S) R := by
  cases v with
  | int c =>
    have o : OutOk L E μ1 H1 B (match memI acc c with
      | true => .ok acc S
      | false => match Nat.blt acc.length 60 with
        | true => .ok (c :: acc) S
        | false => .fail) R := o
    cases q : memI acc c with
    | true =>
      rw [q] at o
      exact ⟨c, acc, rfl, nd, le, fun w D => by rw [q], o⟩
    | false =>
      rw [q] at o
      have o : OutOk L E μ1 H1 B (match Nat.blt acc.length 60 with
        | true => .ok (c :: acc) S
        | false => .fail) R := o
      cases q2 : Nat.blt acc.length 60 with
      | false => rw [q2] at o; exact False.elim o
      | true =>
        rw [q2] at o
        have h60 : acc.length < 60 := Nat.le_of_ble_eq_true q2
        refine ⟨c, c :: acc, rfl, List.nodup_cons.mpr ⟨fun z => ?_, nd⟩, h60, fun w D => by rw [q], o⟩
        rw [memI_iff.mpr z] at q
        cases q
  | _ => exact False.elim o
/-- a number is put -/
theorem SS.put (k : SS L w B D μ1 H1 μ0 H0 μ H S acc) (hD : H1 D = none) (h0 : μ0.hd D) (hl : Loose H0 D) {acc' : List Int} (nd : acc'.Nodup) (le : acc'.length ≤ 60) : SS L w B D μ1 H1 μ0 H0 μ (upd H D (SI w D acc')) S acc' :=
  ⟨k.e.over hD, k.f.over h0 hl, k.rs.over k.hd (si_loose k.at_), k.hd, upd_same, nd, le⟩
end
/-- the turns of the second for, from any state on -/
theorem set_loop {w : World} {t : IE} {vs : List Nat} {fe : FE} (htv : ∀ i ∈ tv t, i ∈ vs) {μ1 μ0 : Mu} {H1 H0 : Hp} {B S0 : Sto} {ρ : Loc} {σ : L2.St} {src : PV} {J : It} {D : Addr} {acc0 : List Int} {fin : List Int → Sto → Prop} {Stop : Hp → Prop}
    (hD : H1 D = none) (k0 : SS L w B D μ1 H1 μ0 H0 μ0 H0 S0 acc0) (rl : RelR L μ0 H0 ρ σ) (hJ : ItOk L μ0 H0 B src J)
    (o : OutOk L E0 μ1 H1 B (loop B never (turnA t vs fe B ρ) src acc0 S0) (fun ys S _ _ => fin ys S))
    (hstop : ∀ μ' S' acc H', SS L w B D μ1 H1 μ0 H0 μ' H' S' acc → fin acc S' → Stop H') :
    ∃ W : Nat → Nat → Hp → Prop, (∃ m, W 0 m H0) ∧ ∀ i m H, W i m H → (J.stop i H ∧ Stop H) ∨ (J.go i H ∧ ∃ Ny : Hp → Prop, (∀ H', Ny H' → ∃ m', m' < m ∧ W (i + 1) m' H') ∧ ∀ x H', J.yld i H x H' → gT L t x (wipe σ vs) H' fun σ2 H2 => wipe σ2 vs = wipe σ vs ∧
      tE L E0 fe σ2 H2 fun y H3 => ∃ (c : Int) (acc : List Int), y = .int c ∧ H3 D = some (SI w D acc) ∧ acc.length + 1 < scanBound ∧ Ny (upd H3 D (match memI acc c with
        | true => SI w D acc
        | false => SI w D (c :: acc)))) := by
  rw [loop_G] at o
  cases hq : seqOf B S0 src with
  | none => rw [hq] at o; exact False.elim o
  | some xs =>
    rw [hq] at o
    have lo0 : Loose H0 D := si_loose k0.at_
    let go := fun m => loopG (fun i S => itemAt B S src i) never (turnA t vs fe B ρ) m
    let St := fun (i m : Nat) (H : Hp) => ∃ μ S acc, Past B src i ∧ SS L w B D μ1 H1 μ0 H0 μ H S acc ∧ OutOk L E0 μ1 H1 B (go m i acc S) (fun ys S _ _ => fin ys S)
    refine ⟨St, ⟨xs.length + 1, μ0, S0, acc0, Past.zero, k0, o⟩, fun i m H st => ?_⟩
    obtain ⟨μ, S, acc, past, k, o⟩ := st
    cases m with
    | zero => exact False.elim o
    | succ m =>
      have o : OutOk L E0 μ1 H1 B (stepG never (turnA t vs fe B ρ) acc S (go m (i + 1)) (itemAt B S src i)) (fun ys S _ _ => fin ys S) := o
      cases hit : itemAt B S src i with
      | none => rw [hit] at o; exact False.elim o
      | some it =>
        rw [hit] at o
        cases it with
        | none =>
          have o3 : ∀ μ' H', Ext μ1 H1 μ' H' → RelS L μ' H' (B ++ S) → fin acc S := o
          exact .inl ⟨hJ.stop μ H S i k.f k.rs past hit, hstop μ S acc H k (o3 μ H k.e k.rs)⟩
        | some p =>
          obtain ⟨hgo, hy⟩ := hJ.go μ H S i p k.f k.rs hit
          refine .inr ⟨hgo, St (i + 1) m, fun H' st => ⟨m, Nat.lt_succ_self _, st⟩, fun x H' hyl => ?_⟩
          obtain ⟨e3, rs3, hx⟩ := hy x H' hyl
          have k3 := k.on e3 rs3
          have o3 := OutOk.afterT (show OutOk L E0 μ1 H1 B (RV.afterT never (go m (i + 1)) (turnA t vs fe B ρ p acc S)) _ from o)
          have un : turnA t vs fe B ρ p acc S = (match tgt t p (wipeL ρ vs) with
            | some ρ' => (fe B ρ' S).bindF fun v S => addI v acc S
            | none => .fail) := rfl
          rw [un] at o3
          cases ht : tgt t p (wipeL ρ vs) with
          | none => rw [ht] at o3; exact False.elim o3
          | some ρ3 =>
            rw [ht] at o3
            refine ⟨μ, wipeL ρ vs, p, ρ3, (rl.mono0 k3.f).wipe vs, hx, ht, fun σ3 rl3 same => ⟨?_, ?_⟩⟩
            · refine wipe_same (ts := tv t) ?_ (fun j hj => same j hj) htv
              rw [← rl3.len, ← rl.len, ← wipeL_length ρ vs]
              exact tgt_len ht
            · refine ⟨μ, B, ρ3, S, rs3, rl3, (OutOk.shift k3.e (OutOk.bindF0 (show OutOk L E0 μ1 H1 B ((fe B ρ3 S).bindF fun v S => addI v acc S) _ from o3))).imp fun v S4 μ4 H4 e4 rs4 o4 y hv => ?_⟩
              have k4 := k3.on e4 rs4
              obtain ⟨c, acc', ev, nd', le', eq', o5⟩ := addI_ok k4.nd k4.le o4
              subst ev
              have hv : y = .int c := hv
              have k5 := k4.put hD k0.hd lo0 nd' le'
              refine ⟨c, acc, hv, k4.at_, by have := k4.le; unfold scanBound; omega, ?_⟩
              rw [eq' w D]
              have o6 : ∀ μ' H', Ext μ1 H1 μ' H' → RelS L μ' H' (B ++ S4) → OutOk L E0 μ1 H1 B (go m (i + 1) acc' S4) (fun ys S _ _ => fin ys S) := o5
              exact ⟨μ4, S4, acc', past.succ hit, k5, o6 μ4 _ k5.e k5.rs⟩
theorem srt_read {w : World} {t t1 : IE} {vs vs1 : List Nat} {fi fi1 fe : FE} (htv : ∀ i ∈ tv t, i ∈ vs) (htv1 : ∀ i ∈ tv t1, i ∈ vs1) (σ : L2.St) (H : Hp) (Q : VK) (h : tE L E (srtF t t1 vs vs1 fi fi1 fe) σ H Q) :
    tSs w (tI L E fi) (gT L t) (tI L E0 fi1) (gT L t1) (tE L E0 fe) vs vs1 σ H fun x H' => rSortedSet w [x] H' Q := by
  obtain ⟨μ, B, ρ, S, rs, rl, o⟩ := h
  refine ⟨μ, B, ρ, S, rs, rl, OutOk.imp (OutOk.bind (show OutOk L E μ H B ((fi B ρ S).bind fun src S => (loop B never (turnA2 t t1 vs vs1 fi1 fe B ρ) src [] S).bindF fun acc S => .ok (listI acc) S) _ from o)) fun src S1 μ1 H1 e1 rs1 o1 => ?_⟩
  have o1 := OutOk.bindF0 o1
  rw [loop_G] at o1
  cases hq : seqOf B S1 src with
  | none => rw [hq] at o1; exact False.elim o1
  | some xs =>
    rw [hq] at o1
    let fin := fun (acc : List Int) (S : Sto) => OutOk L E μ1 H1 B (.ok (listI acc) S) (fun r _ μ' H' => ∀ v, RelP L μ' H' r v → Q v H')
    let go := fun m => loopG (fun i S => itemAt B S src i) never (turnA2 t t1 vs vs1 fi1 fe B ρ) m
    refine ⟨⟨xs, rfl⟩, fun J hJ D hD => ?_⟩
    have eh := Ext.hide (o := SI w D []) rs1 hD
    have k0 : SS L w B D μ1 H1 (μ1.hide D) (upd H1 D (SI w D [])) (μ1.hide D) (upd H1 D (SI w D [])) S1 [] := ⟨eh, (Ext.refl _ _).ex0, rs1.hide hD, .inl rfl, upd_same, List.nodup_nil, Nat.zero_le _⟩
    have rl0 := (rl.mono e1).mono eh
    have hJ0 := hJ.mono eh.ex0
    let St := fun (i m : Nat) (H : Hp) => ∃ μ S acc, Past B src i ∧ SS L w B D μ1 H1 (μ1.hide D) (upd H1 D (SI w D [])) μ H S acc ∧ OutOk L E0 μ1 H1 B (go m i acc S) (fun ys S _ _ => fin ys S)
    refine ⟨St, ⟨xs.length + 1, μ1.hide D, S1, [], Past.zero, k0, o1⟩, fun i m H2 st => ?_⟩
    obtain ⟨μ2, S2, acc, past, k, o2⟩ := st
    cases m with
    | zero => exact False.elim o2
    | succ m =>
      have o2 : OutOk L E0 μ1 H1 B (stepG never (turnA2 t t1 vs vs1 fi1 fe B ρ) acc S2 (go m (i + 1)) (itemAt B S2 src i)) (fun ys S _ _ => fin ys S) := o2
      cases hit : itemAt B S2 src i with
      | none => rw [hit] at o2; exact False.elim o2
      | some it =>
        rw [hit] at o2
        cases it with
        | none =>
          have o3 : ∀ μ' H', Ext μ1 H1 μ' H' → RelS L μ' H' (B ++ S2) → fin acc S2 := o2
          refine .inl ⟨hJ0.stop μ2 H2 S2 i k.f k.rs past hit, D, memI acc, acc.length, rfl, k.at_, by have := k.le; omega, fun ns p h1 h2 h3 hp => ?_⟩
          have en : ns = sortI acc := by
            obtain ⟨g1, g2⟩ := sortI_ok k.nd
            exact asc_eq h1 g1 fun z => by rw [h2 z, memI_iff, g2]
          have o4 : ∀ μ' H', Ext μ1 H1 μ' H' → RelS L μ' H' (B ++ S2) → ∀ v, RelP L μ' H' (listI acc) v → Q v H' := o3 μ2 H2 k.e k.rs
          -- what was hidden is nobody's any more
          have e5 := Ext.laid (o := .lst (ns.map V.int)) k.rs hp
          have rs5 := k.rs.laid (o := .lst (ns.map V.int)) hp
          refine o4 μ2 _ (k.e.trans e5) rs5 (.ref p) ⟨p, ns.map V.int, rfl, upd_same, ⟨fun n z => RelS.free k.rs hp n z, fun z => (k.rs.hid p z).1 hp⟩, ?_⟩
          rw [en]
          exact rel_nums _
        | some p =>
          obtain ⟨hgo, hy⟩ := hJ0.go μ2 H2 S2 i p k.f k.rs hit
          refine .inr ⟨hgo, St (i + 1) m, fun H' st => ⟨m, Nat.lt_succ_self _, st⟩, fun x H3 hyl => ?_⟩
          obtain ⟨e3, rs3, hx⟩ := hy x H3 hyl
          have k3 := k.on e3 rs3
          have o3 := OutOk.afterT (show OutOk L E0 μ1 H1 B (RV.afterT never (go m (i + 1)) (turnA2 t t1 vs vs1 fi1 fe B ρ p acc S2)) _ from o2)
          have un : turnA2 t t1 vs vs1 fi1 fe B ρ p acc S2 = (match tgt t p (wipeL ρ vs) with
            | some ρ' => (fi1 B ρ' S2).bindF fun src1 S => loop B never (turnA t1 vs1 fe B ρ') src1 acc S
            | none => .fail) := rfl
          rw [un] at o3
          cases ht : tgt t p (wipeL ρ vs) with
          | none => rw [ht] at o3; exact False.elim o3
          | some ρ3 =>
            rw [ht] at o3
            refine ⟨μ2, wipeL ρ vs, p, ρ3, (rl0.mono0 k3.f).wipe vs, hx, ht, fun σ3 rl3 same => ⟨?_, ?_⟩⟩
            · refine wipe_same (ts := tv t) ?_ (fun j hj => same j hj) htv
              rw [← rl3.len, ← rl0.len, ← wipeL_length ρ vs]
              exact tgt_len ht
            · refine ⟨μ2, B, ρ3, S2, rs3, rl3, (OutOk.shift k3.e (OutOk.bindF0 (show OutOk L E0 μ1 H1 B ((fi1 B ρ3 S2).bindF fun src1 S => loop B never (turnA t1 vs1 fe B ρ3) src1 acc S) _ from o3))).imp fun src1 S4 μ4 H4 e4 rs4 o4 => ?_⟩
              have k4 := k3.on e4 rs4
              refine ⟨?_, fun J1 hJ1 => ?_⟩
              · rw [loop_G] at o4
                cases hq1 : seqOf B S4 src1 with
                | none => rw [hq1] at o4; exact False.elim o4
                | some ys => exact ⟨ys, rfl⟩
              · refine set_loop htv1 hD ⟨k4.e, (Ext.refl _ _).ex0, k4.rs, k4.hd, k4.at_, k4.nd, k4.le⟩ (rl3.mono e4) hJ1 (o4.imp fun ys S5 μ5 H5 e5 rs5 z => z) fun μ' S' acc' H' k5 z => ?_
                have z : OutOk L E0 μ1 H1 B (go m (i + 1) acc' S') (fun ys S _ _ => fin ys S) := z
                exact ⟨μ', S', acc', past.succ hit, ⟨k5.e, k4.f.trans k5.f, k5.rs, k5.hd, k5.at_, k5.nd, k5.le⟩, z⟩
end
end RV
end
section
/-! RVSd: the set comprehension with two fors as an expression. -/
namespace RV
open PySem PySem.Spec
open PyProof.Rows L2
section
variable {Y : Cx} {P : List (Addr × Obj)} {σ : L2.St} {H : Hp} {s : Shared} {tg : Expr} {J : It} {fp : List Addr} {it : Addr} {tn : Nat → Heap → Prop} {g : TG} {i : Nat}
/-- what was pinned over a turn stands still -/
theorem unpin (T : Turn Y.prog Y.w Y.K tg J fp it tn) {h7 : Heap} (I : Inv Y (P ++ pinsAt fp h7) σ H s) (st : tn i h7) : Inv Y P σ H s ∧ tn i s.heap ∧ ∀ b ∈ fp, H b = none := by
  have pin : ∀ b ∈ fp, ∀ o, h7.get? b = some o → s.heap.get? b = some o ∧ H b = none := fun b hb o e =>
    have z := I.pin (b, o) (List.mem_append_right _ (List.mem_append_right _ (mem_pinsAt hb e)))
    ⟨z.1, z.2.1⟩
  refine ⟨I.unpinned, T.keep _ _ _ st fun b hb o e => (pin b hb o e).1, fun b hb => ?_⟩
  obtain ⟨o, e, _⟩ := T.obj _ _ st b hb
  exact (pin b hb o e).2
/-- a loop's turn up to its target's store -/
theorem loop_turn (T : Turn Y.prog Y.w Y.K tg J fp it tn) (hc : Y.calm = true) (hxe : Y.xe = fun _ _ => False) (pg : PG Y tg g) (I : Inv Y P σ H s) (hf : ∀ b ∈ fp, FpOk Y P H b) (st : tn i s.heap) {Rn Post : Shared → Prop} {F : Value → Shared → Prop}
    (h : (J.stop i H ∧ ∀ s1, Inv Y P σ H s1 → Rn s1) ∨ (J.go i H ∧ ∃ Bq : L2.St → Hp → Prop, (∀ x H', J.yld i H x H' → g x σ H' Bq) ∧ ∀ σ2 H2 s3 h7, Bq σ2 H2 → Inv Y (P ++ pinsAt fp h7) σ2 H2 s3 → tn (i + 1) h7 → Post s3)) :
    wpAny (model Y.prog Y.w) Y.A (pyNext (.ref it)) (fun r s1 => (r = none → Rn s1) ∧ ∀ v, r = some v → wpAny (model Y.prog Y.w) Y.A (letOwnedTupleGo tg (.ref it) v) (fun _ s2 => wpAny (model Y.prog Y.w) Y.A (assign tg Y.env v) (fun _ s3 => Post s3) F s2) F s1) F s := by
  rcases h with ⟨stop, hn⟩ | ⟨go, Bq, step, post⟩
  · refine thnF (T.done Y rfl rfl rfl hc i P s σ H (fun _ _ => False) I hf st stop) fun r s1 q => ?_
    obtain ⟨er, I1⟩ := q
    exact ⟨fun _ => hn s1 I1, fun v e => (by rw [er] at e; cases e)⟩
  · refine thnF (T.item Y rfl rfl rfl hc i P s σ H (fun _ _ => False) I hf st go) fun r s1 q => ?_
    obtain ⟨u, er, k⟩ := q
    refine ⟨fun e => (by rw [er] at e; cases e), fun v e => ?_⟩
    rw [er] at e
    cases e
    refine thnF k fun _ s2 q => ?_
    obtain ⟨x, H', I', rx, y, st', n'⟩ := q
    have I'' := I'.pinned (fun b hb => ⟨n' b hb, (hf b hb).2⟩) (T.obj _ _ st')
    have run := pg.run _ s2 σ H' x u _ I'' rx (step x H' y)
    rw [hxe] at run
    refine thnF run fun _ s3 q => ?_
    obtain ⟨σ2, H2, I2, bq⟩ := q
    exact post σ2 H2 s3 _ bq I2 st'
end
section
variable {X : Cx} {elt tg iter tg1 iter1 : Expr} {scope : Scope} {own : List (Str × Nat)} {vs1 : List Nat} {pos : Pos} {wi wi1 : TI} {g g1 : TG} {te : TE}
theorem pe_ss (hc : X.calm = true) (hN : X.N.Nodup) (hi : PI X tg iter wi) (ok : BlkOk X.N X.env.scope scope own) (hv : ∀ i ∈ vs1, i ∈ own.map (·.2))
    (hg : ∀ (s : Shared) (H : Hp) (C : Addr) (cl : List (Str × Addr)) (fp : List Addr), PG (X.blk s H scope (compEnvC scope cl C X.env) fp) tg g)
    (hi1 : ∀ (s : Shared) (H : Hp) (C : Addr) (cl : List (Str × Addr)) (fp : List Addr), PI (X.blk s H scope (compEnvC scope cl C X.env) fp) tg1 iter1 wi1)
    (hg1 : ∀ (s : Shared) (H : Hp) (C : Addr) (cl : List (Str × Addr)) (fp : List Addr), PG (X.blk s H scope (compEnvC scope cl C X.env) fp) tg1 g1)
    (he : ∀ (s : Shared) (H : Hp) (C : Addr) (cl : List (Str × Addr)) (fp : List Addr), PE (X.blk s H scope (compEnvC scope cl C X.env) fp) elt te)
    (hs : ∀ x, foldedSetIterable iter X.env x = pure x) (hs1 : ∀ env x, foldedSetIterable iter1 env x = pure x) :
    PE X (scx elt tg iter tg1 iter1 scope pos) (tSs X.w wi g wi1 g1 te (own.map (·.2)) vs1) := by
  refine ⟨fun pins s σ H Q I h => ?_⟩
  have fre : ∀ y ∈ scope.names, y.2 = .free → ∃ c, X.env.cells.lookup y.1 = some c := fun y hy e => I.ok.has _ (ok.free y hy e)
  show wpAny _ X.A (comprehension (scx elt tg iter tg1 iter1 scope pos) scope X.env _ (newSet (.type "set")) false (eval iter X.env) none) _ _ s
  refine wpAny_comprehension_free (use := none) rfl hs (closure_ok fre) ok.kind (fun y hy e => by rw [ok.uniq y hy, e]) (thn (hi.run pins s σ H _ I h) fun xv s1 hx => thn hx fun itv s2 h2 => ?_)
  obtain ⟨it, fp, tn, J, H2, rfl, I2, T, st2, f2, q⟩ := h2
  refine PpSet.newSet_ok (newEnv_comp ?_)
  have hDn : H2 s2.heap.objs.size = none := I2.hok.fresh (Nat.le_refl _)
  obtain ⟨W, ⟨m0, w0⟩, turn⟩ := q s2.heap.objs.size hDn
  -- the new set stands
  let o0 : Obj := { cls := .type "set", dict := none, data := .set #[] 0 (.fresh 0 0 (!X.w.params.followText "set-order")) }
  let s3 : Shared := { s2 with heap := s2.heap.push o0 }
  let D : Addr := s2.heap.objs.size
  let H3 : Hp := upd H2 D (SI X.w D [])
  have e0 : SI X.w D [] = SetO X.w D (fun _ => false) 0 := rfl
  have I3 : Inv X pins σ H3 s3 := I2.laid (t' := s2.toks) (fun b o e => Heap.get?_push_of_some _ e) (Nat.le_refl _) (by rw [e0]; exact setO_new (setR_fresh X.w))
  have f3 : ∀ b ∈ fp, FpOk X pins H3 b ∧ b < s3.heap.objs.size := fun b hb => by
    obtain ⟨o, e, _⟩ := T.obj _ _ st2 b hb
    have hlt := Heap.lt_size e
    refine ⟨⟨?_, (f2 b hb).2⟩, ?_⟩
    · show upd H2 D _ b = none
      rw [upd_ne (Nat.ne_of_lt hlt)]
      exact (f2 b hb).1
    · show b < (s2.heap.push o0).objs.size
      rw [Heap.size_push]
      exact Nat.lt_succ_of_lt hlt
  -- the block
  let C : Addr := s3.heap.objs.size
  let cl := cellsFrom (C + 1) scope.names (cloFrom X.env.cells scope.names [])
  let ce : Env := compEnvC scope cl C X.env
  let Y : Cx := X.blk s3 H3 scope ce fp
  let s4 : Shared := { s3 with heap := pushCells (s3.heap.push { cls := .type "dict", data := .dict #[] }) scope.names }
  have I4 : Inv Y [] (wipe σ (own.map (·.2))) H3 s4 := block_start I3 ok hN f3
  have st4 : tn 0 s4.heap := T.keep _ _ _ st2 fun b _ o e => pushCells_keeps _ _ _ _ (Heap.get?_push_of_some _ (Heap.get?_push_of_some _ e))
  have pg : PG Y tg g := hg s3 H3 C cl fp
  have pi1 : PI Y tg1 iter1 wi1 := hi1 s3 H3 C cl fp
  have pg1 : PG Y tg1 g1 := hg1 s3 H3 C cl fp
  have pe : PE Y elt te := he s3 H3 C cl fp
  have yx : Y.xe = fun _ _ => False := rfl
  have fpo : ∀ {σ' : L2.St} {H' : Hp} {s' : Shared}, Inv Y [] σ' H' s' → (∀ b ∈ fp, H' b = none) → ∀ b ∈ fp, FpOk Y [] H' b := fun I' hn b hb =>
    ⟨hn b hb, (I'.ok.exf b hb).1, I'.ok.exfs b hb, .inl hb, fun x c e => (I'.ok.exf b hb).2 x c e, fun p hp => by cases hp⟩
  have back : ∀ H5 s6, Inv Y [] (wipe σ (own.map (·.2))) H5 s6 → Q (.ref D) H5 → compPost (model X.prog X.w) X.A X.xe none (EP X pins σ Q) (.ref D) C (.ok .next) s6 := fun H5 s6 I6 qq => by
    have I7 : Inv X pins σ H5 s6 := I3.call' (ch := fp) I6.os I6.base I6.hok I6.bare fun b hb => ⟨(f3 b hb).1.2.2.2.1, (f3 b hb).1.2.1, (f3 b hb).1.2.2.2.2.1, (f3 b hb).1.2.2.2.2.2⟩
    have nC : H5 C = none := I6.free
    obtain ⟨m, hn, _⟩ := I6.loc
    obtain ⟨_, c1, c2, c3, c4, c5⟩ := I3.fpOk (H' := H5) (b := C) (Nat.le_refl _) nC
    exact ⟨m, hn, fun h'' sb => ⟨.ref D, H5, I7.turned (t' := s6.toks) (fun b o hb e => (sb.2 b hb).trans e) nC c1 c3 c4 c5, rfl, qq⟩⟩
  have loop : codeAny (model X.prog X.w) X.A (.compLoop (scx elt tg iter tg1 iter1 scope pos) 0 (.ref it) (.ref D) ce) (compPost (model X.prog X.w) X.A X.xe none (EP X pins σ Q) (.ref D) C) s4 := by
    refine sc_outer (hs1 ce) (fun n s' => ∃ i H', Inv Y [] (wipe σ (own.map (·.2))) H' s' ∧ tn i s'.heap ∧ (∀ b ∈ fp, H' b = none) ∧ W i n H') (fun n s5 st5 => ?_) m0 ⟨0, H3, I4, st4, fun b hb => (f3 b hb).1.1, w0⟩
    obtain ⟨i, H5, I5, t5, n5, w5⟩ := st5
    refine loop_turn (Y := Y) T hc yx pg I5 (fpo I5 n5) t5 ?_
    rcases turn i n H5 w5 with ⟨stop, qq⟩ | ⟨go, Nx, hNx, step⟩
    · exact .inl ⟨stop, fun s6 I6 => back H5 s6 I6 qq⟩
    · refine .inr ⟨go, _, step, fun σ7 H7 s7 h7 q7 I7 t7 => ?_⟩
      obtain ⟨same, q7⟩ := q7
      refine thnF (pi1.run _ s7 σ7 H7 _ I7 q7) fun xv s8 hx => thnF hx fun itv s9 h9 => ?_
      obtain ⟨it1, fp1, tn1, J1, H9, rfl, I9, T1, st9, f9, W1, ⟨m1, w1⟩, turn1⟩ := h9
      have wl : ∀ (j : Nat) v, (wipe σ (own.map (·.2)))[j]? = some (some v) → (wipe σ7 vs1)[j]? = some (some v) := fun j v e => by
        rw [← same] at e
        obtain ⟨e1, e2⟩ := wipe_some e
        rw [wipe_out fun z => e2 (hv j z)]
        exact e1
      have ll : (wipe σ (own.map (·.2))).length = (wipe σ7 vs1).length := by rw [← same, wipe_length, wipe_length]
      have loop1 : codeAny (model X.prog X.w) X.A (.compLoop (scx elt tg iter tg1 iter1 scope pos) 1 (.ref it1) (.ref D) ce) (fun r s6 => (∃ f, r = .ok f) ∧ Less (fun n s' => ∃ i H', Inv Y [] (wipe σ (own.map (·.2))) H' s' ∧ tn i s'.heap ∧ (∀ b ∈ fp, H' b = none) ∧ W i n H') n s6) s9 := by
        refine sc_inner (fun k s' => ∃ j H', Inv Y ([] ++ pinsAt fp h7) (wipe σ7 vs1) H' s' ∧ tn1 j s'.heap ∧ (∀ b ∈ fp1, H' b = none) ∧ W1 j k H') (fun k sa sta => ?_) m1 ⟨0, H9, I9.weak (wipe_length _ _) (fun j v e => (wipe_some e).1), st9, fun b hb => (f9 b hb).1, w1⟩
        obtain ⟨j, Ha, Ia, ta, na, wa⟩ := sta
        refine loop_turn (Y := Y) T1 hc yx pg1 Ia (fun b hb => ⟨na b hb, (f9 b hb).2⟩) ta ?_
        rcases turn1 j k Ha wa with ⟨stop1, nx⟩ | ⟨go1, Ny, hNy, step1⟩
        · refine .inl ⟨stop1, fun sb Ib => ⟨⟨_, rfl⟩, ?_⟩⟩
          obtain ⟨m', hm, w'⟩ := hNx Ha nx
          obtain ⟨Ic, tc, nc⟩ := unpin (Y := Y) (P := []) T Ib t7
          exact ⟨m', hm, i + 1, Ha, Ic.weak ll wl, tc, nc, w'⟩
        · refine .inr ⟨go1, _, step1, fun σb Hb sb hb qb Ib tb => ?_⟩
          obtain ⟨same1, qb⟩ := qb
          refine thnF (pe.run _ sb σb Hb _ Ib qb) fun z sc q => ?_
          obtain ⟨yv, Hc, Ic, rc, c, acc, ey, hDc, hz, ny⟩ := q
          rw [ey] at rc
          have add := mt_sadd (X := Y) _ sc σb Hc (.ref D) [.int c] (.ref D) [z] (fun _ H' => Ny H') Ic rfl (.cons rc .nil) ⟨D, c, memI acc, acc.length, rfl, rfl, hDc, hz, by rw [SI_add]; exact ny⟩
          refine thnF add fun _ sd q => ?_
          obtain ⟨_, Hd, Id, _, ny⟩ := q
          obtain ⟨k', hk, w'⟩ := hNy Hd ny
          obtain ⟨Ie, te', ne⟩ := unpin (Y := Y) T1 Id tb
          refine ⟨k', hk, j + 1, Hd, Ie.weak (by rw [← same1, wipe_length]) (fun j v e => ?_), te', ne, w'⟩
          rw [← same1] at e
          exact (wipe_some e).1
      exact sc_start loop1 (.inr rfl) (T1.self X.A 0 _ _ _ st9 loop1)
  exact sc_start loop (.inl rfl) (T.self X.A 0 _ _ _ st4 loop)
variable {L : Pl} {E : XK} {t t1 : IE} {fi fi1 fe : FE} {p : Pos}
/-- sorted({.. for .. for ..}) -/
theorem e_srt2 (hc : X.calm = true) (hN : X.N.Nodup) (hgs : Gl X "sorted") (hms : X.mg "sorted" = none) (hi : PI X tg iter (tI L E fi)) (ok : BlkOk X.N X.env.scope scope own) (htv : ∀ i ∈ tv t, i ∈ own.map (·.2)) (htv1 : ∀ i ∈ tv t1, i ∈ vs1) (hv : ∀ i ∈ vs1, i ∈ own.map (·.2))
    (hg : ∀ (s : Shared) (H : Hp) (C : Addr) (cl : List (Str × Addr)) (fp : List Addr), PG (X.blk s H scope (compEnvC scope cl C X.env) fp) tg (gT L t))
    (hi1 : ∀ (s : Shared) (H : Hp) (C : Addr) (cl : List (Str × Addr)) (fp : List Addr), PI (X.blk s H scope (compEnvC scope cl C X.env) fp) tg1 iter1 (tI L E0 fi1))
    (hg1 : ∀ (s : Shared) (H : Hp) (C : Addr) (cl : List (Str × Addr)) (fp : List Addr), PG (X.blk s H scope (compEnvC scope cl C X.env) fp) tg1 (gT L t1))
    (he : ∀ (s : Shared) (H : Hp) (C : Addr) (cl : List (Str × Addr)) (fp : List Addr), PE (X.blk s H scope (compEnvC scope cl C X.env) fp) elt (tE L E0 fe))
    (hs : ∀ x, foldedSetIterable iter X.env x = pure x) (hs1 : ∀ env x, foldedSetIterable iter1 env x = pure x) {pos2 : Pos} :
    PE X (.Call (.Name "sorted" p) [scx elt tg iter tg1 iter1 scope pos] [] pos2) (tE L E (srtF t t1 (own.map (·.2)) vs1 fi fi1 fe)) :=
  PEw (pe_callB (cr_sortedSet hc) hgs hms (by decide +kernel) (pa_cons (pe_ss hc hN hi ok hv hg hi1 hg1 he hs hs1) pa_nil)) fun σ H Q h => srt_read htv htv1 σ H Q h
end
end RV
end
section
/-! RVLm: a lambda without parameters that is handed to a def: what it leaves in the heap. -/
namespace RV
open PySem PySem.Spec PyProof.Rows L2
/-- the heap behind the making of a lambda: as it was, or with a row more in the maker's table -/
inductive Grown (P : Addr) (q : PySem.Str) (H : Hp) : Hp → Prop
  | same : Grown P q H H
  | more (ps ps' : Array Value) (c : Addr) : H P = some (.tbl ps) → H c = none → TriplesOk ps'.toList → (∀ pos cv, codeAmong pos ps'.toList = some cv → codeAmong pos ps.toList = some cv ∨ cv = .ref c) → Grown P q H (upd (upd H P (.tbl ps')) c (LamX.CodeO c q))
section
variable {L : Pl} {μ : Mu} {H H1 : Hp} {P : Addr} {q : PySem.Str} {S : Sto}
theorem Grown.ext (g : Grown P q H H1) : Ext μ H μ H1 := by
  cases g with
  | same => exact Ext.refl _ _
  | more ps ps' c hP hc _ _ =>
    have at_ : ∀ b o, H b = some o → (∀ ps, o ≠ .tbl ps) → upd (upd H P (.tbl ps')) c (LamX.CodeO c q) b = some o := fun b o h nt => by
      rw [upd_ne (ne_of_none h hc), upd_ne (fun z => by rw [z, hP] at h; cases h; exact nt ps rfl)]
      exact h
    refine ⟨fun _ _ h => h, fun b o h _ nt => at_ b o h nt, fun b ys h => at_ b _ h (fun _ z => by cases z), fun b o u h => at_ b _ h (fun _ z => by cases z), fun b h => ?_, fun _ _ h => .inl h, fun _ h => h, fun _ h => .inl h⟩
    by_cases e : b = c
    · rw [e, upd_same] at h; cases h
    · rw [upd_ne e] at h
      by_cases e2 : b = P
      · rw [e2, upd_same] at h; cases h
      · rw [upd_ne e2] at h; exact h
theorem RelS.grown (r : RelS L μ H S) (g : Grown P q H H1) (hp : ∀ p ∈ L.T, p.1 = P → p.2 = q) : RelS L μ H1 S := by
  have e : Ext μ H μ H1 := g.ext
  cases g with
  | same => exact r
  | more ps ps' c hP hc ht hx =>
    have tr : ∀ b o, H b = some o → (∀ ps, o ≠ .tbl ps) → upd (upd H P (.tbl ps')) c (LamX.CodeO c q) b = H b := fun b o h nt => by
      rw [upd_ne (ne_of_none h hc), upd_ne (fun z => by rw [z, hP] at h; cases h; exact nt ps rfl)]
    have oc : μ.Out c := by
      refine ⟨fun n z => ?_, fun z => (r.hid c z).1 hc⟩
      obtain ⟨b, e1, h1⟩ := r.obj n _ (List.getElem?_eq_getElem (r.dom n c z))
      rw [z] at e1
      cases e1
      obtain ⟨u, hu⟩ := h1.tracked
      rw [hc] at hu; cases hu
    refine ⟨fun n o h => ?_, r.inj, r.dom, fun b h => ⟨fun z => (r.hid b h).1 (e.there b z), (r.hid b h).2⟩, fun p hpm => ?_⟩
    · obtain ⟨a, e1, h1⟩ := r.obj n o h
      obtain ⟨u, hu⟩ := h1.tracked
      exact ⟨a, e1, h1.mono e (tr a u hu (h1.ntb hu))⟩
    · obtain ⟨h0, qs, h1, h2, h3⟩ := r.tab p hpm
      have cne : p.1 ≠ c := ne_of_none h1 hc
      have code : ∀ {d : Addr} {x : PySem.Str}, H d = some (LamX.CodeO d x) → upd (upd H P (.tbl ps')) c (LamX.CodeO c q) d = some (LamX.CodeO d x) := fun {d x} z => by
        rw [tr d _ z LamX.codeO_ne]; exact z
      by_cases z : p.1 = P
      · have z2 := hp p hpm z
        rw [z, hP] at h1
        cases h1
        refine ⟨h0, ps', by rw [upd_ne cne, z, upd_same], ht, fun pos cv k => ?_⟩
        rcases hx pos cv k with k | k
        · obtain ⟨d, d1, d2, d3⟩ := h3 pos cv k
          exact ⟨d, d1, code d2, d3⟩
        · exact ⟨c, k, by rw [z2, upd_same], oc⟩
      · refine ⟨h0, qs, by rw [upd_ne cne, upd_ne z]; exact h1, h2, fun pos cv k => ?_⟩
        obtain ⟨d, d1, d2, d3⟩ := h3 pos cv k
        exact ⟨d, d1, code d2, d3⟩
end
section
variable {X : Cx} {pins : List (Addr × Obj)} {σ : L2.St} {H : Hp} {s : Shared}
/-- the table at P tells code objects of the name q -/
def TabAt (H : Hp) (P : Addr) (q : PySem.Str) : Prop := ∃ ps : Array Value, H P = some (.tbl ps) ∧ TriplesOk ps.toList ∧ ∀ (pos : Pos) (cv : Value), codeAmong pos ps.toList = some cv → ∃ c, cv = .ref c ∧ H c = some (LamX.CodeO c q)
abbrev lamq (X : Cx) : PySem.Str := X.env.qual ++ "<lambda>"
/-- the object of a lambda that X's def made -/
abbrev lamo (X : Cx) (params : Arguments) (body : Expr) (scope : Scope) (pm : Value) (c' : Addr) (ctv : Value) : Obj := PySem.W.kla_obj "<lambda>" (lamq X) params body scope (cloFrom X.env.cells scope.names []) pm c' ctv
theorem lam3 {c P : Addr} {params : Arguments} {body : Expr} {scope : Scope} {pos : Pos} {E : Value → Shared → Prop} {Q : Value → Shared → Prop} (I : Inv X pins σ H s) (TB : LamX.TabB X.base X.mg c P) (hcode : X.env.code = .ref c) (hT : TabAt H P (lamq X)) (hdef : defaultsOf params X.env = ([], []))
    (hfree : ∀ y ∈ scope.names, y.2 = .free → ∃ c, X.env.cells.lookup y.1 = some c)
    (h : ∀ (f c' : Addr) (pm ctv : Value) (H1 : Hp) (s1 : Shared), Inv X pins σ H1 s1 → Grown P (lamq X) H H1 → s1.heap.get? f = some (lamo X params body scope pm c' ctv) → H1 f = none → f ∉ frs X.stack → H1 c' = some (LamX.CodeO c' (lamq X)) → Q (.ref f) s1) :
    wpAny (model X.prog X.w) X.A (eval (.Lambda params body scope pos) X.env) Q E s := by
  obtain ⟨ps, hP, ht, ha⟩ := hT
  have tb : s.heap.get? P = some { cls := .none, data := .fields ps } := I.hok P _ hP
  have out : ∀ f, s.heap.objs.size ≤ f → f ∉ frs X.stack := fun f hf z => (List.mem_cons.mp (I.stkSub _ z)).elim (fun e => by
    have l := I.lt
    rw [← e] at l
    exact absurd l (Nat.not_lt.mpr hf)) fun e => I.nofs hf e
  apply PySem.W.kla_eval hdef
  cases hc : codeAmong pos ps.toList with
  | some cv =>
    obtain ⟨c', rfl, hco⟩ := ha pos cv hc
    apply PySem.W.kla_makeFunctionHit (mg := X.mg) (c := c) (P := P) (ps := ps) (closure_ok hfree) I.ok.glob (I.mod.glob.keeps I.bk) hcode (TB.code.keeps I.bk) tb ht hc (TB.bm.keeps I.bk)
    intro ctv h' tk hx hsz
    exact h h'.objs.size c' ((X.mg "__name__").getD .none) ctv H _ (I.kept fun b o e => Heap.get?_push_of_some _ (hx b o e)) .same (Heap.get?_push_size _ rfl) (I.hok.fresh hsz) (out _ hsz) hco
  | none =>
    apply PySem.W.kla_makeFunction (mg := X.mg) (c := c) (P := P) (ps := ps) (closure_ok hfree) I.ok.glob (I.mod.glob.keeps I.bk) hcode (TB.code.keeps I.bk) tb ht hc TB.gP (TB.bm.keeps I.bk)
    intro c' ctv h' tk hx hge hlt hrec htb
    obtain ⟨c2, oc, vs, t, ec, hoc, hd, hv⟩ := hrec
    cases ec
    have sz : s.heap.objs.size ≤ h'.objs.size := Nat.le_trans hge (Nat.le_of_lt hlt)
    have nC : H c' = none := I.hok.fresh hge
    have J := LamX.inv_table (t' := tk) (more := #[rawInt pos.line, rawInt pos.col, .ref c']) (h' := h'.push (lamo X params body scope ((X.mg "__name__").getD .none) c' ctv)) (q := lamq X) I hP
      (fun b o hb e => Heap.get?_push_of_some _ (hx b o hb e)) (Heap.get?_push_of_some _ htb) hge ⟨oc, vs, t, Heap.get?_push_of_some _ hoc, hd, hv⟩
    have el : (ps ++ #[rawInt pos.line, rawInt pos.col, Value.ref c']).toList = ps.toList ++ [rawInt pos.line, rawInt pos.col, .ref c'] := by simp
    refine h h'.objs.size c' ((X.mg "__name__").getD .none) ctv _ _ J (.more ps _ c' hP nC (by rw [el]; exact PySem.TriplesOk_snoc _ _ _ _ ht) fun p' cv k => LamX.among_app _ ht (by rw [← el]; exact k)) (Heap.get?_push_size _ rfl) ?_ (out _ sz) upd_same
    rw [upd_ne (Nat.ne_of_gt hlt), upd_ne (Nat.ne_of_gt (Nat.lt_of_lt_of_le (Heap.lt_size tb) sz))]
    exact I.hok.fresh sz
/-- the handed lambda is called, in the def that got it -/
theorem act3 {CXg : CXT} {Eg E : XK} {Ng : List PySem.Str} {qg a : PySem.Str} {sg scope : Scope} {g f c' : Addr} {cdg pm ctv : Value} {params : Arguments} {body : Expr} {k i : Nat} {pn : List (Addr × Obj)} {xe : Value → Shared → Prop} {W : WX} {tb : TE} {p1 p2 : Pos}
    (I : Inv X pins σ H s) (LS : LamX.LamS X.env.scope scope) (hf : s.heap.get? f = some (lamo X params body scope pm c' ctv)) (hfn : H f = none) (hfr : f ∉ frs X.stack) (hbind : bindArgs (PySem.W.kla_fn "<lambda>" (lamq X) params body scope (cloFrom X.env.cells scope.names []) pm (.ref c') ctv) ⟨[], []⟩ = pure [])
    (tk : Takes ((cxOf CXg X.prog X.w X.K X.mg X.base Ng qg sg g cdg X.A X.stack s H Eg).tr pn xe) W) (hW : ∀ cls d σ' H', E cls d H' → W cls d σ' H') (hr : Rm (k + 1) (X.A.deeper (envOfC qg sg s.heap.objs.size g cdg)))
    (hbody : ∀ (A : Around) (outer : List Env) (s : Shared) (H : Hp), Rm k (A.deeper (LamX.lamEnv X scope s.heap.objs.size f c')) → PE (LamX.lamCx X A outer s H E scope f c') body tb) (hN : Ng[i]? = some a) (hv : Vis sg a) (hd : (a == ("__debug__" : PySem.Str)) = false) (hcd : (a == ("__classdict__" : PySem.Str)) = false) :
    PE ((cxOf CXg X.prog X.w X.K X.mg X.base Ng qg sg g cdg X.A X.stack s H Eg).tr pn xe) (.Call (.Name a p1) [] [] p2) (fun σZ HZ Q => σZ[i]? = some (some (.ref f)) ∧ HZ c' = some (LamX.CodeO c' (lamq X)) ∧ tb σ HZ Q) := ⟨fun pZ sZ σZ HZ Q IZ h => by
  obtain ⟨at_, co, go⟩ := h
  apply wpAny_Call_Name_kw
  refine thn ((pe_var (pos := p1) (i := i) hN hv hd hcd).run pZ sZ σZ HZ (fun v H1 => v = .ref f ∧ H1 = HZ) IZ ⟨.ref f, at_, rfl, rfl⟩) fun u s1 z => ?_
  obtain ⟨v, H1, J, ru, rfl, rfl⟩ := z
  cases (show u = Value.ref f from ru)
  have fo : s1.heap.get? f = some (lamo X params body scope pm c' ctv) := J.base.keep f _ hf hfn hfr (fun z => nomatch (show f ∈ ([] : List Addr) from z))
  apply PySem.W.callWith_F0 ⟨_, _, _, _, fo⟩
  obtain ⟨⟨oc, vs, t, hoc, hdc, hvc⟩, _, _⟩ := J.hok c' _ co
  refine wpAny_call (codeAny_mono (R := CR (L2.CX X.prog X.w) (envOfC qg sg s.heap.objs.size g cdg :: X.stack) X.prog X.w H1 s1 Q E) ?_ fun r s' z => ?_)
  · apply PySem.W.kla_callFunE hr.r.depth fo rfl LS.co LS.gen rfl ⟨c', oc, vs, t, rfl, hoc, hdc, hvc⟩
    show wpAny _ _ (bindArgs _ ⟨[], []⟩) _ _ _
    rw [hbind]
    apply wpAny_pure
    refine wpAny_newFunctionEnv (fun y hy => (LS.own y hy).2) (fun y hy => absurd hy (by simp)) (fun h₁ hns hsb => ⟨J.nolimit.fresh _ hsb, ?_⟩) LS.kind
    show codeAny _ _ (.expr body (LamX.lamEnv X scope s1.heap.objs.size f c')) _ _
    have T := LamX.lam_start2 (E := E) (f := f) (c' := c') (tk := s1.toks + ([] : List (PySem.Str × Value)).length) I LS J.env0 hr.r.hd J.base hns fun b o e => hsb.extBut b o (Nat.ne_of_lt (Heap.lt_size e)) (Heap.get?_push_of_some _ e)
    refine PySem.W.kla_codeExpr (wpAny_mono ((hbody _ _ s1 H1 (hr.deeper _)).run [] _ _ H1 Q T go) (fun v s2 z => ?_) fun e s2 z => z)
    obtain ⟨w', H', T', rv, q⟩ := z
    exact ⟨w', H', T'.os, T'.bare, T'.base, T'.hok, rv, q⟩
  · cases r with
    | error e => exact passes_call tk hW pZ σZ H1 s1 e s' J z
    | ok fl =>
      cases fl with
      | ret u => exact J.after z
      | next => exact False.elim z
      | brk => exact False.elim z
      | cont => exact False.elim z⟩
def tLam3 (P : Addr) (q : PySem.Str) (TT : (XK → Hp → VK → Prop) → Hp → VK → Prop) (t : XK → TE) : TE := fun σ H Q => TabAt H P q ∧ ∀ H1, Grown P q H H1 → TT (fun E H' Q' => t E σ H' Q') H1 Q
/-- x(lambda: body), x a def of the text -/
theorem e_lam3 {TT : (XK → Hp → VK → Prop) → Hp → VK → Prop} {x a : PySem.Str} {g c P : Addr} {k : Nat} {pg : Arguments} {bg : List Stmt} {sg : Scope} {dV kV doc pm cdv ct oc : Value} {an od : Option Addr} {osl : Array (Option Value)} {Ng : List PySem.Str}
    {params : Arguments} {body : Expr} {scope : Scope} {t : XK → TE} {p lpos pos : Pos} (hg : Gl X x) (hm : X.mg x = some (.ref g)) (hk : PySem.W.keepIn X.K (.ref g) = true)
    (lk : X.K.lookup g = some ⟨oc, od, .func (PySem.W.fnOf x x pg bg sg dV kV doc pm an cdv ct), osl⟩) (hcg : PySem.W.codeIn X.K cdv x = true) (hb : ∀ (s : Shared) (u : Value), BindsTo s (PySem.W.fnOf x x pg bg sg dV kV doc pm an cdv ct) ⟨[u], []⟩ [(a, u)]) (Sg : FnScope Ng [a] sg) (hNg : Ng[0]? = some a) (hva : Vis sg a)
    (hG : LamX.GivesTo X Ng x sg g cdv bg a (lamq X) TT) (TB : LamX.TabB X.base X.mg c P) (hcode : X.env.code = .ref c) (hr : Rm (k + 2) X.A) (W : LamX.LamS X.env.scope scope) (hdef : defaultsOf params X.env = ([], []))
    (hbind : ∀ (q : PySem.Str) (cl : List (PySem.Str × Addr)) (pm cv ctv : Value), bindArgs (PySem.W.kla_fn "<lambda>" q params body scope cl pm cv ctv) ⟨[], []⟩ = pure [])
    (hbody : ∀ (A : Around) (outer : List Env) (s : Shared) (H : Hp) (E : XK) (f c' : Addr), Rm k (A.deeper (LamX.lamEnv X scope s.heap.objs.size f c')) → PE (LamX.lamCx X A outer s H E scope f c') body (t E))
    (hdb : (x == ("__debug__" : PySem.Str)) = false) (hd : (a == ("__debug__" : PySem.Str)) = false) (hcd : (a == ("__classdict__" : PySem.Str)) = false) :
    PE X (.Call (.Name x p) [.Lambda params body scope lpos] [] pos) (tLam3 P (lamq X) TT t) := ⟨fun pins s σ H Q I h => by
  obtain ⟨tab, go⟩ := h
  apply wpAny_Call_Name_kw
  apply ld_glob I hg hm ?_ hdb
  apply PySem.W.callWith_K (h₀ := X.base) I.ok.mod.kin hk ?_ (by rfl) (by rfl)
  show wpAny _ _ (spliced ((false, eval (.Lambda params body scope lpos) X.env) :: backTo pos (starEach [] X.env))) _ _ s
  apply Calls.spliced_cons
  refine lam3 I TB hcode tab hdef (W.has I.ok) fun f c' pm' ctv H1 s1 J gr hf hfn hfr hco => Calls.spliced_nil ⟨J.kIn, wpAny_call (codeAny_mono (R := CR C8.CX0 X.stack X.prog X.w H1 s1 Q C8.E0) ?_ fun r s2 z => ?_)⟩
  · refine LamX.run_ofS (N := Ng) (ps := [a]) (us := [.ref f]) (vs := [.ref f]) lk hcg Sg hr.r J.env0 (hb s1 (.ref f)) (.cons rfl .nil) rfl fun _ => ?_
    obtain ⟨t', ht', hq⟩ := hG f c' s1 H1 Q (fun E H' Q' => t E σ H' Q') (fun W0 pn xe E p1 p2 tk hW => act3 (i := 0) J W hf hfn hfr (hbind _ _ _ _ _) tk hW (hr.deeper _) (fun A outer s H hr3 => hbody A outer s H E f c' hr3) hNg hva hd hcd) hco (go H1 gr)
    exact ⟨t', ht'.nox, hq⟩
  · cases r with
    | error e => exact (show False from z).elim
    | ok fl =>
      cases fl with
      | ret u => exact J.after z
      | next => exact False.elim z
      | brk => exact False.elim z
      | cont => exact False.elim z⟩
end
end RV
end
section
/-! RVHd: a def that hears what a call tells: [value], or (word, field) of an own exception. -/
namespace RV
open PySem PySem.Spec PyProof.Rows L2
/-- what isinstance asks of an own exception's class -/
structure XiT (K : PySem.W.Frag) (C : Addr) : Prop where
  hcl : (PySem.W.clsIn K C).isSome = true
  ha : PySem.W.findIn K (.ref C) "__class__" = some (some (.builtin "object.__class__"))
  hn : PySem.W.specialIn K (.builtin "object.__class__") "__get__" = some (some (.builtin "getset_descriptor.__get__"))
  htk : PySem.W.takesIn K (.builtin "object.__class__") = some true
  hm : PySem.W.mroIn K C (.type "object") = some true
/-- what a heard call makes of the call's own reading -/
def TTh (L : Pl) (hs : List (Nat × PySem.Str)) : (XK → Hp → VK → Prop) → Hp → VK → Prop := fun tl H Q =>
  tl (fun cls d H' => ∃ c w dd v, lookC c hs = some w ∧ cls = .ref (L.ca c) ∧ d = some dd ∧ H' dd = some (.xd [(L.xf c, v)]) ∧ ∀ p, H' p = none → Q (.ref p) (upd H' p (.tup [.str w, v]))) H
    fun v H' => ∀ p, H' p = none → Q (.ref p) (upd H' p (.lst [v]))
section
variable {X : Cx} {L : Pl} {E : XK} {C fI : Addr} {f n : PySem.Str} {i : Nat}
/-- isinstance(e, C'), e the exception that the suite holds -/
theorem is_x {a : Addr} {oe : Obj} {cls : Value} {d : Option Addr} {pn : List (Addr × Obj)} {b : Bool} {u : Value} {cv : V} (T : XcT X.prog X.K C fI f) (Y : XiT X.K C) (hz : Zc cls d oe) (hf : ∃ vs, oe.data = .fields vs) (hu : ∀ w, RelV cv w → w = u) (kt : PySem.W.kitOne X.K (.ref C) u = some b) :
    CallR (X.suite a ((a, oe) :: pn)) (.builtin "isinstance") (fun xs H Q => xs = [.ref a, cv] ∧ cls = .ref C ∧ (∃ dd v, d = some dd ∧ H dd = some (.xd [(f, v)])) ∧ Q (.bl b) H) := by
  intro pins s σ H xs us Q I r h
  obtain ⟨rfl, ec, ⟨dd, v, ed, ex⟩, q⟩ := h
  subst ec ed
  cases r with
  | cons r1 r2 =>
    cases r2 with
    | cons r2 r3 =>
      cases r3
      cases r1
      cases hu _ r2
      obtain ⟨at_, _⟩ := I.pin (a, oe) (List.mem_append_left _ List.mem_cons_self)
      obtain ⟨vs, dat⟩ := hf
      obtain ⟨mA, ns, rel⟩ := (show ObjOk X.prog X.w H s.heap dd (.xd [(f, v)]) from I.hok dd _ ex)
      obtain ⟨od, ho, hl⟩ := lookIn_ns ns
      have inst : PySem.W.InstAt s.heap a oe C (some od) := ⟨at_, hz.1, by unfold PySem.W.notCls; rw [dat] <;> rfl, by rw [hz.2]; exact ho⟩
      exact PySem.W.kia_one (PySem.W.kitx_exc Y.hcl T.ga T.gg T.exC Y.ha Y.hn Y.htk Y.hm) I.kIn inst kt (fun z => nomatch z) fun tk => ⟨.bl b, H, I.kept (t' := tk) fun _ _ z => z, rfl, q⟩
/-- nothing is asked -/
theorem e_never {e : Expr} : PE X e (fun _ _ _ => False) := ⟨fun _ _ _ _ _ _ h => h.elim⟩
variable {g : Addr} {a en x gn cn w q : PySem.Str} {sg : Scope} {cdg : Value} {c gi : Nat} {odd : Expr} {k1 k2 : Nat} {p1 p2 p3 p4 p5 p6 p7 p8 p9 p10 p11 p12 p13 p14 p15 p16 p17 : Pos}
/-- try: return [a()] / except G as e: return (w, e.f) if isinstance(e, C) else .. -/
theorem heard1 (nd : [a, en].Nodup) (la : sg.names.lookup a = some .local) (le : sg.names.lookup en = some .local) (gg : sg.names.lookup gn = some .globalImplicit) (gc : sg.names.lookup cn = some .globalImplicit) (gi : sg.names.lookup ("isinstance" : PySem.Str) = some .globalImplicit)
    (mi : X.mg "isinstance" = none) (mG : ∃ G, X.mg gn = some (.ref G) ∧ PySem.W.exmOne X.K (.ref (L.ca c)) (.ref G) = some true) (mC : X.mg cn = some (.ref (L.ca c))) (dg : (gn == ("__debug__" : PySem.Str)) = false) (dc : (cn == ("__debug__" : PySem.Str)) = false) (de : (en == ("__debug__" : PySem.Str)) = false) (de2 : (en == ("__classdict__" : PySem.Str)) = false)
    (T : XcT X.prog X.K (L.ca c) fI (L.xf c)) (Y : XiT X.K (L.ca c)) :
    LamX.GivesTo X [a, en] x sg g cdg [.Try [.Return (some (.List [.Call (.Name a p1) [] [] p2] p3)) p4] [.ExceptHandler (some (.Name gn p5)) (some en) [.Return (some (.IfExp (.Call (.Name "isinstance" p6) [.Name en p7, .Name cn p8] [] p9) (.Tuple [.Constant (.str w) k1 p10, .Attribute (.Name en p11) (L.xf c) p12] k2 p13) odd p14)) p15] p16] [] [] p17] a q (TTh L [(c, w)]) := by
  intro f c' s H Q tl act hc h
  obtain ⟨G, mG, eG⟩ := mG
  have kt : PySem.W.kitOne X.K (.ref (L.ca c)) (.ref (L.ca c)) = some true := by
    unfold PySem.W.kitOne
    rw [if_pos (by simp)]
  refine ⟨_, pss_one (ps_try_as (X := (cxOf C8.CX0 X.prog X.w X.K X.mg X.base [a, en] x sg g cdg X.A X.stack s H C8.E0).nox) (c := .ref G) (i := 1)
      (tb := fun W D σ H => ∃ Ech : XK, (∀ cls d σ' H', σ'.length = 2 → Ech cls d H' → W cls d σ' H') ∧ σ[0]? = some (some (.ref f)) ∧ H c' = some (LamX.CodeO c' q) ∧ tl Ech H (fun v H' => ∀ p, H' p = none → D.rt (.ref p) (upd H' p (.lst [v]))))
      (ts := fun a cls d D σ H => σ[1]? = some (some (.ref a)) ∧ cls = .ref (L.ca c) ∧ ∃ dd v, d = some dd ∧ H dd = some (.xd [(L.xf c, v)]) ∧ ∀ p, H p = none → D.rt (.ref p) (upd H p (.tup [.str w, v])))
      rfl rfl nd rfl le ⟨gg, dg, .inl mG⟩ LamX.takes0 (fun W pn xe tk _ => ?_) fun e oe cls d pn hz hf => ?_), ?_⟩
  · refine ⟨fun pins s' σ H' D I h' => ?_⟩
    obtain ⟨Ech, hW, h1, h2, h3⟩ := h'
    have tk2 : Takes ((cxOf C8.CX0 X.prog X.w X.K X.mg X.base [a, en] x sg g cdg X.A X.stack s H C8.E0).tr pn xe) (fun cls d σ' H' => Ech cls d H') :=
      takes_len (X := (cxOf C8.CX0 X.prog X.w X.K X.mg X.base [a, en] x sg g cdg X.A X.stack s H C8.E0).tr pn xe) tk fun cls d σ' H' l z => hW cls d σ' H' l z
    have hp := act (fun cls d σ' H' => Ech cls d H') pn xe Ech p1 p2 tk2 (fun _ _ _ _ z => z)
    have hq := pss_one (ps_ret (pos := p4) (pe_lst (pos := p3) (pa_cons hp pa_nil rfl)))
    refine hq.run pins s' σ H' D I ⟨h1, h2, ?_⟩
    refine cast (congrArg (tl Ech H') (funext fun v => funext fun H2 => ?_)) h3
    refine propext ⟨fun z => ⟨by show 1 ≤ sizeLine; decide, z⟩, fun z => z.2⟩
  · have hl : Vis ((cxOf C8.CX0 X.prog X.w X.K X.mg X.base [a, en] x sg g cdg X.A X.stack s H C8.E0).nox.suite e ((e, oe) :: pn)).env.scope en := .inl le
    refine PSsw (pss_one (ps_ret (pe_ifExp (pt_val (pe_callB (is_x (X := (cxOf C8.CX0 X.prog X.w X.K X.mg X.base [a, en] x sg g cdg X.A X.stack s H C8.E0).nox) (cv := .ref (L.ca c)) T Y hz hf (fun _ z => z) kt) gi mi (by decide +kernel) (pa_cons (pe_var (i := 1) rfl hl de de2) (pa_cons (pe_glob (v := .ref (L.ca c)) gc mC rfl dc) pa_nil rfl) rfl) (by decide) (by decide) rfl rfl) (fun _ => rfl))
      (pe_tup (pa_cons pe_str (pa_cons (e_xf (X := (cxOf C8.CX0 X.prog X.w X.K X.mg X.base [a, en] x sg g cdg X.A X.stack s H C8.E0).nox) (i := 1) T rfl (.inl le) de de2 hz hf) pa_nil rfl) rfl)) e_never))) fun D σ H h => ?_
    obtain ⟨h1, h2, dd, v, h3, h4, h5⟩ := h
    refine ⟨_, h1, rfl, h2, ⟨dd, v, h3, h4⟩, true, rfl, ?_⟩
    show (if true = true then tTup (tCons (tC (V.str w)) (tCons (tXf 1 (L.ca c) (L.xf c) e cls d) tNil)) σ H D.rt else False)
    rw [if_pos rfl]
    exact ⟨h1, h2, dd, v, h3, h4, by show 2 ≤ sizeLine; decide, h5⟩
  · refine ⟨_, fun cls d σ' H' l z => ?_, rfl, hc, h⟩
    obtain ⟨c1, w1, dd, v, z1, z2, z3, z4, z5⟩ := z
    have z1 : (match Nat.beq c c1 with
      | true => some w
      | false => none) = some w1 := z1
    cases eb : Nat.beq c c1 with
    | false => rw [eb] at z1; cases z1
    | true =>
      rw [eb] at z1
      cases z1
      cases Nat.eq_of_beq_eq_true eb
      rw [z2]
      refine ⟨true, eG, fun _ e0 _ => ?_, fun z => by cases z⟩
      exact ⟨List.getElem?_set_self (by omega), rfl, dd, v, z3, z4, z5⟩
/-- the call of a def that hears, by its denotation -/
theorem e_hrd {hs : List (Nat × PySem.Str)} {fe : FE} {Pt cc : Addr} {k : Nat} {pg : Arguments} {bg : List Stmt} {dV kV doc pm cdv ct oc : Value} {an od : Option Addr} {osl : Array (Option Value)} {Ng : List PySem.Str} {params : Arguments} {body : Expr} {scope : Scope} {p lpos pos : Pos} (hg : Gl X x) (hm : X.mg x = some (.ref g)) (hk : PySem.W.keepIn X.K (.ref g) = true)
    (lk : X.K.lookup g = some ⟨oc, od, .func (PySem.W.fnOf x x pg bg sg dV kV doc pm an cdv ct), osl⟩) (hcg : PySem.W.codeIn X.K cdv x = true) (hb : ∀ (s : Shared) (u : Value), BindsTo s (PySem.W.fnOf x x pg bg sg dV kV doc pm an cdv ct) ⟨[u], []⟩ [(a, u)]) (Sg : FnScope Ng [a] sg) (hNg : Ng[0]? = some a) (hva : Vis sg a)
    (hG : LamX.GivesTo X Ng x sg g cdv bg a (lamq X) (TTh L hs)) (TB : LamX.TabB X.base X.mg cc Pt) (hcode : X.env.code = .ref cc) (hT : (Pt, lamq X) ∈ L.T) (hTu : ∀ t ∈ L.T, t.1 = Pt → t.2 = lamq X) (hr : Rm (k + 2) X.A) (W : LamX.LamS X.env.scope scope) (hdef : defaultsOf params X.env = ([], []))
    (hbind : ∀ (q : PySem.Str) (cl : List (PySem.Str × Addr)) (pm cv ctv : Value), bindArgs (PySem.W.kla_fn "<lambda>" q params body scope cl pm cv ctv) ⟨[], []⟩ = pure [])
    (hbody : ∀ (A : Around) (outer : List Env) (s : Shared) (H : Hp) (E : XK) (f c' : Addr), Rm k (A.deeper (LamX.lamEnv X scope s.heap.objs.size f c')) → PE (LamX.lamCx X A outer s H E scope f c') body (tE L E fe))
    (hdb : (x == ("__debug__" : PySem.Str)) = false) (hd : (a == ("__debug__" : PySem.Str)) = false) (hcd : (a == ("__classdict__" : PySem.Str)) = false) :
    PE X (.Call (.Name x p) [.Lambda params body scope lpos] [] pos) (tE L E (hrdF hs fe)) := by
  refine PEw (e_lam3 (P := Pt) hg hm hk lk hcg hb Sg hNg hva hG TB hcode hr W hdef hbind (t := fun E => tE L E fe) hbody hdb hd hcd) fun σ H Q h => ?_
  obtain ⟨μ, B, ρ, S, rs, rl, o⟩ := h
  refine ⟨?_, fun H1 gr => ?_⟩
  · obtain ⟨_, ps, h1, h2, h3⟩ := rs.tab _ hT
    refine ⟨ps, h1, h2, fun pos cv e => ?_⟩
    obtain ⟨d, d1, d2, _⟩ := h3 pos cv e
    exact ⟨d, d1, d2⟩
  · have rs1 : RelS L μ H1 (B ++ S) := rs.grown gr hTu
    have e1 : Ext μ H μ H1 := gr.ext
    have o : OutOk L E μ H B (match fe B ρ S with
      | .ok v S' => .ok (.lst [v]) S'
      | .exc c v S' => match lookC c hs with
        | some w => .ok (.tup [.str w, v]) S'
        | none => .fail
      | .fail => .fail) (fun p _ μ' H' => ∀ v, RelP L μ' H' p v → Q v H') := o
    refine ⟨μ, B, ρ, S, rs1, rl.mono e1, ?_⟩
    cases e : fe B ρ S with
    | fail => rw [e] at o; exact False.elim o
    | ok v S' =>
      rw [e] at o
      intro μ' H' e2 rs2 y hy p hp
      have out : μ'.Out p := ⟨rs2.free hp, fun z => (rs2.hid p z).1 hp⟩
      have el := Ext.laid (o := .lst [y]) rs2 hp
      exact o μ' (upd H' p (.lst [y])) ((e1.trans e2).trans el) (rs2.laid hp) (.ref p) ⟨p, [y], rfl, upd_same, out, y, [], rfl, RelP.mono el _ _ hy, rfl⟩
    | exc c v S' =>
      rw [e] at o
      have o : OutOk L E μ H B (match lookC c hs with
        | some w => .ok (.tup [.str w, v]) S'
        | none => .fail) (fun p _ μ' H' => ∀ v, RelP L μ' H' p v → Q v H') := o
      cases ew : lookC c hs with
      | none => rw [ew] at o; exact False.elim o
      | some w =>
        rw [ew] at o
        intro μ' H' d y e2 rs2 hy hd
        refine ⟨c, w, d, y, ew, rfl, rfl, hd, fun p hp => ?_⟩
        have el := Ext.laid (o := .tup [.str w, y]) rs2 hp
        exact o μ' (upd H' p (.tup [.str w, y])) ((e1.trans e2).trans el) (rs2.laid hp) (.ref p) ⟨p, [.str w, y], rfl, .inl (.inl upd_same), .str w, [y], rfl, rfl, y, [], rfl, RelP.mono el _ _ hy, rfl⟩
end
end RV
end
section
/-! RVRp: repr(a) != repr(b), both of equal data. -/
namespace RV
open PySem PySem.Spec PyProof.Rows L2
theorem sh_int {i : Int} (h : Nat.blt i.natAbs 10000000000000000000000000000000000000000 = true) : i.natAbs < 10 ^ 40 := Nat.blt_eq.mp h
theorem sh_log {i : Int} (h : i.natAbs < 10 ^ 40) : i.natAbs.log2 < 139 := by
  by_cases z : i.natAbs = 0
  · rw [z]; decide
  · exact (Nat.log2_lt z).mpr (Nat.lt_of_lt_of_le h (by decide))
mutual
theorem shD_ok (l : Bool) : ∀ (d : PyData) (n : Nat), shD l d n = true → d.leavesShort 41 = true ∧ d.showable = true ∧ d.depth ≤ n ∧ (d.hasDict = true → l = false) ∧ d.weight ≤ wtD d
  | .none, _, _ => ⟨rfl, rfl, Nat.zero_le _, (fun z => by cases z), Nat.zero_le _⟩
  | .bool _, _, _ => ⟨rfl, rfl, Nat.zero_le _, (fun z => by cases z), Nat.zero_le _⟩
  | .int i, _, h => by
    have h := sh_int h
    have e := int_text_length_le10 (k := 40) (by decide) h
    have g := sh_log h
    refine ⟨?_, ?_, Nat.zero_le _, (fun z => by cases z), ?_⟩
    · show decide ((PyData.shown (.int i)).length ≤ 41) = true
      refine decide_eq_true ?_
      show (Str.ofString (toString i)).length ≤ 41
      rw [PySem.ofString_length]; exact e
    · exact decide_eq_true (Nat.lt_trans g (by decide))
    · show (if (i == 0) = true then 0 else i.natAbs.log2 + 1) ≤ 140
      split
      · exact Nat.zero_le _
      · omega
  | .str x, _, h => by
    refine ⟨?_, rfl, Nat.zero_le _, (fun z => by cases z), Nat.le_refl _⟩
    have h : (x.cps.toList.all fun c => Nat.blt c 4294967296) = true := h
    show (x.cps.toList.all fun c => decide (c < 16 ^ 8)) = true
    rw [List.all_eq_true] at h ⊢
    exact fun c hc => decide_eq_true (by have := Nat.blt_eq.mp (h c hc); exact this)
  | .tuple xs, 0, h => by cases h
  | .tuple xs, n + 1, h => by
    obtain ⟨h1, h2, h3, h4, h5⟩ := shDs_ok l xs n h
    exact ⟨h1, h2, Nat.succ_le_succ h3, h4, h5⟩
  | .list xs, 0, h => by
    have h : (l && false) = true := h
    rw [Bool.and_false] at h; cases h
  | .list xs, n + 1, h => by
    have h : (l && shDs l xs n) = true := h
    rw [Bool.and_eq_true] at h
    obtain ⟨h1, h2, h3, h4, h5⟩ := shDs_ok l xs n h.2
    exact ⟨h1, h2, Nat.succ_le_succ h3, h4, h5⟩
  | .dict kvs, n, h => by
    have h : (!l && kvs.isEmpty && Nat.blt 0 n) = true := h
    rw [Bool.and_eq_true, Bool.and_eq_true, Bool.not_eq_true'] at h
    obtain ⟨⟨h1, h2⟩, h3⟩ := h
    have h3 := Nat.blt_eq.mp h3
    cases kvs with
    | cons _ _ => cases h2
    | nil => exact ⟨rfl, rfl, h3, fun _ => h1, Nat.zero_le _⟩
theorem shDs_ok (l : Bool) : ∀ (ds : List PyData) (n : Nat), shDs l ds n = true → PyData.leavesShortAll 41 ds = true ∧ PyData.showableAll ds = true ∧ PyData.depthAll ds ≤ n ∧ (PyData.hasDictAll ds = true → l = false) ∧ PyData.weightAll ds ≤ wtDs ds
  | [], _, _ => ⟨rfl, rfl, Nat.zero_le _, (fun z => by cases z), Nat.zero_le _⟩
  | d :: ds, n, h => by
    have h : (shD l d n && shDs l ds n) = true := h
    rw [Bool.and_eq_true] at h
    obtain ⟨a1, a2, a3, a4, a5⟩ := shD_ok l d n h.1
    obtain ⟨b1, b2, b3, b4, b5⟩ := shDs_ok l ds n h.2
    refine ⟨?_, ?_, Nat.max_le.mpr ⟨a3, b3⟩, fun z => ?_, ?_⟩
    · show (d.leavesShort 41 && PyData.leavesShortAll 41 ds) = true
      rw [a1, b1]; rfl
    · show (d.showable && PyData.showableAll ds) = true
      rw [a2, b2]; rfl
    · have z : (d.hasDict || PyData.hasDictAll ds) = true := z
      rw [Bool.or_eq_true] at z
      exact z.elim a4 b4
    · show d.weight + 1 + PyData.weightAll ds ≤ wtD d + 1 + wtDs ds
      omega
end
mutual
theorem sameD_ok : ∀ (d e : PyData), sameD d e = true → d = e
  | .none, e, h => by cases e <;> first | rfl | cases h
  | .bool b, e, h => by
    cases e with
    | bool c => rw [show b = c from beq_iff_eq.mp h]
    | _ => cases h
  | .int i, e, h => by
    cases e with
    | int j => rw [show i = j from of_decide_eq_true h]
    | _ => cases h
  | .str x, e, h => by
    cases e with
    | str y => rw [show x = y from of_decide_eq_true h]
    | _ => cases h
  | .tuple xs, e, h => by
    cases e with
    | tuple ys => rw [sameDs_ok xs ys h]
    | _ => cases h
  | .list xs, e, h => by
    cases e with
    | list ys => rw [sameDs_ok xs ys h]
    | _ => cases h
  | .dict kvs, e, h => by
    cases kvs with
    | cons _ _ => cases h
    | nil =>
      cases e with
      | dict ks =>
        cases ks with
        | nil => rfl
        | cons _ _ => cases h
      | _ => cases h
theorem sameDs_ok : ∀ (ds es : List PyData), sameDs ds es = true → ds = es
  | [], es, h => by
    cases es with
    | nil => rfl
    | cons _ _ => cases h
  | d :: ds, es, h => by
    cases es with
    | nil => cases h
    | cons e es =>
      have h : (sameD d e && sameDs ds es) = true := h
      rw [Bool.and_eq_true] at h
      rw [sameD_ok d e h.1, sameDs_ok ds es h.2]
end
section
variable {X : Cx} {L : Pl} {E : XK} {pins : List (Addr × Obj)} {σ : L2.St} {μ : Mu} {H : Hp} {B S : Sto} {s : Shared}
mutual
theorem rd_reads (hK : X.K = L.K) (I : Inv X pins σ H s) (rs : RelS L μ H (B ++ S)) : ∀ (p : PV) (v : V) (u : Value) (d : PyData), rdP B S p = some d → RelP L μ H p v → RelV v u → ∃ as, Reads s.heap u d as ∧ ∀ n, shD false d n = true → sysModules ∉ as
  | .non, v, u, d, e, hp, r => by
    have e : some PyData.none = some d := e
    have hp : v = .non := hp
    cases e
    subst hp
    cases r
    exact ⟨_, .none, fun _ _ z => by cases z⟩
  | .bl b, v, u, d, e, hp, r => by
    have e : some (PyData.bool b) = some d := e
    have hp : v = .bl b := hp
    cases e
    subst hp
    cases r
    exact ⟨_, .bool b, fun _ _ z => by cases z⟩
  | .int i, v, u, d, e, hp, r => by
    have e : some (PyData.int i) = some d := e
    have hp : v = .int i := hp
    cases e
    subst hp
    obtain ⟨t, rfl⟩ := r
    exact ⟨_, .int i t, fun _ _ z => by cases z⟩
  | .str x, v, u, d, e, hp, r => by
    have e : some (PyData.str x) = some d := e
    have hp : v = .str x := hp
    cases e
    subst hp
    obtain ⟨t, rfl⟩ := r
    exact ⟨_, .str x t, fun _ _ z => by cases z⟩
  | .tup xs, v, u, d, e, hp, r => by
    obtain ⟨ds, e1, rfl⟩ := Option.map_eq_some_iff.mp (show (rdPs B S xs).map .tuple = some d from e)
    obtain ⟨a, ys, rfl, h1, h2⟩ := hp
    cases r
    obtain ⟨its, rv, ⟨o, ho, hc, n, hd⟩, _⟩ := I.tuple (by rw [hK]; exact h1)
    obtain ⟨as, hr, no⟩ := rds_reads hK I rs xs ys its ds e1 h2 rv
    refine ⟨as, .tuple ho hc hd hr, fun k z => ?_⟩
    cases k with
    | zero => cases z
    | succ k => exact no k z
  | .lst xs, v, u, d, e, hp, r => by
    obtain ⟨ds, e1, rfl⟩ := Option.map_eq_some_iff.mp (show (rdPs B S xs).map .list = some d from e)
    obtain ⟨a, ys, rfl, h1, _, h2⟩ := hp
    cases r
    obtain ⟨its, rv, ⟨o, n, ho, hc, _, hd⟩, _⟩ := I.list (SqL.of h1)
    obtain ⟨as, hr, no⟩ := rds_reads hK I rs xs ys its ds e1 h2 rv
    refine ⟨_, .list ho hc hd hr, fun k z => ?_⟩
    cases k <;> cases z
  | .scr _, _, _, _, e, _, _ => by cases e
  | .obj n, v, u, d, e, hp, r => by
    have e : (match getS B S n with
      | some (.dlf []) => some (PyData.dict [])
      | _ => none) = some d := e
    cases g : getS B S n with
    | none => rw [g] at e; cases e
    | some o =>
      rw [g] at e
      cases o with
      | dlf kvs =>
        cases kvs with
        | cons _ _ => cases e
        | nil =>
          have e : some (PyData.dict []) = some d := e
          cases e
          obtain ⟨b, rfl, _, gs, h1, _, h3⟩ := rs.get g hp
          have h3 : gs = [] := h3
          subst h3
          cases r
          obtain ⟨_, ns, vs, kv, ob, es, ep, g1, g2, g3, _, g5, _⟩ := dk_of I.hok h1
          cases kv
          have el : es.toList = [] := by
            cases z : es.toList with
            | nil => rfl
            | cons _ _ => rw [z] at g5; cases g5
          refine ⟨_, .dict (kvs := []) (as := []) (bs := []) g1 g2.1 g3 (by rw [el]; exact .nil) (by rw [el]; exact .nil), fun k _ z => ?_⟩
          have z : sysModules = b := by simpa using z
          rw [← z] at ns
          simp at ns
      | _ => cases e
theorem rds_reads (hK : X.K = L.K) (I : Inv X pins σ H s) (rs : RelS L μ H (B ++ S)) : ∀ (ps : List PV) (vs : List V) (us : List Value) (ds : List PyData), rdPs B S ps = some ds → RelL L μ H ps vs → Vals vs us → ∃ as, ReadsAll s.heap us ds as ∧ ∀ n, shDs false ds n = true → sysModules ∉ as
  | [], vs, us, ds, e, hp, r => by
    have e : some [] = some ds := e
    have hp : vs = [] := hp
    cases e
    subst hp
    cases r
    exact ⟨_, .nil, fun _ _ z => by cases z⟩
  | p :: ps, vs, us, ds, e, hp, r => by
    obtain ⟨y, ys, rfl, h1, h2⟩ := hp
    have e : (match rdP B S p with
      | some d => (rdPs B S ps).map (d :: ·)
      | none => none) = some ds := e
    cases g : rdP B S p with
    | none => rw [g] at e; cases e
    | some d =>
      rw [g] at e
      obtain ⟨ds', e1, rfl⟩ := Option.map_eq_some_iff.mp (show (rdPs B S ps).map (d :: ·) = some ds from e)
      cases r with
      | cons r1 r2 =>
        obtain ⟨as, q1, n1⟩ := rd_reads hK I rs p y _ d g h1 r1
        obtain ⟨bs, q2, n2⟩ := rds_reads hK I rs ps ys _ ds' e1 h2 r2
        refine ⟨_, .cons q1 q2, fun k z => ?_⟩
        have z : (shD false d k && shDs false ds' k) = true := z
        rw [Bool.and_eq_true] at z
        rw [List.mem_append, not_or]
        exact ⟨n1 k z.1, n2 k z.2⟩
end
theorem rdO_ok {x : PV} {d : PyData} (h : rdO B S x = some d) : rdP B S x = some d ∧ topD d = true ∧ (shD true d 60 = true ∨ shD false d 60 = true) ∧ wtD d ≤ 300000 := by
  unfold rdO at h
  cases e : rdP B S x with
  | none => rw [e] at h; cases h
  | some d' =>
    rw [e] at h
    have h : (match topD d' && (shD true d' 60 || shD false d' 60) && Nat.ble (wtD d') 300000 with
      | true => some d'
      | false => none) = some d := h
    cases z : topD d' && (shD true d' 60 || shD false d' 60) && Nat.ble (wtD d') 300000 with
    | false => rw [z] at h; cases h
    | true =>
      rw [z] at h
      cases h
      rw [Bool.and_eq_true, Bool.and_eq_true, Bool.or_eq_true] at z
      exact ⟨rfl, z.1.1, z.1.2, Nat.le_of_ble_eq_true z.2⟩
/-- what repr is asked of -/
def rRep (X : Cx) : List V → Hp → VK → Prop := fun xs H Q => ∃ x d, xs = [x] ∧ topD d = true ∧ (shD true d 60 = true ∨ shD false d 60 = true) ∧ wtD d ≤ 300000 ∧
  (∀ pins σ s u, Inv X pins σ H s → RelV x u → ∃ as, Reads s.heap u d as ∧ ∀ n, shD false d n = true → sysModules ∉ as) ∧ Q (.str d.shown) H
theorem call_rep (hu : X.A.units + 65 < cLine) (hg : X.A.guards = some []) : CallR X (.builtin "repr") (rRep X) := by
  intro pins s σ H xs us Q I r h
  obtain ⟨x, d, rfl, tp, sh, wt, rd, q⟩ := h
  obtain ⟨u, rfl, rx⟩ := vals1 r
  obtain ⟨as, hr, no⟩ := rd pins σ s u I rx
  have ok : ∃ l, shD l d 60 = true := sh.elim (fun z => ⟨_, z⟩) fun z => ⟨_, z⟩
  obtain ⟨l, ok⟩ := ok
  obtain ⟨h1, h2, h3, _, h5⟩ := shD_ok l d 60 ok
  have hsm : d.hasDict = true → sysModules ∉ as := fun z => by
    rcases sh with y | y
    · exact absurd ((shD_ok true d 60 y).2.2.2.1 z) (by decide)
    · exact no 60 y
  have hz : d.shown.length ≤ sizeLine := by
    have := PyData.shown_le 41 (by decide) d h1
    have e : sizeLine = 16777216 := by decide
    rw [e]
    omega
  obtain ⟨a, rfl⟩ : ∃ a, u = .ref a := by
    cases hr <;> first | exact ⟨_, rfl⟩ | cases tp
  exact repr_of_reads' hr h2 hsm hg (by omega) (fun _ _ e => e) (fun h' u tk hk => ⟨.str d.shown, H, I.kept hk, ⟨u, rfl⟩, q⟩) hz
/-- repr(e) -/
def tRp (L : Pl) (E : XK) (f : FE) : TE := fun σ H Q => ∃ μ B ρ S, RelS L μ H (B ++ S) ∧ RelR L μ H ρ σ ∧ OutOk L E μ H B (f B ρ S) (fun p S' μ' H' => ∃ d, rdO B S' p = some d ∧ Q (.str d.shown) H')
theorem e_rep {e : Expr} {f : FE} {p pos : Pos} (hK : X.K = L.K) (hu : X.A.units + 65 < cLine) (hgd : X.A.guards = some []) (hg : Gl X "repr") (hm : X.mg "repr" = none) (he : PE X e (tE L E f)) (hst : starEach [e] X.env = [(false, eval e X.env)]) :
    PE X (.Call (.Name "repr" p) [e] [] pos) (tRp L E f) := by
  refine PEw (pe_callB (call_rep hu hgd) hg hm (by decide +kernel) (pa_cons he pa_nil (by rw [hst]; rfl)) (by decide) (by decide) (by rw [hst]; rfl) rfl) fun σ H Q h => ?_
  obtain ⟨μ, B, ρ, S, rs, rl, o⟩ := h
  refine ⟨μ, B, ρ, S, rs, rl, o.imp fun y S1 μ1 H1 e1 rs1 o1 x hx => ?_⟩
  obtain ⟨d, ed, q⟩ := o1
  obtain ⟨r1, r2, r3, r4⟩ := rdO_ok ed
  exact ⟨x, d, rfl, r2, r3, r4, fun pins σ s u I rx => rd_reads hK I rs1 y x u d r1 hx rx, q⟩
def rneF (fa fb : FE) : FE := fun B ρ S => (fa B ρ S).bind fun x S => match rdO B S x with
    | some d => (fb B ρ S).bind fun y S => match rdO B S y with
      | some e => (match sameD d e with
        | true => .ok (.bl false) S
        | false => .fail)
      | none => .fail
    | none => .fail
theorem tRne {fa fb : FE} {Q : VK} {H : Hp} (h : tE L E (rneF fa fb) σ H Q) : tOp rNe (tRp L E fa) (tRp L E fb) σ H Q := by
  obtain ⟨μ, B, ρ, S, rs, rl, o⟩ := h
  refine ⟨μ, B, ρ, S, rs, rl, (OutOk.bind o).imp fun x S1 μ1 H1 e1 rs1 o1 => ?_⟩
  have o1 : OutOk L E μ1 H1 B (match rdO B S1 x with
    | some d => (fb B ρ S1).bind fun y S => match rdO B S y with
      | some e => (match sameD d e with
        | true => .ok (.bl false) S
        | false => .fail)
      | none => .fail
    | none => .fail) (fun p _ μ' H' => ∀ v, RelP L μ' H' p v → Q v H') := o1
  cases ed : rdO B S1 x with
  | none => rw [ed] at o1; exact False.elim o1
  | some d =>
    rw [ed] at o1
    refine ⟨d, rfl, μ1, B, ρ, S1, rs1, rl.mono e1, (OutOk.bind o1).imp fun y S2 μ2 H2 e2 rs2 o2 => ?_⟩
    have o2 : OutOk L E μ2 H2 B (match rdO B S2 y with
      | some e => (match sameD d e with
        | true => .ok (.bl false) S2
        | false => .fail)
      | none => .fail) (fun p _ μ' H' => ∀ v, RelP L μ' H' p v → Q v H') := o2
    cases ee : rdO B S2 y with
    | none => rw [ee] at o2; exact False.elim o2
    | some e =>
      rw [ee] at o2
      have o2 : OutOk L E μ2 H2 B (match sameD d e with
        | true => .ok (.bl false) S2
        | false => .fail) (fun p _ μ' H' => ∀ v, RelP L μ' H' p v → Q v H') := o2
      cases es : sameD d e with
      | false => rw [es] at o2; exact False.elim o2
      | true =>
        rw [es] at o2
        have o3 : OutOk L E μ2 H2 B (.ok (.bl false) S2) (fun p _ μ' H' => ∀ v, RelP L μ' H' p v → Q v H') := o2
        have fin : Q (.bl false) H2 := OutOk.now o3 rs2 (.bl false) rfl
        have := sameD_ok d e es
        subst this
        exact ⟨d, rfl, rfl, by simpa using fin⟩
theorem e_rne {a b : Expr} {fa fb : FE} {p1 p2 p3 p4 pos : Pos} (hK : X.K = L.K) (hu : X.A.units + 65 < cLine) (hgd : X.A.guards = some []) (hg : Gl X "repr") (hm : X.mg "repr" = none) (ha : PE X a (tE L E fa)) (hb : PE X b (tE L E fb)) (sa : starEach [a] X.env = [(false, eval a X.env)]) (sb : starEach [b] X.env = [(false, eval b X.env)]) :
    PE X (.Compare (.Call (.Name "repr" p1) [a] [] p2) [.NotEq] [.Call (.Name "repr" p3) [b] [] p4] pos) (tE L E (rneF fa fb)) := PEw (pe_cmpR op_ne (e_rep hK hu hgd hg hm ha sa) (e_rep hK hu hgd hg hm hb sb) rfl) fun _ _ _ h => tRne h
theorem t_rne {a b : Expr} {fa fb : FE} {p1 p2 p3 p4 pos : Pos} (hK : X.K = L.K) (hu : X.A.units + 65 < cLine) (hgd : X.A.guards = some []) (hg : Gl X "repr") (hm : X.mg "repr" = none) (ha : PE X a (tE L E fa)) (hb : PE X b (tE L E fb)) (sa : starEach [a] X.env = [(false, eval a X.env)]) (sb : starEach [b] X.env = [(false, eval b X.env)]) :
    PT X (.Compare (.Call (.Name "repr" p1) [a] [] p2) [.NotEq] [.Call (.Name "repr" p3) [b] [] p4] pos) (tT L E (rneF fa fb)) := PTw (pt_cmpR op_ne (e_rep hK hu hgd hg hm ha sa) (e_rep hK hu hgd hg hm hb sb) rfl) fun _ _ _ h => tRne h
end
end RV
end
section
/-! RVCtx: the text's tables, the context of a body. -/
namespace RV
open PySem PySem.Spec PyProof.Rows L2
/-! ### names -/
def eqN : List Nat → List Nat → Bool
  | [], [] => true
  | a :: as, b :: bs => Nat.beq a b && eqN as bs
  | _, _ => false
def sEq (x y : Str) : Bool := eqN x.cps.toList y.cps.toList
theorem eqN_ok : ∀ {a b : List Nat}, eqN a b = true → a = b
  | [], [], _ => rfl
  | [], _ :: _, h => (Bool.false_ne_true h).elim
  | _ :: _, [], h => (Bool.false_ne_true h).elim
  | a :: as, b :: bs, h => by
    have h : (Nat.beq a b && eqN as bs) = true := h
    rw [Bool.and_eq_true] at h
    rw [Nat.eq_of_beq_eq_true h.1, eqN_ok h.2]
theorem eqN_refl : ∀ a : List Nat, eqN a a = true
  | [] => rfl
  | a :: as => by
    show (Nat.beq a a && eqN as as) = true
    rw [Nat.beq_refl, eqN_refl as]; rfl
theorem sEq_ok {x y : Str} (h : sEq x y = true) : x = y := by
  obtain ⟨⟨a⟩⟩ := x
  obtain ⟨⟨b⟩⟩ := y
  have : a = b := eqN_ok h
  rw [this]
theorem sEq_refl (x : Str) : sEq x x = true := eqN_refl _
theorem sEq_eq (x y : Str) : sEq x y = (x == y) := by
  by_cases h : x = y
  · subst h; rw [sEq_refl]; simp
  · have : sEq x y = false := by
      cases e : sEq x y with
      | false => rfl
      | true => exact absurd (sEq_ok e) h
    rw [this]; simp [h]
def lkp (x : Str) : List (Str × NameKind) → Option NameKind
  | [] => none
  | (y, k) :: r => match sEq x y with
    | true => some k
    | false => lkp x r
theorem lkp_eq (x : Str) : ∀ l : List (Str × NameKind), lkp x l = l.lookup x
  | [] => rfl
  | (y, k) :: r => by
    show (match sEq x y with
      | true => some k
      | false => lkp x r) = _
    rw [sEq_eq, List.lookup_cons, lkp_eq x r]
    cases x == y <;> rfl
def ndb (x : Str) : Bool := !sEq x "__debug__" && !sEq x "__classdict__" && !sEq x "__name__"
theorem ndb_1 {x : Str} (h : ndb x = true) : (x == ("__debug__" : Str)) = false := by
  unfold ndb at h
  rw [Bool.and_eq_true, Bool.and_eq_true, Bool.not_eq_true'] at h
  rw [← sEq_eq]; exact h.1.1
theorem ndb_2 {x : Str} (h : ndb x = true) : (x == ("__classdict__" : Str)) = false := by
  unfold ndb at h
  rw [Bool.and_eq_true, Bool.and_eq_true, Bool.not_eq_true', Bool.not_eq_true', Bool.not_eq_true'] at h
  rw [← sEq_eq]; exact h.1.2
theorem ndb_3 {x : Str} (h : ndb x = true) : x ≠ "__name__" := by
  unfold ndb at h
  rw [Bool.and_eq_true, Bool.and_eq_true, Bool.not_eq_true', Bool.not_eq_true', Bool.not_eq_true'] at h
  rintro rfl
  have := h.2
  rw [sEq_refl] at this
  cases this
/-! ### tables -/
/-- the text's tables: per def its module name (none: a method) and parameters; names of classes, of fields; methods; constants; classes for isinstance -/
structure Zt where
  fns : List (Option Str × List Str)
  cls : List Str
  fld : List Str
  mts : List (Nat × Str × Nat)
  glb : List (Str × PV)
  own : List Nat
  exs : List (Nat × Str)
  hrd : List (Nat × List (Nat × Str))
structure En where
  L : Pl
  C : Cfg
  mg : Str → Option Value
  base : Heap
  fa : Nat → Addr
  fd : Nat → FuncData
abbrev En.CX (D : En) : CXT := L2.CX D.L.P D.L.w
def bNames : List Str := ["len", "all", "any", "sum", "tuple", "list", "int", "min", "max", "sorted", "isinstance", "range", "enumerate", "zip", "bool", "str", "super", "repr"]
/-- a def of the text that hears what a call tells -/
def HrdOk (D : En) (f : Nat) (x : Str) (hs : List (Nat × Str)) : Prop := ∃ (a : Str) (Ng : List Str) (sg : Scope) (pg : Arguments) (bg : List Stmt) (dV kV doc pm : Value) (an : Option Addr) (cdv ct oc : Value) (od : Option Addr) (osl : Array (Option Value)),
  D.mg x = some (.ref (D.fa f)) ∧ PySem.W.keepIn D.L.K (.ref (D.fa f)) = true ∧ D.L.K.lookup (D.fa f) = some ⟨oc, od, .func (PySem.W.fnOf x x pg bg sg dV kV doc pm an cdv ct), osl⟩ ∧ PySem.W.codeIn D.L.K cdv x = true ∧
  (∀ (s : Shared) (u : Value), BindsTo s (PySem.W.fnOf x x pg bg sg dV kV doc pm an cdv ct) ⟨[u], []⟩ [(a, u)]) ∧ FnScope Ng [a] sg ∧ Ng[0]? = some a ∧ Vis sg a ∧ (a == ("__debug__" : Str)) = false ∧ (a == ("__classdict__" : Str)) = false ∧
  ∀ X : Cx, X.prog = D.L.P → X.K = D.L.K → X.mg = D.mg → LamX.GivesTo X Ng x sg (D.fa f) cdv bg a (lamq X) (TTh D.L hs)
/-- what stands behind the top -/
structure Fx0 (Z : Zt) (D : En) : Prop where
  par : ∀ f x ps, Z.fns[f]? = some (x, ps) → Par (D.fd f) ps
  kp : ∀ f x ps, Z.fns[f]? = some (some x, ps) → PySem.W.keepIn D.L.K (.ref (D.fa f)) = true ∧ D.mg x = some (.ref (D.fa f))
  cls : ∀ c x, Z.cls[c]? = some x → D.mg x = some (.ref (D.L.ca c))
  mkr : ∀ c f, D.C.ini c = some f → Mk D.L.K (D.L.ca c) (D.fa f)
  mt : ∀ c m f, (c, m, f) ∈ Z.mts → Cls D.L.K (D.L.ca c) ∧ Meth D.L.K (D.L.ca c) m (D.fa f) ∧ ∀ j, j < D.L.nf → D.L.fn j ≠ m
  tyc : ∀ c, c ∈ Z.own → TyC D.L.K (D.L.ca c)
  fld : ∀ f x, Z.fld[f]? = some x → D.L.fn f = x
  cf : ClsF D.L D.C.fld
  glI : ∀ x i, (x, PV.int i) ∈ Z.glb → ∃ t, D.mg x = some (.int i t)
  glS : ∀ x z, (x, PV.str z) ∈ Z.glb → ∃ t, D.mg x = some (.str z t)
  free : ∀ x, x ∈ bNames → D.mg x = none
  eqf : ∀ c f, D.C.eqm c = some f → ∃ x ps, Z.fns[f]? = some (x, ps) ∧ bindOk ps 2 [] [] = true
  eqc : ∀ c f, D.C.eqm c = some f → PySem.W.findIn D.L.K (.ref (D.L.ca c)) "__eq__" = some (some (.ref (D.fa f))) ∧ PySem.W.findIn D.L.K (.ref (D.L.ca c)) "__ne__" = some (some (.builtin "object.__ne__")) ∧ PySem.W.isFn D.L.K (.ref (D.fa f)) = true ∧ PySem.W.mroIn D.L.K (D.L.ca c) (.type "object") = some true
  exn : ∀ c f, (c, f) ∈ Z.exs → (∃ fI, XcT D.L.P D.L.K (D.L.ca c) fI (D.L.xf c)) ∧ D.L.xf c = f ∧ PySem.W.exmOne D.L.K (.ref (D.L.ca c)) (.ref (D.L.ca c)) = some true
  hrd : ∀ f hs x ps, (f, hs) ∈ Z.hrd → Z.fns[f]? = some (some x, ps) → HrdOk D f x hs
/-- the defs keep their promises -/
def FnA (Z : Zt) (D : En) (Φ : Nat → DefF) (k : Nat) : Prop := ∀ f x ps, Z.fns[f]? = some (x, ps) → FnO D.L.P D.L.w D.L.K D.mg D.base D.CX k (D.fa f) (D.fd f) ps (spF D.L (Φ f))
/-! ### the context of a body -/
structure Cc where
  N : List Str
  sc : Scope
  fn : Str → Bool
  lam : Bool
structure Ct (Z : Zt) (D : En) (Φ : Nat → DefF) (k : Nat) (E : XK) (c : Cc) (X : Cx) : Prop where
  fx : Fx0 Z D
  fn : FnA Z D Φ k
  P : X.prog = D.L.P
  w : X.w = D.L.w
  K : X.K = D.L.K
  mg : X.mg = D.mg
  base : X.base = D.base
  N : X.N = c.N
  nd : c.N.Nodup
  sc : X.env.scope = c.sc
  fnx : X.fn = c.fn
  calm : X.calm = true
  kind : c.sc.kind = .function
  rm : Rm (k + 1) X.A
  ps : Passes D.CX X E
  lam : c.lam = true → ∃ cc Pt, X.env.code = .ref cc ∧ LamX.TabB X.base X.mg cc Pt ∧ (Pt, lamq X) ∈ D.L.T ∧ (∀ p ∈ D.L.T, p.1 = Pt → p.2 = lamq X) ∧ Rm (k + 3) X.A
/-- .. of a comprehension -/
def Cc.blk (c : Cc) (scope : Scope) : Cc := ⟨c.N, relS scope c.sc, fun x => scope.names.lookup x == some .cell, false⟩
/-- .. of a lambda -/
def Cc.lamb (c : Cc) (scope : Scope) : Cc := ⟨c.N, scope, fun _ => false, false⟩
section
variable {Z : Zt} {D : En} {Φ : Nat → DefF} {k : Nat} {E : XK} {c : Cc} {X : Cx}
theorem Ct.blk (h : Ct Z D Φ k E c X) {scope : Scope} (hk : scope.kind = .function) (s : Shared) (H : Hp) (C : Addr) (cl : List (Str × Addr)) (fp : List Addr) : Ct Z D Φ k E0 (c.blk scope) (X.blk s H scope (compEnvC scope cl C X.env) fp) where
  fx := h.fx
  fn := h.fn
  P := h.P
  w := h.w
  K := h.K
  mg := h.mg
  base := h.base
  N := h.N
  nd := h.nd
  sc := by
    show relS scope X.env.scope = relS scope c.sc
    rw [h.sc]
  fnx := rfl
  calm := h.calm
  kind := hk
  rm := h.rm
  ps := by
    have e : D.CX = L2.CX (X.blk s H scope (compEnvC scope cl C X.env) fp).prog (X.blk s H scope (compEnvC scope cl C X.env) fp).w := by
      show L2.CX D.L.P D.L.w = L2.CX X.prog X.w
      rw [h.P, h.w]
    rw [e]
    exact passL
  lam := fun z => by cases z
theorem Ct.lamC (h : Ct Z D Φ k E c X) {scope : Scope} (hk : scope.kind = .function) (A : Around) (outer : List Env) (s : Shared) (H : Hp) (E' : XK) (f c' : Addr) (hr : Rm (k + 1) (A.deeper (LamX.lamEnv X scope s.heap.objs.size f c'))) : Ct Z D Φ k E' (c.lamb scope) (LamX.lamCx X A outer s H E' scope f c') where
  fx := h.fx
  fn := h.fn
  P := h.P
  w := h.w
  K := h.K
  mg := h.mg
  base := h.base
  N := h.N
  nd := h.nd
  sc := rfl
  fnx := rfl
  calm := rfl
  kind := hk
  rm := hr
  ps := by
    have e : D.CX = L2.CX (LamX.lamCx X A outer s H E' scope f c').prog (LamX.lamCx X A outer s H E' scope f c').w := by
      show L2.CX D.L.P D.L.w = L2.CX X.prog X.w
      rw [h.P, h.w]
    rw [e]
    exact passes_call (takes_of (X := LamX.lamCx X A outer s H E' scope f c') rfl rfl rfl rfl) (fun _ _ _ _ h => h)
  lam := fun z => by cases z
theorem Ct.un (h : Ct Z D Φ k E c X) : X.A.units + 65 < cLine := by
  have := h.rm.r.un
  omega
theorem Ct.r0 (h : Ct Z D Φ k E c X) : Rm k X.A := h.rm.mono (Nat.le_succ _)
theorem Ct.r1 (h : Ct Z D Φ k E c X) : Rm k X.A.in1 := h.rm.in1
/-- a def that is called -/
theorem Ct.fok (h : Ct Z D Φ k E c X) {f : Nat} {x : Option Str} {ps : List Str} (e : Z.fns[f]? = some (x, ps)) : FnO X.prog X.w X.K X.mg X.base D.CX k (D.fa f) (D.fd f) ps (spF D.L (Φ f)) := by
  rw [h.P, h.w, h.K, h.mg, h.base]
  exact h.fn f x ps e
theorem Ct.eqo (h : Ct Z D Φ k E c X) : EqOk X D.L E D.CX k D.C Φ := ⟨fun q f e => by
  obtain ⟨x, ps, e1, e2⟩ := h.fx.eqf q f e
  obtain ⟨g1, g2, g3, g4⟩ := h.fx.eqc q f e
  rw [← h.K] at g1 g2 g3 g4
  exact ⟨D.fa f, D.fd f, ps, ⟨g1, g2, g3, g4⟩, h.fok e1, h.fx.par f x ps e1, e2⟩⟩
def glB (c : Cc) (x : Str) : Bool := match lkp x c.sc.names with
  | some .globalImplicit => true
  | _ => false
theorem Ct.gl (h : Ct Z D Φ k E c X) {x : Str} (e : glB c x = true) : Gl X x := by
  show X.env.scope.names.lookup x = some .globalImplicit
  rw [h.sc, ← lkp_eq]
  unfold glB at e
  cases q : lkp x c.sc.names with
  | none => rw [q] at e; exact (Bool.false_ne_true e).elim
  | some k =>
    rw [q] at e
    cases k <;> first | rfl | exact (Bool.false_ne_true e).elim
def visB (c : Cc) (x : Str) : Bool := match lkp x c.sc.names with
  | some .local => true
  | some .cell => true
  | some .free => true
  | _ => false
theorem Ct.vis (h : Ct Z D Φ k E c X) {x : Str} (e : visB c x = true) : Vis X.env.scope x := by
  unfold Vis
  rw [h.sc, ← lkp_eq]
  unfold visB at e
  cases q : lkp x c.sc.names with
  | none => rw [q] at e; exact (Bool.false_ne_true e).elim
  | some k =>
    rw [q] at e
    cases k <;> first | exact .inl rfl | exact .inr (.inl rfl) | exact .inr (.inr rfl) | exact (Bool.false_ne_true e).elim
def locB (c : Cc) (x : Str) : Bool := match lkp x c.sc.names with
  | some .local => true
  | some .cell => c.fn x
  | _ => false
theorem Ct.loc (h : Ct Z D Φ k E c X) : LocOk X (locB c) := ⟨fun x e => by
  unfold locB at e
  rw [h.fnx]
  show (X.env.scope.names.lookup x = some .local ∨ X.env.scope.names.lookup x = some .cell) ∧ _
  rw [h.sc, ← lkp_eq]
  cases q : lkp x c.sc.names with
  | none => rw [q] at e; exact (Bool.false_ne_true e).elim
  | some k =>
    rw [q] at e
    cases k with
    | «local» => exact ⟨.inl rfl, .inr rfl⟩
    | cell => exact ⟨.inr rfl, .inl e⟩
    | _ => exact (Bool.false_ne_true e).elim⟩
def loB (c : Cc) (x : Str) : Bool := match lkp x c.sc.names with
  | some .local => true
  | _ => false
theorem Ct.lo (h : Ct Z D Φ k E c X) {x : Str} (e : loB c x = true) : X.env.scope.names.lookup x = some .local := by
  rw [h.sc, ← lkp_eq]
  unfold loB at e
  cases q : lkp x c.sc.names with
  | none => rw [q] at e; exact (Bool.false_ne_true e).elim
  | some k =>
    rw [q] at e
    cases k <;> first | rfl | exact (Bool.false_ne_true e).elim
def nmB (c : Cc) (i : Nat) (x : Str) : Bool := match c.N[i]? with
  | some y => sEq y x
  | none => false
theorem Ct.nm (h : Ct Z D Φ k E c X) {i : Nat} {x : Str} (e : nmB c i x = true) : X.N[i]? = some x := by
  rw [h.N]
  unfold nmB at e
  cases q : c.N[i]? with
  | none => rw [q] at e; exact (Bool.false_ne_true e).elim
  | some y =>
    rw [q] at e
    rw [sEq_ok e]
/-! ### a comprehension's block -/
def ownOf (N : List Str) : List Nat → List (Str × Nat)
  | [] => []
  | i :: r => match N[i]? with
    | some x => (x, i) :: ownOf N r
    | none => ownOf N r
theorem ownOf_ix {N : List Str} : ∀ {is : List Nat} {p : Str × Nat}, p ∈ ownOf N is → N[p.2]? = some p.1
  | [], _, h => by cases h
  | i :: r, p, h => by
    have h : p ∈ (match N[i]? with
      | some x => (x, i) :: ownOf N r
      | none => ownOf N r) := h
    cases q : N[i]? with
    | none => rw [q] at h; exact ownOf_ix h
    | some x =>
      rw [q] at h
      rcases List.mem_cons.mp h with e | h
      · rw [e]; exact q
      · exact ownOf_ix h
def isL (k : NameKind) : Bool := match k with
  | .local => true
  | .cell => true
  | _ => false
def isF (k : NameKind) : Bool := match k with
  | .free => true
  | _ => false
def kB (a : Option NameKind) (b : NameKind) : Bool := match a with
  | some k => decide (k = b)
  | none => false
theorem kB_ok {a : Option NameKind} {b : NameKind} (h : kB a b = true) : a = some b := by
  cases a with
  | none => exact (Bool.false_ne_true h).elim
  | some k => rw [of_decide_eq_true (show decide (k = b) = true from h)]
def hasN (x : Str) : List Str → Bool
  | [] => false
  | y :: r => sEq y x || hasN x r
theorem hasN_no {x : Str} : ∀ {l : List Str}, hasN x l = false → x ∉ l
  | [], _ => by simp
  | y :: r, h => by
    have h : (sEq y x || hasN x r) = false := h
    rw [Bool.or_eq_false_iff] at h
    intro z
    rcases List.mem_cons.mp z with e | z
    · rw [e, sEq_refl] at h; cases h.1
    · exact hasN_no h.2 z
theorem hasN_yes {x : Str} : ∀ {l : List Str}, hasN x l = true → x ∈ l
  | [], h => (Bool.false_ne_true h).elim
  | y :: r, h => by
    have h : (sEq y x || hasN x r) = true := h
    rw [Bool.or_eq_true] at h
    rcases h with h | h
    · rw [sEq_ok h]; exact List.mem_cons_self ..
    · exact List.mem_cons_of_mem _ (hasN_yes h)
def blkB (c : Cc) (scope : Scope) (is : List Nat) : Bool :=
  decide (scope.kind = .function) && eqN ((ownOf c.N is).map (·.2)) is && scope.names.all fun y => kB (lkp y.1 scope.names) y.2 && (!isF y.2 || (kB (lkp y.1 c.sc.names) .cell || kB (lkp y.1 c.sc.names) .free)) && (!isL y.2 || (hasN y.1 ((ownOf c.N is).map (·.1)) || !hasN y.1 c.N))
theorem Ct.blkOk (h : Ct Z D Φ k E c X) {scope : Scope} {is : List Nat} (e : blkB c scope is = true) : BlkOk X.N X.env.scope scope (ownOf c.N is) ∧ (ownOf c.N is).map (·.2) = is ∧ scope.kind = .function := by
  unfold blkB at e
  rw [Bool.and_eq_true, Bool.and_eq_true] at e
  obtain ⟨⟨e1, e2⟩, e3⟩ := e
  have hk : scope.kind = .function := of_decide_eq_true e1
  have a := List.all_eq_true.mp e3
  refine ⟨⟨hk, fun y hy => ?_, fun p hp => by rw [h.N]; exact ownOf_ix hp, fun y hy z => ?_, fun y hy z => ?_⟩, eqN_ok e2, hk⟩
  · have b := a y hy
    rw [Bool.and_eq_true, Bool.and_eq_true] at b
    rw [← lkp_eq]; exact kB_ok b.1.1
  · have b := a y hy
    rw [Bool.and_eq_true, Bool.and_eq_true, z] at b
    have b2 : (kB (lkp y.1 c.sc.names) .cell || kB (lkp y.1 c.sc.names) .free) = true := b.1.2
    rw [h.sc, ← lkp_eq]
    rw [Bool.or_eq_true] at b2
    exact b2.imp kB_ok kB_ok
  · have b := a y hy
    rw [Bool.and_eq_true, Bool.and_eq_true] at b
    have b2 := b.2
    have il : isL y.2 = true := by
      rcases z with z | z <;> rw [z] <;> rfl
    rw [il] at b2
    have b2 : (hasN y.1 ((ownOf c.N is).map (·.1)) || !hasN y.1 c.N) = true := b2
    rw [h.N]
    rw [Bool.or_eq_true, Bool.not_eq_true'] at b2
    exact b2.imp hasN_yes hasN_no
end
end RV
end
section
/-! RVXc: is a class an own exception of that form? (a Boolean check of the written part) -/
namespace RV
open PySem PySem.Spec PyProof.Rows L2
def xbodyB (f : PySem.Str) : FuncBody → Bool
  | .stmts [.Expr (.Call (.Attribute (.Call (.Name a _) [] [] _) b p3) [.Constant (.str _) _ _] [] p5) _, .Assign [.Attribute (.Name s _) f1 _] (.Name f2 _) _] =>
    sEq a "super" && (sEq b "__init__" && (sEq s "self" && (sEq f1 f && (sEq f2 f && (p3.endLine == p5.line)))))
  | _ => false
theorem xbodyB_ok {f : PySem.Str} {b : FuncBody} (h : xbodyB f b = true) : ∃ (tx : PySem.Str) (nk : Nat) (p1 p2 p3 p4 p5 p6 p7 p8 p9 p10 : Pos), (p3.endLine == p5.line) = true ∧ b = .stmts [.Expr (.Call (.Attribute (.Call (.Name "super" p1) [] [] p2) "__init__" p3) [.Constant (.str tx) nk p4] [] p5) p6, .Assign [.Attribute (.Name "self" p7) f p8] (.Name f p9) p10] := by
  unfold xbodyB at h
  split at h
  · simp only [Bool.and_eq_true] at h
    obtain ⟨h1, h2, h3, h4, h5, h6⟩ := h
    cases sEq_ok h1
    cases sEq_ok h2
    cases sEq_ok h3
    cases sEq_ok h4
    cases sEq_ok h5
    exact ⟨_, _, _, _, _, _, _, _, _, _, _, _, h6, rfl⟩
  · cases h
def xargB (f : PySem.Str) : List Arg → Bool
  | [a, b] => sEq a.arg "self" && sEq b.arg f
  | _ => false
theorem xargB_ok {f : PySem.Str} {l : List Arg} (h : xargB f l = true) : ∃ a b, l = [a, b] ∧ a.arg = "self" ∧ b.arg = f := by
  unfold xargB at h
  split at h
  · rw [Bool.and_eq_true] at h
    exact ⟨_, _, rfl, sEq_ok h.1, sEq_ok h.2⟩
  · cases h
def xdefB : Value → Bool
  | .none => true
  | _ => false
def xcellB (K : PySem.W.Frag) (C : Addr) (o : Option Addr) : Bool := match o with
  | some cc => (match K.lookup cc with
    | some ⟨_, _, .cell (some (.ref D)), _⟩ => Nat.beq D C
    | _ => false)
  | none => false
theorem xcellB_ok {K : PySem.W.Frag} {C : Addr} {o : Option Addr} (h : xcellB K C o = true) : ∃ cc cl cld csl, o = some cc ∧ K.lookup cc = some ⟨cl, cld, .cell (some (.ref C)), csl⟩ := by
  unfold xcellB at h
  split at h
  · split at h
    · rename_i e
      cases Nat.eq_of_beq_eq_true h
      exact ⟨_, _, _, _, rfl, e⟩
    · cases h
  · cases h
def xcodeB (K : PySem.W.Frag) (file : PySem.Str) (v : Value) : Bool := match v with
  | .ref cda => (match K.lookup cda with
    | some ⟨_, _, .fields vs, _⟩ => (match vs[2]? with
      | some (Value.str fl _) => sEq file fl
      | _ => false)
    | _ => false)
  | _ => false
theorem xcodeB_ok {K : PySem.W.Frag} {file : PySem.Str} {v : Value} (h : xcodeB K file v = true) : ∃ cda ccl cdd vs ccs fl tf, v = .ref cda ∧ K.lookup cda = some ⟨ccl, cdd, .fields vs, ccs⟩ ∧ vs[2]? = some (.str fl tf) ∧ (file == fl) = true := by
  unfold xcodeB at h
  split at h
  · split at h
    · rename_i e
      split at h
      · rename_i e2
        exact ⟨_, _, _, _, _, _, _, rfl, e, e2, by rw [← sEq_eq]; exact h⟩
      · cases h
    · cases h
  · cases h
def xfdB (K : PySem.W.Frag) (C : Addr) (f file : PySem.Str) (fd : FuncData) : Bool :=
  xbodyB f fd.body && (decide (fd.scope.kind = .function) && (!fd.scope.isCoroutine && (!fd.scope.isGenerator && (decide (lkp "super" fd.scope.names = some .globalImplicit) && (decide (lkp "__class__" fd.scope.names = some .free) &&
  (decide (lkp "self" fd.scope.names = some .local) && (decide (lkp f fd.scope.names = some .local) && (fd.scope.names.all (fun x => !decide (x.2 = .cell)) && (!sEq "self" f && (!sEq f "__debug__" &&
  (fd.params.posonlyargs.isEmpty && (fd.params.kwonlyargs.isEmpty && (fd.params.vararg.isNone && (fd.params.kwarg.isNone && (xdefB fd.defaults && (xargB f fd.params.args &&
  (xcellB K C (fd.closure.lookup ("__class__" : PySem.Str)) && (decide (fd.globals = mainGlobals) && (decide (fd.builtins = builtinsNs) && (xcodeB K file fd.code && PySem.W.codeIn K fd.code fd.qualname))))))))))))))))))))
theorem xfdB_ok {P : Program} {K : PySem.W.Frag} {C fI : Addr} {f file : PySem.Str} {fd : FuncData} {oc : Value} {od : Option Addr} {osl : Array (Option Value)} (lk : K.lookup fI = some ⟨oc, od, .func fd, osl⟩) (h : xfdB K C f file fd = true) (hf : P.main.file = file) (ht : (P.main.scope.names.lookup ("super" : PySem.Str)).isSome = false) : XfT P K C fI f fd := by
  unfold xfdB at h
  simp only [Bool.and_eq_true, decide_eq_true_eq, Bool.not_eq_true'] at h
  obtain ⟨b, kd, co, ge, n1, n2, n3, n4, n5, e1, e2, po, ko, va, kw, df, ar, ce, gl, bl, cd, rc⟩ := h
  rw [lkp_eq] at n1 n2 n3 n4
  obtain ⟨a, b2, ea, a1, a2⟩ := xargB_ok ar
  have po : fd.params.posonlyargs = [] := List.isEmpty_iff.mp po
  have ne : ("self" : PySem.Str) ≠ f := fun e => by rw [← e, sEq_refl] at e1; cases e1
  have df2 : fd.defaults = .none := by
    unfold xdefB at df
    split at df
    · assumption
    · cases df
  have par : Par fd ["self", f] := ⟨po, List.isEmpty_iff.mp ko, Option.isNone_iff_eq_none.mp va, Option.isNone_iff_eq_none.mp kw, df2, by rw [ea]; show [a.arg, b2.arg] = _; rw [a1, a2]⟩
  have bd : bindOk ["self", f] 2 [] [] = true := by
    show (true && true && (!(([f] : List PySem.Str).contains "self") && nodupB [f])) = true
    have c : ([f] : List PySem.Str).contains "self" = false := by simpa using ne
    rw [c]
    rfl
  exact {
    fn := ⟨oc, od, osl, lk⟩
    body := xbodyB_ok b
    kind := kd
    co := co
    gen := ge
    nsup := n1
    ncls := n2
    nself := n3
    nf := n4
    ncell := fun x hx e => by
      have := List.all_eq_true.mp n5 x hx
      rw [e] at this
      cases this
    fne := ne
    fdb := by rw [← sEq_eq]; exact e2
    ar := ⟨a, by rw [po, ea]; rfl, a1⟩
    binds := fun s u v => .of_eq (bind_reorder (us := [u, v]) (ws := []) (ks := []) (perm := []) par bd rfl)
    cell := xcellB_ok ce
    glob := gl
    blt := bl
    code := by
      obtain ⟨c1, c2, c3, c4, c5, c6, c7, h1, h2, h3, h4⟩ := xcodeB_ok cd
      exact ⟨c1, c2, c3, c4, c5, c6, c7, h1, h2, h3, by rw [hf]; exact h4⟩
    rec_ := rc
    top := ht }
/-- the class object -/
def xclsB (K : PySem.W.Frag) (C : Addr) : Bool := match K.lookup C with
  | some ⟨.type t, _, .cls cd, sl⟩ => decide (t = "type") && (match cd.mro, sl.toList with
    | .ref C' :: bm, [_, _, _, _, some (.builtin n), _] => Nat.beq C' C && (decide (n = "ValueError.__new__") && (PySem.HandSPX.refsVE bm && (cd.hasDict && !cd.hasDel)))
    | _, _ => false)
  | _ => false
theorem xclsB_ok {K : PySem.W.Frag} {C : Addr} (h : xclsB K C = true) : ∃ nm q N bs bm sn sub ab col dd k0 k1 k2 k3 k5, K.lookup C = some (excClassObj nm q C N bs bm true sn sub ab col dd k0 k1 k2 k3 k5 "ValueError.__new__") ∧ PySem.HandSPX.refsVE bm = true := by
  unfold xclsB at h
  split at h
  · rename_i t dd cd sl lk
    rw [Bool.and_eq_true] at h
    obtain ⟨h0, h⟩ := h
    have et := of_decide_eq_true h0
    subst et
    split at h
    · rename_i C' bm k0 k1 k2 k3 n k5 hm hs
      simp only [Bool.and_eq_true, decide_eq_true_eq, Bool.not_eq_true'] at h
      obtain ⟨h1, h2, h3, h4, h5⟩ := h
      have ec := Nat.eq_of_beq_eq_true h1
      subst ec h2
      obtain ⟨nm, bs, mro, ns, qn, hd, sn, sb, ab, col, del⟩ := cd
      dsimp only at hm h4 h5
      subst hm h4 h5
      have es : sl = #[k0, k1, k2, k3, some (.builtin "ValueError.__new__"), k5] := Array.toList_inj.mp hs
      subst es
      exact ⟨_, _, _, _, bm, _, _, _, _, _, k0, k1, k2, k3, k5, lk, h3⟩
    · cases h
  · cases h
def xcB (file : PySem.Str) (K : PySem.W.Frag) (C : Addr) (f : PySem.Str) : Bool :=
  (match K.lookup (He.ma K C "__init__") with
    | some ⟨_, _, .func fd, _⟩ => xfdB K C f file fd
    | _ => false) && (xclsB K C && (He.eqO (PySem.W.findIn K (.ref C) "__setattr__") (some (some (.builtin "object.__setattr__"))) && (He.eqO (PySem.W.findIn K (.ref C) "__getattribute__") (some (some (.builtin "BaseException.__getattribute__"))) &&
  (He.eqO (PySem.W.findIn K (.ref C) "__getattr__") (some none) && (He.eqO (PySem.W.findIn K (.ref C) f) (some none) && (He.eqO (PySem.W.findIn K (.ref C) "__init__") (some (some (.ref (He.ma K C "__init__")))) && (decide (PySem.W.typeIn K (.ref (He.ma K C "__init__")) = some (.type "function")) &&
  (PySem.W.keepIn K (.ref C) && (decide (PySem.W.subIn K (.ref C) (.type "BaseException") = some true) && (decide (PySem.W.typeIn K (.ref C) = some (.type "type")) && (PySem.W.hasDictIn K C && (He.eqO (PySem.W.ks_superIn K C C "__init__") (some (some (.builtin "ValueError.__init__"))) &&
  (decide (PySem.W.subIn K (.ref C) (.type "ValueError") = some true) && (decide (PySem.W.mroIn K C (.ref C) = some true) && (He.eqO (PySem.W.nsIn K cStatics "thirdparty.any") (some none) && decide (PySem.W.exmOne K (.ref C) (.ref C) = some true))))))))))))))))
theorem xcB_ok {P : Program} {K : PySem.W.Frag} {C : Addr} {f file : PySem.Str} (h : xcB file K C f = true) (hf : P.main.file = file) (ht : (P.main.scope.names.lookup ("super" : PySem.Str)).isSome = false) : XcT P K C (He.ma K C "__init__") f ∧ PySem.W.exmOne K (.ref C) (.ref C) = some true := by
  unfold xcB at h
  simp only [Bool.and_eq_true, decide_eq_true_eq] at h
  obtain ⟨h1, h2, h3, h4, h5, h6, h7, h8, h9, h10, h11, h12, h13, h14, h15, h16, h17⟩ := h
  split at h1
  · rename_i fd _ lk
    exact ⟨⟨⟨fd, xfdB_ok lk h1 hf ht⟩, xclsB_ok h2, He.eqO_ok h3, He.eqO_ok h4, He.eqO_ok h5, He.eqO_ok h6, He.eqO_ok h7, h8, h9, h10, h11, h12, He.eqO_ok h13, h14, h15, He.eqO_ok h16⟩, h17⟩
  · cases h1
end RV
end
section
/-! RVChk: does an IR fit a text? (a Boolean check, run by the kernel) -/
namespace RV
open PySem PySem.Spec PyProof.Rows L2
def ckC (v : PV) (e : Expr) : Bool := match e with
  | .Constant (.int j) _ _ => (match v with
    | .int i => decide (i = j)
    | _ => false)
  | .Constant (.bool j) _ _ => (match v with
    | .bl i => i == j
    | _ => false)
  | .Constant .none _ _ => (match v with
    | .non => true
    | _ => false)
  | .Constant (.str y) _ _ => (match v with
    | .str x => sEq x y
    | _ => false)
  | _ => false
def opB : BOp → Operator → Bool
  | .add, .Add => true
  | .sub, .Sub => true
  | .mul, .Mult => true
  | .fdiv, .FloorDiv => true
  | .mod, .Mod => true
  | .pow, .Pow => true
  | _, _ => false
def copB : COp → CmpOp → Bool
  | .eq, .Eq => true
  | .ne, .NotEq => true
  | .lt, .Lt => true
  | .le, .LtE => true
  | .gt, .Gt => true
  | .ge, .GtE => true
  | .is_, .Is => true
  | .isnot, .IsNot => true
  | .in_, .In => true
  | .notin, .NotIn => true
  | _, _ => false
def sameV (v u : PV) : Bool := match v with
  | .int i => (match u with
    | .int j => decide (j = i)
    | _ => false)
  | .str i => (match u with
    | .str j => sEq j i
    | _ => false)
  | _ => false
def inG (x : Str) (v : PV) : List (Str × PV) → Bool
  | [] => false
  | (y, u) :: r => (sEq y x && sameV v u) || inG x v r
def inM (c : Nat) (m : Str) (f : Nat) : List (Nat × Str × Nat) → Bool
  | [] => false
  | (c', m', f') :: r => (Nat.beq c' c && sEq m' m && Nat.beq f' f) || inM c m f r
def atS (l : List Str) (f : Nat) (x : Str) : Bool := match l[f]? with
  | some y => sEq y x
  | none => false
/-- the name of a built-in -/
def biN : BI → Option Str
  | .len => some "len"
  | .all => some "all"
  | .any => some "any"
  | .sum => some "sum"
  | .tuple => some "tuple"
  | .list _ => some "list"
  | .int => some "int"
  | .min2 => some "min"
  | .min3 => some "min"
  | .max2 => some "max"
  | .sorted _ => some "sorted"
  | _ => none
def isMx : BI → Bool
  | .maxD => true
  | _ => false
def kwIs (kws : List Keyword) : Bool := match kwNames kws with
  | some [k] => sEq k "default"
  | _ => false
def isZs : BI → Bool
  | .zipStar => true
  | _ => false
def isBi (b : BI) (x : Str) : Bool := match biN b with
  | some y => sEq y x
  | none => false
def csN : CS → Option Str
  | .int => some "int"
  | .bool => some "bool"
  | .str => some "str"
  | .tuple => some "tuple"
  | .list => some "list"
  | .cls _ => none
/-- a built-in class, written -/
def csB (cs : CS) (e : Expr) (c : Cc) : Bool := match e with
  | .Name x _ => (match csN cs with
    | some y => sEq y x && glB c x
    | none => false)
  | _ => false
/-- an own class, written -/
def csO (Z : Zt) (cs : CS) (e : Expr) (c : Cc) : Bool := match e with
  | .Name x _ => (match cs with
    | .cls d => atS Z.cls d x && glB c x && ndb x && Z.own.any fun j => Nat.beq j d
    | _ => false)
  | _ => false
def ckCs (Z : Zt) (cs : List CS) (e : Expr) (c : Cc) : Bool := match cs with
  | [k] => csB k e c || csO Z k e c
  | [k1, k2] => (match e with
    | .Tuple [c1, c2] _ _ => csB k1 c1 c && csB k2 c2 c
    | _ => false)
  | _ => false
def notSet : Expr → Bool
  | .Set .. => false
  | _ => true
def isTupE : Expr → Bool
  | .Tuple .. => true
  | _ => false
def tvB (t : IE) (own : List Nat) : Bool := (tv t).all fun i => own.any fun j => Nat.beq j i
def subB (is js : List Nat) : Bool := is.all fun i => js.any fun j => Nat.beq j i
def kwB (ps : List Str) (n : Nat) (kws : List Keyword) (perm : List Nat) : Bool := match kwNames kws with
  | some ks => bindOk ps n ks perm
  | none => false
def isIt : IE → Bool
  | .rng1 _ => true
  | .rng2 _ _ => true
  | .zip2 _ _ => true
  | .enum _ _ => true
  | _ => false
/-- the target that an iterator of pairs wants -/
def tgI (i : IE) (tg : Expr) : Bool := match i with
  | .zip2 _ _ => isTupE tg
  | .enum _ _ => isTupE tg
  | _ => true
def mthB (b : BI) (m : Str) (es' : List Expr) : Bool := match b with
  | .append => sEq m "append" && !es'.isEmpty && Nat.blt es'.length 30
  | .extend => sEq m "extend" && !es'.isEmpty && Nat.blt es'.length 30
  | .pop => sEq m "pop" && es'.isEmpty
  | _ => false
def eqHs : List (Nat × Str) → List (Nat × Str) → Bool
  | [], [] => true
  | (a, x) :: r, (b, y) :: s => Nat.beq a b && sEq x y && eqHs r s
  | _, _ => false
def inH (f : Nat) (hs : List (Nat × Str)) : List (Nat × List (Nat × Str)) → Bool
  | [] => false
  | (g, ks) :: r => (Nat.beq g f && eqHs ks hs) || inH f hs r
def noArg (a : Arguments) : Bool := a.posonlyargs.isEmpty && a.args.isEmpty && a.vararg.isNone && a.kwonlyargs.isEmpty && a.kw_defaults.isEmpty && a.kwarg.isNone && a.defaults.isEmpty
/-- a lambda's names: captured ones and globals -/
def lamNB (c : Cc) (scope : Scope) : Bool := decide (scope.kind = .function) && !scope.isCoroutine && !scope.isGenerator && scope.names.all fun y => !isL y.2 && (!isF y.2 || (kB (lkp y.1 c.sc.names) .cell || kB (lkp y.1 c.sc.names) .free))
def fnN (o : Option (Option Str × List Str)) (x : Str) : Bool := match o with
  | some (some y, _) => sEq y x
  | _ => false
def dctB (t : Bool) (n : Nat) : Bool := match t with
  | true => Nat.ble n 1
  | false => Nat.ble n 15
section
variable (Z : Zt) (C : Cfg)
mutual
/-- b: where an iterator may stand -/
def ckE : IE → Bool → Expr → Cc → Bool
  | .var i, _, e, c => (match e with
    | .Name x _ => nmB c i x && visB c x && ndb x
    | _ => false)
  | .cst v, _, e, _ => ckC v e
  | .glob x v, _, e, c => (match e with
    | .Name y _ => sEq x y && glB c y && ndb y && inG y v Z.glb
    | _ => false)
  | .star _, _, _, _ => false
  | .tup es, _, e, c => (match e with
    | .Tuple es' _ _ => ckA es es' c
    | _ => false)
  | .lst _ es, _, e, c => (match e with
    | .List es' _ => ckA es es' c
    | _ => false)
  | .dct t kvs, _, e, c => (match e with
    | .Dict ks vs _ => ckD kvs ks vs c && dctB t ks.length
    | _ => false)
  | .bin op a b, _, e, c => (match e with
    | .BinOp a' o b' _ => opB op o && ckE a false a' c && ckE b false b' c
    | _ => false)
  | .neg a, _, e, c => (match e with
    | .UnaryOp .USub a' _ => ckE a false a' c
    | _ => false)
  | .not a, _, e, c => (match e with
    | .UnaryOp .Not a' _ => ckE a false a' c
    | _ => false)
  | .cmp op a b, _, e, c => (match e with
    | .Compare a' [o] [b'] _ => copB op o && !behindInMarks o b' && ckE a false a' c && ckE b false b' c
    | _ => false)
  | .chain op op' a b d, _, e, c => (match e with
    | .Compare a' [o, o'] [b', d'] _ => copB op o && copB op' o' && !behindInMarks o' d' && ckE a false a' c && ckE b false b' c && ckE d false d' c
    | _ => false)
  | .and es, _, e, c => (match e with
    | .BoolOp .And es' _ => ckL es es' c
    | _ => false)
  | .or es, _, e, c => (match e with
    | .BoolOp .Or es' _ => ckL es es' c
    | _ => false)
  | .ite t a b, _, e, c => (match e with
    | .IfExp t' a' b' _ => ckE t false t' c && ckE a false a' c && ckE b false b' c
    | _ => false)
  | .sub a b, _, e, c => (match e with
    | .Subscript a' b' _ => plainIx b' && ckE a false a' c && ckE b false b' c
    | _ => false)
  | .slc _ a lo hi, _, e, c => (match e with
    | .Subscript a' (.Slice lo' hi' none _) _ => ckE a false a' c && ckO lo lo' c && ckO hi hi' c
    | _ => false)
  | .rev a, _, e, c => (match e with
    | .Subscript a' (.Slice none none (some (.UnaryOp .USub (.Constant (.int j) _ _) _)) _) _ => decide (j = 1) && ckE a false a' c
    | _ => false)
  | .attr a f, _, e, c => (match e with
    | .Attribute a' x _ => absOk a' && atS Z.fld f x && ckE a false a' c
    | _ => false)
  | .lc _ own t it ifs elt, _, e, c => (match e with
    | .ListComp elt' [⟨tg, it', ifs', as⟩] scope _ => decide (as = 0) && blkB c scope own && tvB t own && notSet it' && tgI it tg && ckE it true it' c && ckT c.N (locB (c.blk scope)) tg t && ckF ifs ifs' (c.blk scope) && ckE elt false elt' (c.blk scope)
    | _ => false)
  | .lc2 _ own own1 t it t1 it1 ifs elt, _, e, c => (match e with
    | .ListComp elt' [⟨tg, it', [], as⟩, ⟨tg1, it1', ifs', as1⟩] scope _ => decide (as = 0) && decide (as1 = 0) && blkB c scope own && tvB t own && tvB t1 own1 && subB own1 own && notSet it' && notSet it1' && tgI it tg && tgI it1 tg1 && ckE it true it' c && ckT c.N (locB (c.blk scope)) tg t
        && ckE it1 true it1' (c.blk scope) && ckT c.N (locB (c.blk scope)) tg1 t1 && ckF ifs ifs' (c.blk scope) && ckE elt false elt' (c.blk scope)
    | _ => false)
  | .srt2 own own1 t it t1 it1 elt, _, e, c => (match e with
    | .Call (.Name x _) [.SetComp elt' [⟨tg, it', [], as⟩, ⟨tg1, it1', [], as1⟩] scope _] [] _ => sEq x "sorted" && glB c x && decide (as = 0) && decide (as1 = 0) && blkB c scope own && tvB t own && tvB t1 own1 && subB own1 own && notSet it' && notSet it1' && tgI it tg && tgI it1 tg1 && ckE it true it' c
        && ckT c.N (locB (c.blk scope)) tg t && ckE it1 true it1' (c.blk scope) && ckT c.N (locB (c.blk scope)) tg1 t1 && ckE elt false elt' (c.blk scope)
    | _ => false)
  | .dc tk own t it k v, _, e, c => (match e with
    | .DictComp k' v' [⟨tg, it', [], as⟩] scope _ => decide (as = 0) && !tk && blkB c scope own && tvB t own && notSet it' && tgI it tg && ckE it true it' c && ckT c.N (locB (c.blk scope)) tg t && ckE k false k' (c.blk scope) && ckE v false v' (c.blk scope)
    | _ => false)
  | .bi b es, _, e, c => (match e with
    | .Call (.Name x _) (e' :: es') [] _ => (match isZs b with
      | true => sEq x "list" && glB c x && es'.isEmpty && (match e' with
        | .Call (.Name y _) [.Starred a' _] [] _ => sEq y "zip" && glB c y && ckL es [a'] c
        | _ => false)
      | false => isBi b x && glB c x && noStar (e' :: es') && ckA es (e' :: es') c)
    | .Call (.Name x _) [a'] (kw :: kr) _ => isMx b && sEq x "max" && glB c x && noStar ([a'] ++ (kw :: kr).map (·.value)) && kwIs (kw :: kr) && ckA es ([a'] ++ (kw :: kr).map (·.value)) c
    | _ => false)
  | .mth b o es, _, e, c => (match e with
    | .Call (.Attribute o' m ap) es' [] pos => absOk o' && (ap.endLine == pos.line) && noStar es' && ckE o false o' c && ckA es es' c && mthB b m es'
    | _ => false)
  | .bad, b, _, _ => !b
  | .isi a cs, _, e, c => (match e with
    | .Call (.Name x _) [a', ce] [] _ => sEq x "isinstance" && glB c x && noStar [a', ce] && ckE a false a' c && ckCs Z cs ce c
    | _ => false)
  | .call f _ perm es, _, e, c => (match e with
    | .Call (.Name x _) args kws _ => glB c x && ndb x && noStar (args ++ kws.map (·.value)) && ckA es (args ++ kws.map (·.value)) c && (match Z.fns[f]? with
      | some (some y, ps) => sEq y x && kwB ps args.length kws perm
      | _ => false)
    | _ => false)
  | .new d perm es, _, e, c => (match e with
    | .Call (.Name x _) args kws _ => glB c x && ndb x && noStar (args ++ kws.map (·.value)) && ckA es (args ++ kws.map (·.value)) c && atS Z.cls d x && (match C.ini d with
      | some f => (match Z.fns[f]? with
        | some (_, ps) => kwB ps (args.length + 1) kws (selfP perm)
        | _ => false)
      | none => false)
    | _ => false)
  | .meth d _ f _ perm o es, _, e, c => (match e with
    | .Call (.Attribute o' m ap) args kws pos => absOk o' && (ap.endLine == pos.line) && Nat.blt (args.length + kws.length + 1) 30 && noStar (args ++ kws.map (·.value)) && ckE o false o' c && ckA es (args ++ kws.map (·.value)) c && inM d m f Z.mts && (match Z.fns[f]? with
      | some (_, ps) => kwB ps (args.length + 1) kws (selfP perm)
      | _ => false)
    | _ => false)
  | .callG f perm es, _, e, c => (match e with
    | .Call (.Name x _) args kws _ => glB c x && ndb x && noStar (args ++ kws.map (·.value)) && ckA es (args ++ kws.map (·.value)) c && (match Z.fns[f]? with
      | some (some y, ps) => sEq y x && kwB ps args.length kws perm
      | _ => false)
    | _ => false)
  | .newG d perm es, _, e, c => (match e with
    | .Call (.Name x _) args kws _ => glB c x && ndb x && noStar (args ++ kws.map (·.value)) && ckA es (args ++ kws.map (·.value)) c && atS Z.cls d x && (match C.ini d with
      | some f => (match Z.fns[f]? with
        | some (_, ps) => kwB ps (args.length + 1) kws (selfP perm)
        | _ => false)
      | none => false)
    | _ => false)
  | .rng1 a, b, e, c => b && (match e with
    | .Call (.Name x _) [a'] [] _ => sEq x "range" && glB c x && noStar [a'] && ckE a false a' c
    | _ => false)
  | .rng2 a d, b, e, c => b && (match e with
    | .Call (.Name x _) [a', d'] [] _ => sEq x "range" && glB c x && noStar [a', d'] && ckE a false a' c && ckE d false d' c
    | _ => false)
  | .zip2 a d, b, e, c => b && (match e with
    | .Call (.Name x _) [a', d'] [] _ => sEq x "zip" && glB c x && noStar [a', d'] && ckE a false a' c && ckE d false d' c
    | _ => false)
  | .enum k a, b, e, c => b && Nat.beq k 0 && (match e with
    | .Call (.Name x _) [a'] [] _ => sEq x "enumerate" && glB c x && noStar [a'] && ckE a false a' c
    | _ => false)
  | .trng a, _, e, c => (match e with
    | .Call (.Name x _) [.Call (.Name y _) [a'] [] _] [] _ => sEq x "tuple" && sEq y "range" && glB c x && glB c y && noStar [a'] && ckE a false a' c
    | _ => false)
  | .dget o k, _, e, c => (match e with
    | .Call (.Attribute o' m ap) [k'] [] pos => sEq m "get" && absOk o' && (ap.endLine == pos.line) && noStar [k'] && ckE o false o' c && ckE k false k' c
    | _ => false)
  | .hrd f hs i, _, e, c => (match e with
    | .Call (.Name x _) [.Lambda params body scope _] [] _ => c.lam && glB c x && ndb x && noArg params && lamNB c scope && fnN Z.fns[f]? x && inH f hs Z.hrd && ckE i false body (c.lamb scope)
    | _ => false)
  | .rne a b, _, e, c => (match e with
    | .Compare (.Call (.Name x _) [a'] [] _) [.NotEq] [.Call (.Name y _) [b'] [] _] _ => sEq x "repr" && sEq y "repr" && glB c x && noStar [a'] && noStar [b'] && ckE a false a' c && ckE b false b' c
    | _ => false)
/-- arguments: a star may stand -/
def ckA : List IE → List Expr → Cc → Bool
  | [], es, _ => es.isEmpty
  | i :: is, es, c => (match es with
    | [] => false
    | e :: r => (match e with
      | .Starred a _ => ckR i a c
      | _ => ckE i false e c) && ckA is r c)
def ckR : IE → Expr → Cc → Bool
  | .star j, a, c => ckE j false a c
  | _, _, _ => false
def ckL : List IE → List Expr → Cc → Bool
  | [], es, _ => es.isEmpty
  | i :: is, es, c => (match es with
    | [] => false
    | e :: r => ckE i false e c && ckL is r c)
def ckD : List IE → List (Option Expr) → List Expr → Cc → Bool
  | [], ks, vs, _ => ks.isEmpty && vs.isEmpty
  | [_], _, _, _ => false
  | i :: j :: is, ks, vs, c => (match ks, vs with
    | some k :: ks, v :: vs => ckE i false k c && ckE j false v c && ckD is ks vs c
    | _, _ => false)
def ckO : Option IE → Option Expr → Cc → Bool
  | none, e, _ => e.isNone
  | some i, e, c => (match e with
    | some e => ckE i false e c
    | none => false)
def ckF : Option IE → List Expr → Cc → Bool
  | none, e, _ => e.isEmpty
  | some i, e, c => (match e with
    | [e] => ckE i false e c
    | _ => false)
end
end
end RV
end
section
/-! RVSnd: what fits runs as its denotation says. -/
namespace RV
open PySem PySem.Spec PyProof.Rows L2
def plainT : Expr → Bool
  | .UnaryOp .Not _ _ => false
  | .BoolOp .. => false
  | .IfExp .. => false
  | .Compare .. => false
  | _ => true
theorem plainT_ok {e : Expr} {env : Env} (h : plainT e = true) (whole : Sem Value) : isTrue e env whole = (do let v ← whole; standAt e.pos; holding [v] (truthy v)) := by
  cases e with
  | UnaryOp op a p => cases op <;> first | rfl | exact (Bool.false_ne_true h).elim
  | _ => first | rfl | exact (Bool.false_ne_true h).elim
section
variable {X : Cx} {L : Pl} {E : XK} {e a b c : Expr} {pos : Pos}
/-- what fails is asked of nobody -/
theorem e_fail {f : FE} (h : ∀ B ρ S, f B ρ S = .fail) : PE X e (tE L E f) := ⟨fun pins s σ H Q I q => by
  obtain ⟨μ, B, ρ, S, rs, rl, o⟩ := q
  rw [h] at o
  exact False.elim o⟩
theorem t_fail {f : FE} (h : ∀ B ρ S, f B ρ S = .fail) : PT X e (tT L E f) := ⟨fun pins s σ H Q I q => by
  obtain ⟨μ, B, ρ, S, rs, rl, o⟩ := q
  rw [h] at o
  exact False.elim o⟩
theorem s_fail {st : Stmt} {f : FS} (h : ∀ B ρ S, f B ρ S = .fail) : PS X st (tS L E f) := ⟨fun pins s σ H D I q => by
  obtain ⟨μ, B, ρ, S, rs, rl, o⟩ := q
  rw [h] at o
  exact False.elim o⟩
theorem t_ite {f fa fb : FE} (hc : PT X c (tT L E f)) (ha : PT X a (tT L E fa)) (hb : PT X b (tT L E fb)) : PT X (.IfExp c a b pos) (tT L E fun B ρ S => (f B ρ S).bind fun x S => match x with
    | .bl true => fa B ρ S
    | .bl false => fb B ρ S
    | _ => .fail) := ⟨fun pins s σ H Q I q => by
  obtain ⟨μ, B, ρ, S, rs, rl, o⟩ := q
  refine isTrue_IfExp (thn (hc.run pins s σ H (fun k H1 => match k with
    | true => tT L E fa σ H1 Q
    | false => tT L E fb σ H1 Q) I ⟨μ, B, ρ, S, rs, rl, o.bind.imp fun p S1 μ1 H1 e1 rs1 o1 v hv => ?_⟩) fun d s1 ⟨H1, I1, q1⟩ => ?_)
  · cases p with
    | bl k =>
      have hv : v = .bl k := hv
      refine ⟨k, hv, ?_⟩
      cases k with
      | true => exact ⟨μ1, B, ρ, S1, rs1, rl.mono e1, o1⟩
      | false => exact ⟨μ1, B, ρ, S1, rs1, rl.mono e1, o1⟩
    | _ => exact False.elim o1
  · cases d with
    | true => exact ha.run pins s1 σ H1 Q I1 q1
    | false => exact hb.run pins s1 σ H1 Q I1 q1⟩
theorem of_map {o : Option Bool} {S : Sto} : ((Out.of o S).bind fun b S => Out.ok (PV.bl b) S) = Out.of (o.map .bl) S := by
  cases o <;> rfl
end
section
variable (Z : Zt) (D : En) (Φ : Nat → DefF) (k : Nat)
/-- what is shown of an IR -/
structure Good (i : IE) : Prop where
  val : ∀ (E : XK) (c : Cc) (X : Cx) (e : Expr), Ct Z D Φ k E c X → ckE Z D.C i false e c = true → PE X e (tE D.L E (den D.C Φ i))
  tst : ∀ (E : XK) (c : Cc) (X : Cx) (e : Expr), Ct Z D Φ k E c X → ckE Z D.C i false e c = true → PT X e (tT D.L E (den D.C Φ i))
  itr : ∀ (E : XK) (c : Cc) (X : Cx) (e tg : Expr), Ct Z D Φ k E c X → ckE Z D.C i true e c = true → tgI i tg = true → PI X tg e (tI D.L E (den D.C Φ i))
  inner : ∀ (j : IE), i = .star j → ∀ (E : XK) (c : Cc) (X : Cx) (e : Expr), Ct Z D Φ k E c X → ckE Z D.C j false e c = true → PE X e (tE D.L E (den D.C Φ j))
structure GoodA (is : List IE) : Prop where
  val : ∀ (E : XK) (c : Cc) (X : Cx) (es : List Expr), Ct Z D Φ k E c X → ckA Z D.C is es c = true → PA X es (tA D.L E (denA D.C Φ is))
  kws : ∀ (E : XK) (c : Cc) (X : Cx) (ws : List Keyword), Ct Z D Φ k E c X → noStar (ws.map (·.value)) = true → ckA Z D.C is (ws.map (·.value)) c = true → PK X ws (tA D.L E (denA D.C Φ is))
  many : ∀ (c : Cc) (es : List Expr), noStar es = true → ckA Z D.C is es c = true → Many (denA D.C Φ is) es.length
structure GoodL (is : List IE) : Prop where
  andV : ∀ (E : XK) (c : Cc) (X : Cx) (es : List Expr) (pos : Pos), Ct Z D Φ k E c X → ckL Z D.C is es c = true → PE X (.BoolOp .And es pos) (tE D.L E (denAnd D.C Φ is))
  orV : ∀ (E : XK) (c : Cc) (X : Cx) (es : List Expr) (pos : Pos), Ct Z D Φ k E c X → ckL Z D.C is es c = true → PE X (.BoolOp .Or es pos) (tE D.L E (denOr D.C Φ is))
  andT : ∀ (E : XK) (c : Cc) (X : Cx) (es : List Expr) (pos : Pos), Ct Z D Φ k E c X → ckL Z D.C is es c = true → PW X (.BoolOp .And es pos) (tT D.L E (denAnd D.C Φ is))
  orT : ∀ (E : XK) (c : Cc) (X : Cx) (es : List Expr) (pos : Pos), Ct Z D Φ k E c X → ckL Z D.C is es c = true → PW X (.BoolOp .Or es pos) (tT D.L E (denOr D.C Φ is))
def GoodO (i : Option IE) : Prop := ∀ (E : XK) (c : Cc) (X : Cx) (e : Option Expr), Ct Z D Φ k E c X → ckO Z D.C i e c = true → PO X e (tO D.L E (denO D.C Φ i))
def GoodF (i : Option IE) : Prop := ∀ (E : XK) (c : Cc) (X : Cx) (e : List Expr), Ct Z D Φ k E c X → ckF Z D.C i e c = true → PTs X e (tB D.L E (denT D.C Φ i))
end
section
variable {Z : Zt} {D : En} {Φ : Nat → DefF} {k : Nat}
theorem nost {i j : IE} {p : Prop} (h : isStar i = false) (e : i = .star j) : p := by
  rw [e] at h
  cases h
theorem good_of {i : IE} (h : ∀ (b : Bool) (E : XK) (c : Cc) (X : Cx) (e : Expr), Ct Z D Φ k E c X → ckE Z D.C i b e c = true → PE X e (tE D.L E (den D.C Φ i)) ∧ plainT e = true) (ns : isStar i = false := by rfl) : Good Z D Φ k i where
  val := fun E c X e ct q => (h false E c X e ct q).1
  tst := fun E c X e ct q => t_val (h false E c X e ct q).1 (plainT_ok (h false E c X e ct q).2)
  itr := fun E c X e tg ct q _ => i_any ct.K (h true E c X e ct q).1
  inner := fun j z => nost ns z
theorem good_ofT {i : IE} (h : ∀ (b : Bool) (E : XK) (c : Cc) (X : Cx) (e : Expr), Ct Z D Φ k E c X → ckE Z D.C i b e c = true → PE X e (tE D.L E (den D.C Φ i)) ∧ PT X e (tT D.L E (den D.C Φ i))) (ns : isStar i = false := by rfl) : Good Z D Φ k i where
  val := fun E c X e ct q => (h false E c X e ct q).1
  tst := fun E c X e ct q => (h false E c X e ct q).2
  itr := fun E c X e tg ct q _ => i_any ct.K (h true E c X e ct q).1
  inner := fun j z => nost ns z
theorem no {p : Prop} (h : false = true) : p := (Bool.false_ne_true h).elim
theorem an {a b : Bool} (h : (a && b) = true) : a = true ∧ b = true := Bool.and_eq_true_iff.mp h
/-! ### the cases without parts -/
theorem g_var (i : Nat) : Good Z D Φ k (.var i) := good_of fun b E c X e h q => by
  cases e with
  | Name x p =>
    obtain ⟨q, q3⟩ := an (show (nmB c i x && visB c x && ndb x) = true from q)
    obtain ⟨q1, q2⟩ := an q
    exact ⟨e_var (h.nm q1) (h.vis q2) (ndb_1 q3) (ndb_2 q3), rfl⟩
  | _ => exact no q
theorem g_cst (v : PV) : Good Z D Φ k (.cst v) := good_of fun b E c X e h q => by
  cases e with
  | Constant cv j p =>
    cases cv with
    | int n =>
      cases v with
      | int i =>
        cases of_decide_eq_true (show decide (i = n) = true from q)
        exact ⟨e_int, rfl⟩
      | _ => exact no q
    | bool n =>
      cases v with
      | bl i =>
        cases eq_of_beq (show (i == n) = true from q)
        exact ⟨e_bl, rfl⟩
      | _ => exact no q
    | none =>
      cases v with
      | non => exact ⟨e_non, rfl⟩
      | _ => exact no q
    | str n =>
      cases v with
      | str i =>
        cases sEq_ok (show sEq i n = true from q)
        exact ⟨e_str, rfl⟩
      | _ => exact no q
    | _ => exact no q
  | _ => exact no q
theorem inG_ok {x : Str} {v : PV} : ∀ {l : List (Str × PV)}, inG x v l = true → (∃ i, v = .int i ∧ (x, PV.int i) ∈ l) ∨ ∃ i, v = .str i ∧ (x, PV.str i) ∈ l
  | [], h => no h
  | (y, u) :: r, h => by
    have h : ((sEq y x && sameV v u) || inG x v r) = true := h
    rw [Bool.or_eq_true] at h
    rcases h with h | h
    · obtain ⟨h1, h2⟩ := an h
      cases sEq_ok h1
      cases v with
      | int i =>
        cases u with
        | int j =>
          cases of_decide_eq_true (show decide (j = i) = true from h2)
          exact .inl ⟨_, rfl, List.mem_cons_self ..⟩
        | _ => exact no h2
      | str i =>
        cases u with
        | str j =>
          cases sEq_ok (show sEq j i = true from h2)
          exact .inr ⟨_, rfl, List.mem_cons_self ..⟩
        | _ => exact no h2
      | _ => exact no h2
    · rcases inG_ok h with ⟨i, e, m⟩ | ⟨i, e, m⟩
      · exact .inl ⟨i, e, List.mem_cons_of_mem _ m⟩
      · exact .inr ⟨i, e, List.mem_cons_of_mem _ m⟩
theorem g_glob (x : Str) (v : PV) : Good Z D Φ k (.glob x v) := good_of fun b E c X e h q => by
  cases e with
  | Name y p =>
    obtain ⟨q, q4⟩ := an (show (sEq x y && glB c y && ndb y && inG y v Z.glb) = true from q)
    obtain ⟨q, q3⟩ := an q
    obtain ⟨q1, q2⟩ := an q
    refine ⟨?_, rfl⟩
    rcases inG_ok q4 with ⟨i, e, m⟩ | ⟨i, e, m⟩
    · subst e
      obtain ⟨t, ht⟩ := h.fx.glI y i m
      exact e_globI (h.gl q2) (by rw [h.mg]; exact ht) (ndb_1 q3)
    · subst e
      obtain ⟨t, ht⟩ := h.fx.glS y i m
      exact e_globS (h.gl q2) (by rw [h.mg]; exact ht) (ndb_1 q3)
  | _ => exact no q
theorem g_bad : Good Z D Φ k .bad where
  val := fun E c X e ct q => e_fail fun _ _ _ => rfl
  tst := fun E c X e ct q => t_fail fun _ _ _ => rfl
  itr := fun E c X e tg ct q _ => no q
  inner := fun j z => nost (i := .bad) rfl z
theorem g_star {i : IE} (hi : Good Z D Φ k i) : Good Z D Φ k (.star i) where
  val := fun E c X e ct q => no q
  tst := fun E c X e ct q => no q
  itr := fun E c X e tg ct q _ => no q
  inner := fun j z => by
    cases z
    exact hi.val
end
end RV
end
section
/-! RVSn2: operators, displays, subscripts. -/
namespace RV
open PySem PySem.Spec PyProof.Rows L2
section
variable {Z : Zt} {D : En} {Φ : Nat → DefF} {k : Nat}
variable {a b d : IE}
theorem opB_ok {op : BOp} {o : Operator} (h : opB op o = true) : opO op = o := by
  cases op <;> cases o <;> first | rfl | exact no h
theorem copB_ok {op : COp} {o : CmpOp} (h : copB op o = true) : opC op = o := by
  cases op <;> cases o <;> first | rfl | exact no h
theorem g_bin (op : BOp) (ha : Good Z D Φ k a) (hb : Good Z D Φ k b) : Good Z D Φ k (.bin op a b) := good_of fun fl E c X e h q => by
  cases e with
  | BinOp a' o b' p =>
    obtain ⟨q, q3⟩ := an (show (opB op o && ckE Z D.C a false a' c && ckE Z D.C b false b' c) = true from q)
    obtain ⟨q1, q2⟩ := an q
    cases opB_ok q1
    exact ⟨e_bin (o_bin h.K op) (ha.val E c X a' h q2) (hb.val E c X b' h q3), rfl⟩
  | _ => exact no q
theorem g_neg (ha : Good Z D Φ k a) : Good Z D Φ k (.neg a) := good_of fun fl E c X e h q => by
  cases e with
  | UnaryOp o a' p =>
    cases o with
    | USub => exact ⟨e_un o_neg (ha.val E c X a' h q), rfl⟩
    | _ => exact no q
  | _ => exact no q
theorem g_not (ha : Good Z D Φ k a) : Good Z D Φ k (.not a) := good_ofT fun fl E c X e h q => by
  cases e with
  | UnaryOp o a' p =>
    cases o with
    | Not => exact ⟨e_not (ha.val E c X a' h q), t_not (ha.tst E c X a' h q)⟩
    | _ => exact no q
  | _ => exact no q
/-- a comparison by its operands' values -/
theorem o_any {E : XK} {c : Cc} {X : Cx} (h : Ct Z D Φ k E c X) (op : COp) : OpR X (compareOp (opC op)) (r2 D.L E fun B S x y => (cmpO D.C Φ B S op x y).bind fun b S => .ok (.bl b) S) := by
  have gen : ∀ op, (∀ B S x y, cmpO D.C Φ B S op x y = Out.of (cmpF B S op x y) S) → OpR X (compareOp (opC op)) (r2 D.L E fun B S x y => (cmpO D.C Φ B S op x y).bind fun b S => .ok (.bl b) S) := fun op z => by
    have e : (fun B S x y => (cmpO D.C Φ B S op x y).bind fun b S => Out.ok (PV.bl b) S) = fun B S x y => Out.of ((cmpF B S op x y).map .bl) S := by
      funext B S x y
      rw [z, of_map]
    rw [e]
    exact o_cmp h.P h.w h.K h.un op
  cases op with
  | eq => exact o_eqO h.K h.un h.ps h.r0 h.eqo
  | ne => exact o_neO h.K h.un h.ps h.r1 h.eqo
  | _ => exact gen _ fun _ _ _ _ => rfl
theorem g_cmp (op : COp) (ha : Good Z D Φ k a) (hb : Good Z D Φ k b) : Good Z D Φ k (.cmp op a b) := good_ofT fun fl E c X e h q => by
  cases e with
  | Compare a' os bs p =>
    cases os with
    | nil => exact no q
    | cons o os =>
      cases os with
      | cons _ _ => cases bs with
        | nil => exact no q
        | cons b1 bs => cases bs <;> exact no q
      | nil =>
        cases bs with
        | nil => exact no q
        | cons b' bs =>
          cases bs with
          | cons _ _ => exact no q
          | nil =>
            obtain ⟨q, q4⟩ := an (show (copB op o && !behindInMarks o b' && ckE Z D.C a false a' c && ckE Z D.C b false b' c) = true from q)
            obtain ⟨q, q3⟩ := an q
            obtain ⟨q1, q2⟩ := an q
            cases copB_ok q1
            have hm : behindInMarks (opC op) b' = false := by
              cases z : behindInMarks (opC op) b' with
              | false => rfl
              | true => rw [z] at q2; exact no q2
            exact ⟨e_cmp (o_any h op) (ha.val E c X a' h q3) (hb.val E c X b' h q4) hm, t_cmp (o_any h op) (ha.val E c X a' h q3) (hb.val E c X b' h q4) hm⟩
  | _ => exact no q
theorem g_chain (op op' : COp) (ha : Good Z D Φ k a) (hb : Good Z D Φ k b) (hd : Good Z D Φ k d) : Good Z D Φ k (.chain op op' a b d) := good_ofT fun fl E c X e h q => by
  cases e with
  | Compare a' os bs p =>
    rcases os with _ | ⟨o, _ | ⟨o', _ | ⟨o2, os⟩⟩⟩
    · exact no q
    · rcases bs with _ | ⟨b1, _ | ⟨b2, bs⟩⟩ <;> exact no q
    · rcases bs with _ | ⟨b', _ | ⟨d', _ | ⟨b3, bs⟩⟩⟩
      · exact no q
      · exact no q
      · obtain ⟨q, q6⟩ := an (show (copB op o && copB op' o' && !behindInMarks o' d' && ckE Z D.C a false a' c && ckE Z D.C b false b' c && ckE Z D.C d false d' c) = true from q)
        obtain ⟨q, q5⟩ := an q
        obtain ⟨q, q4⟩ := an q
        obtain ⟨q, q3⟩ := an q
        obtain ⟨q1, q2⟩ := an q
        cases copB_ok q1
        cases copB_ok q2
        have hm : lastMarks [opC op, opC op'] [b', d'] = false := by
          show behindInMarks (opC op') d' = false
          cases z : behindInMarks (opC op') d' with
          | false => rfl
          | true => rw [z] at q3; exact no q3
        have va := ha.val E c X a' h q4
        have vb := hb.val E c X b' h q5
        have vd := hd.val E c X d' h q6
        have co := fun op => o_cmp (E := E) h.P h.w h.K h.un op
        exact ⟨PEw (pe_chain (co op) (co op') va vb vd hm) fun σ H Q z => chain_read z, PTw (pt_chain (co op) (co op') va vb vd hm) fun σ H Q z => chain_read z⟩
      · exact no q
    · rcases bs with _ | ⟨b1, _ | ⟨b2, _ | ⟨b3, bs⟩⟩⟩ <;> exact no q
  | _ => exact no q
theorem g_ite (ha : Good Z D Φ k a) (hb : Good Z D Φ k b) (hd : Good Z D Φ k d) : Good Z D Φ k (.ite a b d) := good_ofT fun fl E c X e h q => by
  cases e with
  | IfExp t' a' b' p =>
    obtain ⟨q, q3⟩ := an (show (ckE Z D.C a false t' c && ckE Z D.C b false a' c && ckE Z D.C d false b' c) = true from q)
    obtain ⟨q1, q2⟩ := an q
    exact ⟨e_ite (ha.tst E c X t' h q1) (hb.val E c X a' h q2) (hd.val E c X b' h q3), t_ite (ha.tst E c X t' h q1) (hb.tst E c X a' h q2) (hd.tst E c X b' h q3)⟩
  | _ => exact no q
theorem g_sub (ha : Good Z D Φ k a) (hb : Good Z D Φ k b) : Good Z D Φ k (.sub a b) := good_of fun fl E c X e h q => by
  cases e with
  | Subscript a' b' p =>
    obtain ⟨q, q3⟩ := an (show (plainIx b' && ckE Z D.C a false a' c && ckE Z D.C b false b' c) = true from q)
    obtain ⟨q1, q2⟩ := an q
    exact ⟨e_sub h.P h.w h.K h.un (ha.val E c X a' h q2) (hb.val E c X b' h q3) q1, rfl⟩
  | _ => exact no q
theorem g_slc (m : Bool) {lo hi : Option IE} (ha : Good Z D Φ k a) (hl : GoodO Z D Φ k lo) (hh : GoodO Z D Φ k hi) : Good Z D Φ k (.slc m a lo hi) := good_of fun fl E c X e h q => by
  cases e with
  | Subscript a' b' p =>
    cases b' with
    | Slice lo' hi' st p2 =>
      cases st with
      | some _ => exact no q
      | none =>
        obtain ⟨q, q3⟩ := an (show (ckE Z D.C a false a' c && ckO Z D.C lo lo' c && ckO Z D.C hi hi' c) = true from q)
        obtain ⟨q1, q2⟩ := an q
        exact ⟨e_slc h.K m (ha.val E c X a' h q1) (hl E c X lo' h q2) (hh E c X hi' h q3), rfl⟩
    | _ => exact no q
  | _ => exact no q
theorem g_rev (ha : Good Z D Φ k a) : Good Z D Φ k (.rev a) := good_of fun fl E c X e h q => by
  cases e with
  | Subscript a' b' p =>
    cases b' with
    | Slice lo' hi' st p2 =>
      cases lo' with
      | some _ => exact no q
      | none =>
        cases hi' with
        | some _ => exact no q
        | none =>
          cases st with
          | none => exact no q
          | some st =>
            cases st with
            | UnaryOp o z p3 =>
              cases o with
              | USub =>
                cases z with
                | Constant cv j p4 =>
                  cases cv with
                  | int n =>
                    obtain ⟨q1, q2⟩ := an (show (decide (n = 1) && ckE Z D.C a false a' c) = true from q)
                    cases of_decide_eq_true q1
                    exact ⟨e_rev h.K (ha.val E c X a' h q2), rfl⟩
                  | _ => exact no q
                | _ => exact no q
              | _ => exact no q
            | _ => exact no q
    | _ => exact no q
  | _ => exact no q
theorem atS_ok {l : List Str} {f : Nat} {x : Str} (h : atS l f x = true) : l[f]? = some x := by
  unfold atS at h
  cases q : l[f]? with
  | none => rw [q] at h; exact no h
  | some y => rw [q] at h; rw [sEq_ok h]
theorem g_attr (f : Nat) (ha : Good Z D Φ k a) : Good Z D Φ k (.attr a f) := good_of fun fl E c X e h q => by
  cases e with
  | Attribute a' x p =>
    obtain ⟨q, q3⟩ := an (show (absOk a' && atS Z.fld f x && ckE Z D.C a false a' c) = true from q)
    obtain ⟨q1, q2⟩ := an q
    exact ⟨e_attr h.K h.fx.cf (h.fx.fld f x (atS_ok q2)) (ha.val E c X a' h q3) (abase_ok q1), rfl⟩
  | _ => exact no q
theorem go_none : GoodO Z D Φ k none := fun E c X e h q => by
  cases e with
  | none => exact o_none
  | some _ => exact no q
theorem go_some (ha : Good Z D Φ k a) : GoodO Z D Φ k (some a) := fun E c X e h q => by
  cases e with
  | none => exact no q
  | some e => exact o_some (ha.val E c X e h q)
theorem gf_none : GoodF Z D Φ k none := fun E c X e h q => by
  cases e with
  | nil => exact p_none
  | cons _ _ => exact no q
theorem gf_some (ha : Good Z D Φ k a) : GoodF Z D Φ k (some a) := fun E c X e h q => by
  rcases e with _ | ⟨e, _ | ⟨e2, es⟩⟩
  · exact no q
  · exact p_one (ha.tst E c X e h q)
  · exact no q
end
end RV
end
section
/-! RVSn3: and / or, arguments, displays. -/
namespace RV
open PySem PySem.Spec PyProof.Rows L2
theorem w_fail {X : Cx} {L : Pl} {E : XK} {e : Expr} {f : FE} (h : ∀ B ρ S, f B ρ S = .fail) : PW X e (tT L E f) := ⟨fun w pins s σ H Q I q => by
  obtain ⟨μ, B, ρ, S, rs, rl, o⟩ := q
  rw [h] at o
  exact False.elim o⟩
section
variable {Z : Zt} {D : En} {Φ : Nat → DefF} {k : Nat}
variable {a b d : IE} {is : List IE}
abbrev Goods (Z : Zt) (D : En) (Φ : Nat → DefF) (k : Nat) (is : List IE) : Prop := ∀ i ∈ is, Good Z D Φ k i
/-! ### and, or -/
theorem ckL_cons {C : Cfg} {i : IE} {es : List Expr} {c : Cc} (q : ckL Z C (i :: is) es c = true) : ∃ e r, es = e :: r ∧ ckE Z C i false e c = true ∧ ckL Z C is r c = true := by
  cases es with
  | nil => exact no q
  | cons e r =>
    obtain ⟨q1, q2⟩ := an (show (ckE Z C i false e c && ckL Z C is r c) = true from q)
    exact ⟨e, r, rfl, q1, q2⟩
theorem ckL_nil {C : Cfg} {es : List Expr} {c : Cc} (q : ckL Z C [] es c = true) : es = [] := by
  cases es with
  | nil => rfl
  | cons e r => exact no q
theorem gl_nil : GoodL Z D Φ k [] where
  andV := fun E c X es pos h q => e_fail fun _ _ _ => rfl
  orV := fun E c X es pos h q => e_fail fun _ _ _ => rfl
  andT := fun E c X es pos h q => w_fail fun _ _ _ => rfl
  orT := fun E c X es pos h q => w_fail fun _ _ _ => rfl
theorem gl_one (ha : Good Z D Φ k a) : GoodL Z D Φ k [a] where
  andV := fun E c X es pos h q => by
    obtain ⟨e, r, rfl, q1, q2⟩ := ckL_cons q
    cases ckL_nil q2
    exact pe_one (ha.val E c X e h q1)
  orV := fun E c X es pos h q => by
    obtain ⟨e, r, rfl, q1, q2⟩ := ckL_cons q
    cases ckL_nil q2
    exact pe_one (ha.val E c X e h q1)
  andT := fun E c X es pos h q => by
    obtain ⟨e, r, rfl, q1, q2⟩ := ckL_cons q
    cases ckL_nil q2
    exact t_and1 (ha.tst E c X e h q1)
  orT := fun E c X es pos h q => by
    obtain ⟨e, r, rfl, q1, q2⟩ := ckL_cons q
    cases ckL_nil q2
    exact t_or1 (ha.tst E c X e h q1)
theorem gl_cons (ha : Good Z D Φ k a) (hb : GoodL Z D Φ k (b :: is)) : GoodL Z D Φ k (a :: b :: is) where
  andV := fun E c X es pos h q => by
    obtain ⟨e, r, rfl, q1, q2⟩ := ckL_cons q
    have hr := hb.andV E c X r pos h q2
    obtain ⟨e2, r2, rfl, _, _⟩ := ckL_cons q2
    exact e_and (ha.val E c X e h q1) hr
  orV := fun E c X es pos h q => by
    obtain ⟨e, r, rfl, q1, q2⟩ := ckL_cons q
    have hr := hb.orV E c X r pos h q2
    obtain ⟨e2, r2, rfl, _, _⟩ := ckL_cons q2
    exact e_or (ha.val E c X e h q1) hr
  andT := fun E c X es pos h q => by
    obtain ⟨e, r, rfl, q1, q2⟩ := ckL_cons q
    have hr := hb.andT E c X r pos h q2
    obtain ⟨e2, r2, rfl, _, _⟩ := ckL_cons q2
    exact t_and (ha.tst E c X e h q1) hr
  orT := fun E c X es pos h q => by
    obtain ⟨e, r, rfl, q1, q2⟩ := ckL_cons q
    have hr := hb.orT E c X r pos h q2
    obtain ⟨e2, r2, rfl, _, _⟩ := ckL_cons q2
    exact t_or (ha.tst E c X e h q1) hr
theorem goodL : ∀ {is : List IE}, Goods Z D Φ k is → GoodL Z D Φ k is
  | [], _ => gl_nil
  | [a], h => gl_one (h a (List.mem_cons_self ..))
  | a :: b :: is, h => gl_cons (h a (List.mem_cons_self ..)) (goodL fun i m => h i (List.mem_cons_of_mem _ m))
theorem g_and (h : Goods Z D Φ k is) : Good Z D Φ k (.and is) := good_ofT fun fl E c X e ct q => by
  cases e with
  | BoolOp o es p =>
    cases o with
    | And => exact ⟨(goodL h).andV E c X es p ct q, ((goodL h).andT E c X es p ct q).pt⟩
    | _ => exact no q
  | _ => exact no q
theorem g_or (h : Goods Z D Φ k is) : Good Z D Φ k (.or is) := good_ofT fun fl E c X e ct q => by
  cases e with
  | BoolOp o es p =>
    cases o with
    | Or => exact ⟨(goodL h).orV E c X es p ct q, ((goodL h).orT E c X es p ct q).pt⟩
    | _ => exact no q
  | _ => exact no q
/-! ### arguments -/
def isSt : Expr → Bool
  | .Starred .. => true
  | _ => false
theorem star_head {e : Expr} {r : List Expr} {env : Env} (h : isSt e = false) : starEach (e :: r) env = (false, eval e env) :: starEach r env := by
  cases e <;> first | rfl | cases h
theorem ckA_nil {C : Cfg} {es : List Expr} {c : Cc} (q : ckA Z C [] es c = true) : es = [] := by
  cases es with
  | nil => rfl
  | cons e r => exact no q
theorem ckA_cons {C : Cfg} {i : IE} {es : List Expr} {c : Cc} (q : ckA Z C (i :: is) es c = true) : ∃ e r, es = e :: r ∧ ((∃ j x p, e = .Starred x p ∧ i = .star j ∧ ckE Z C j false x c = true) ∨ (isSt e = false ∧ isStar i = false ∧ ckE Z C i false e c = true)) ∧ ckA Z C is r c = true := by
  cases es with
  | nil => exact no q
  | cons e r =>
    refine ⟨e, r, rfl, ?_⟩
    have stn : ∀ e : Expr, ckE Z C i false e c = true → isStar i = false := fun e z => by
      cases i <;> first | rfl | exact no z
    cases e with
    | Starred x p =>
      obtain ⟨q1, q2⟩ := an (show (ckR Z C i x c && ckA Z C is r c) = true from q)
      refine ⟨.inl ?_, q2⟩
      cases i with
      | star j => exact ⟨j, x, p, rfl, rfl, q1⟩
      | _ => exact no q1
    | _ =>
      obtain ⟨q1, q2⟩ := an q
      exact ⟨.inr ⟨rfl, stn _ q1, q1⟩, q2⟩
theorem denA_cons {C : Cfg} {i : IE} (h : isStar i = false) : denA C Φ (i :: is) = fun B ρ S => (den C Φ i B ρ S).bind fun x S => (denA C Φ is B ρ S).bind fun vs S => .ok (x :: vs) S := by
  funext B ρ S
  show ((den C Φ i B ρ S).bind fun x S => match isStar i with
    | true => match seqOf B S x with
      | some xs => (denA C Φ is B ρ S).bind fun vs S => .ok (xs ++ vs) S
      | none => .fail
    | false => (denA C Φ is B ρ S).bind fun vs S => .ok (x :: vs) S) = _
  rw [h]
theorem bind_ok {α β : Type} {o : Out α} {f : α → Sto → Out β} {b : β} {S : Sto} (h : o.bind f = .ok b S) : ∃ a S1, o = .ok a S1 ∧ f a S1 = .ok b S := by
  cases o with
  | ok a S1 => exact ⟨a, S1, rfl, h⟩
  | exc => cases h
  | fail => cases h
theorem noStar_tail {e : Expr} {r : List Expr} (h : noStar (e :: r) = true) : isSt e = false ∧ noStar r = true := by
  cases e <;> first | exact ⟨rfl, h⟩ | exact no h
theorem goodA : ∀ {is : List IE}, Goods Z D Φ k is → GoodA Z D Φ k is
  | [], _ => {
    val := fun E c X es h q => by
      cases ckA_nil q
      exact a_nil
    kws := fun E c X ws h ns q => by
      cases ws with
      | nil => exact k_nil
      | cons w r => exact no q
    many := fun c es ns q => by
      cases ckA_nil q
      intro B ρ S vs S' e
      cases e
      rfl }
  | i :: is, g => {
    val := fun E c X es h q => by
      have hr := goodA (is := is) fun j m => g j (List.mem_cons_of_mem _ m)
      obtain ⟨e, r, rfl, q1, q2⟩ := ckA_cons q
      have hr := hr.val E c X r h q2
      rcases q1 with ⟨j, x, p, rfl, rfl, q1⟩ | ⟨z1, z2, q1⟩
      · have gi := g _ (List.mem_cons_self ..)
        have gj : PE X x (tE D.L E (den D.C Φ j)) := gi.inner j rfl E c X x h q1
        exact a_star h.K gj hr
      · rw [denA_cons z2]
        exact a_cons ((g i (List.mem_cons_self ..)).val E c X e h q1) hr (star_head z1)
    kws := fun E c X ws h ns q => by
      have hr := goodA (is := is) fun j m => g j (List.mem_cons_of_mem _ m)
      obtain ⟨e, r, ew, q1, q2⟩ := ckA_cons q
      cases ws with
      | nil => cases ew
      | cons w ws =>
        have ew : w.value :: ws.map (·.value) = e :: r := ew
        have e1 := (List.cons.inj ew).1
        have e2 := (List.cons.inj ew).2
        subst e1 e2
        have ns : noStar (w.value :: ws.map (·.value)) = true := ns
        obtain ⟨n1, n2⟩ := noStar_tail ns
        rcases q1 with ⟨j, x, p, z, _, _⟩ | ⟨z1, z2, q1⟩
        · rw [z] at n1; cases n1
        · rw [denA_cons z2]
          obtain ⟨nm, v, p⟩ := w
          exact k_cons ((g i (List.mem_cons_self ..)).val E c X _ h q1) (hr.kws E c X ws h n2 q2)
    many := fun c es ns q => by
      have hr := goodA (is := is) fun j m => g j (List.mem_cons_of_mem _ m)
      obtain ⟨e, r, rfl, q1, q2⟩ := ckA_cons q
      obtain ⟨n1, n2⟩ := noStar_tail ns
      rcases q1 with ⟨j, x, p, z, _, _⟩ | ⟨z1, z2, q1⟩
      · rw [z] at n1; cases n1
      · rw [denA_cons z2]
        intro B ρ S vs S' e
        obtain ⟨v, S1, e1, e⟩ := bind_ok e
        obtain ⟨ws, S2, e2, e⟩ := bind_ok e
        cases e
        rw [List.length_cons, List.length_cons, hr.many c r n2 q2 B ρ S1 ws _ e2] }
end
end RV
end
section
/-! RVSn4: displays, comprehensions. -/
namespace RV
open PySem PySem.Spec PyProof.Rows L2
theorem bind_assoc {α β γ : Type} (o : Out α) (f : α → Sto → Out β) (g : β → Sto → Out γ) : (o.bind f).bind g = o.bind fun a S => (f a S).bind g := by
  cases o <;> rfl
section
variable {Z : Zt} {D : En} {Φ : Nat → DefF} {k : Nat}
variable {a b d : IE} {is : List IE}
theorem g_tup (h : Goods Z D Φ k is) : Good Z D Φ k (.tup is) := good_of fun fl E c X e ct q => by
  cases e with
  | Tuple es j p => exact ⟨e_tup ((goodA h).val E c X es ct q), rfl⟩
  | _ => exact no q
theorem g_lst (m : Bool) (h : Goods Z D Φ k is) : Good Z D Φ k (.lst m is) := good_of fun fl E c X e ct q => by
  cases e with
  | List es p => exact ⟨e_lst m ((goodA h).val E c X es ct q), rfl⟩
  | _ => exact no q
/-! ### dicts -/
def prs (C : Cfg) (Φ : Nat → DefF) : List IE → List (FE × FE)
  | [] => []
  | [_] => []
  | i :: j :: r => (den C Φ i, den C Φ j) :: prs C Φ r
theorem ckD_cons {C : Cfg} {i j : IE} {ks : List (Option Expr)} {vs : List Expr} {c : Cc} (q : ckD Z C (i :: j :: is) ks vs c = true) : ∃ x kr v vr, ks = some x :: kr ∧ vs = v :: vr ∧ ckE Z C i false x c = true ∧ ckE Z C j false v c = true ∧ ckD Z C is kr vr c = true := by
  rcases ks with _ | ⟨_ | x, kr⟩
  · exact no q
  · exact no q
  · cases vs with
    | nil => exact no q
    | cons v vr =>
      obtain ⟨q, q3⟩ := an (show (ckE Z C i false x c && ckE Z C j false v c && ckD Z C is kr vr c) = true from q)
      obtain ⟨q1, q2⟩ := an q
      exact ⟨x, kr, v, vr, rfl, rfl, q1, q2, q3⟩
theorem ckD_nil {C : Cfg} {ks : List (Option Expr)} {vs : List Expr} {c : Cc} (q : ckD Z C [] ks vs c = true) : ks = [] ∧ vs = [] := by
  obtain ⟨q1, q2⟩ := an (show (ks.isEmpty && vs.isEmpty) = true from q)
  exact ⟨List.isEmpty_iff.mp q1, List.isEmpty_iff.mp q2⟩
theorem pairs_ok {E : XK} {c : Cc} {X : Cx} (ct : Ct Z D Φ k E c X) (pos : Pos) : ∀ (n : Nat) (is : List IE) (ks : List (Option Expr)) (vs : List Expr), is.length ≤ n → Goods Z D Φ k is → ckD Z D.C is ks vs c = true →
    PPs X pos ks vs ((prs D.C Φ is).map fun f => (tE D.L E f.1, tE D.L E f.2)) ∧ ks.all (·.isSome) = true ∧ ks.length = vs.length ∧ (prs D.C Φ is).length = ks.length ∧ ∀ acc B ρ S, denD D.C Φ false is acc B ρ S = denDF (prs D.C Φ is) acc B ρ S
  | _, [], ks, vs, _, _, q => by
    obtain ⟨rfl, rfl⟩ := ckD_nil q
    exact ⟨pps_nil, rfl, rfl, rfl, fun _ _ _ _ => rfl⟩
  | _, [_], ks, vs, _, _, q => no q
  | 0, _ :: _ :: _, _, _, hn, _, _ => absurd hn (by simp)
  | n + 1, i :: j :: r, ks, vs, hn, g, q => by
    obtain ⟨x, kr, v, vr, rfl, rfl, q1, q2, q3⟩ := ckD_cons q
    obtain ⟨h1, h2, h3, h4, h5⟩ := pairs_ok ct pos n r kr vr (by simp only [List.length_cons] at hn; omega) (fun z m => g z (List.mem_cons_of_mem _ (List.mem_cons_of_mem _ m))) q3
    refine ⟨pps_cons ((g i (List.mem_cons_self ..)).val E c X x ct q1) ((g j (List.mem_cons_of_mem _ (List.mem_cons_self ..))).val E c X v ct q2) h1, ?_, ?_, ?_, fun acc B ρ S => ?_⟩
    · simpa using h2
    · simp [h3]
    · show (prs D.C Φ r).length + 1 = kr.length + 1
      rw [h4]
    · show ((den D.C Φ i B ρ S).bind fun kk S => (den D.C Φ j B ρ S).bind fun vv S => match putK false kk vv acc with
        | some acc' => denD D.C Φ false r acc' B ρ S
        | none => .fail) = ((den D.C Φ i B ρ S).bind fun kk S => (den D.C Φ j B ρ S).bind fun vv S => match putK false kk vv acc with
        | some acc' => denDF (prs D.C Φ r) acc' B ρ S
        | none => .fail)
      simp only [h5]
theorem den_dct {C : Cfg} (t : Bool) (kvs : List IE) : den C Φ (.dct t kvs) = fun B ρ S => (denD C Φ t kvs [] B ρ S).bind fun kvs S => newS B S (mkD t kvs) := rfl
theorem g_dct (t : Bool) (h : Goods Z D Φ k is) : Good Z D Φ k (.dct t is) := good_of fun fl E c X e ct q => by
  cases e with
  | Dict ks vs p =>
    refine ⟨?_, rfl⟩
    obtain ⟨q1, q2⟩ := an (show (ckD Z D.C is ks vs c && dctB t ks.length) = true from q)
    rcases is with _ | ⟨i, _ | ⟨j, r⟩⟩
    · obtain ⟨rfl, rfl⟩ := ckD_nil q1
      exact e_dnew t ct.P ct.w
    · exact no q1
    · cases t with
      | true =>
        obtain ⟨x, kr, v, vr, rfl, rfl, q3, q4, q5⟩ := ckD_cons q1
        have q2 := Nat.le_of_ble_eq_true q2
        have kr0 : kr = [] := by
          cases kr with
          | nil => rfl
          | cons _ _ => simp at q2
        subst kr0
        have r0 : r = [] ∧ vr = [] := by
          rcases r with _ | ⟨i2, _ | ⟨j2, r⟩⟩
          · exact ⟨rfl, (ckD_nil q5).2⟩
          · exact no q5
          · obtain ⟨_, _, _, _, z, _⟩ := ckD_cons q5
            cases z
        obtain ⟨rfl, rfl⟩ := r0
        have e : den D.C Φ (.dct true [i, j]) = fun B ρ S => (den D.C Φ i B ρ S).bind fun kk S => (den D.C Φ j B ρ S).bind fun vv S => match RV.putK true kk vv [] with
            | some kvs => newS B S (.dct kvs)
            | none => .fail := by
          funext B ρ S
          show (((den D.C Φ i B ρ S).bind fun kk S => (den D.C Φ j B ρ S).bind fun vv S => match putK true kk vv [] with
            | some acc' => .ok acc' S
            | none => .fail).bind fun kvs S => newS B S (mkD true kvs)) = _
          rw [bind_assoc]
          congr 1
          funext kk S1
          rw [bind_assoc]
          congr 1
          funext vv S2
          cases putK true kk vv [] <;> rfl
        rw [e]
        exact e_dct1 ct.P ct.w ct.K ct.un ((h i (List.mem_cons_self ..)).val E c X x ct q3) ((h j (List.mem_cons_of_mem _ (List.mem_cons_self ..))).val E c X v ct q4)
      | false =>
        have q2 : ks.length ≤ 15 := Nat.le_of_ble_eq_true q2
        obtain ⟨h1, h2, h3, h4, h5⟩ := pairs_ok ct p _ _ ks vs (Nat.le_refl _) h q1
        rw [den_dct]
        simp only [h5]
        refine e_dctL h1 h2 h3 ?_ q2 (by rw [h4]; exact q2)
        rintro rfl
        obtain ⟨_, _, _, _, z, _⟩ := ckD_cons q1
        cases z
  | _ => exact no q
/-! ### comprehensions -/
theorem notSet_ok {e : Expr} (h : notSet e = true) (env : Env) (x : Value) : foldedSetIterable e env x = pure x := by
  cases e <;> first | rfl | exact no h
theorem any_mem {l : List Nat} {i : Nat} (h : (l.any fun j => Nat.beq j i) = true) : i ∈ l := by
  obtain ⟨j, hj, e⟩ := List.any_eq_true.mp h
  rw [← Nat.eq_of_beq_eq_true e]
  exact hj
theorem tvB_ok {t : IE} {own : List Nat} (h : tvB t own = true) : ∀ i ∈ tv t, i ∈ own := fun i m => any_mem (List.all_eq_true.mp h i m)
theorem subB_ok {is js : List Nat} (h : subB is js = true) : ∀ i ∈ is, i ∈ js := fun i m => any_mem (List.all_eq_true.mp h i m)
theorem Ct.ndN {E : XK} {c : Cc} {X : Cx} (h : Ct Z D Φ k E c X) : X.N.Nodup := by rw [h.N]; exact h.nd
theorem Ct.tgt {E : XK} {c : Cc} {X : Cx} (h : Ct Z D Φ k E c X) {tg : Expr} {t : IE} (q : ckT c.N (locB c) tg t = true) : PG X tg (gT D.L t) := g_any h.K h.calm h.ndN h.loc tg t (by rw [h.N]; exact q)
theorem den_lc {C : Cfg} (m : Bool) (own : List Nat) (t it : IE) (ifs : Option IE) (elt : IE) : den C Φ (.lc m own t it ifs elt) = lcF m t own (den C Φ it) (denT C Φ ifs) (den C Φ elt) := rfl
theorem den_lc2 {C : Cfg} (m : Bool) (own own1 : List Nat) (t it t1 it1 : IE) (ifs : Option IE) (elt : IE) : den C Φ (.lc2 m own own1 t it t1 it1 ifs elt) = lc2F m t t1 own own1 (den C Φ it) (den C Φ it1) (denT C Φ ifs) (den C Φ elt) := rfl
theorem den_dc {C : Cfg} (own : List Nat) (t it kk v : IE) : den C Φ (.dc false own t it kk v) = dcF t own (den C Φ it) (den C Φ kk) (den C Φ v) := rfl
variable {own own1 : List Nat} {t it t1 it1 elt kk vv : IE} {ifs : Option IE}
/-- what a list comprehension's check says -/
structure LcOk (Z : Zt) (D : En) (Φ : Nat → DefF) (k : Nat) (E : XK) (c : Cc) (X : Cx) (own : List Nat) (t it : IE) (scope : Scope) (tg it' : Expr) : Prop where
  ok : BlkOk X.N X.env.scope scope (ownOf c.N own)
  on : (ownOf c.N own).map (·.2) = own
  hk : scope.kind = .function
  tv : ∀ i ∈ tv t, i ∈ own
  hi : PI X tg it' (tI D.L E (den D.C Φ it))
  hg : ∀ (s : Shared) (H : Hp) (C : Addr) (cl : List (Str × Addr)) (fp : List Addr), PG (X.blk s H scope (compEnvC scope cl C X.env) fp) tg (gT D.L t)
theorem LcOk.of {E : XK} {c : Cc} {X : Cx} {scope : Scope} {tg it' : Expr} (ct : Ct Z D Φ k E c X) (hi : Good Z D Φ k it) (q1 : blkB c scope own = true) (q2 : tvB t own = true) (q4 : tgI it tg = true) (q5 : ckE Z D.C it true it' c = true) (q6 : ckT c.N (locB (c.blk scope)) tg t = true) : LcOk Z D Φ k E c X own t it scope tg it' := by
  obtain ⟨a1, a2, a3⟩ := ct.blkOk q1
  exact ⟨a1, a2, a3, tvB_ok q2, hi.itr E c X it' tg ct q5 q4, fun s H C cl fp => (ct.blk a3 s H C cl fp).tgt q6⟩
theorem g_lc (m : Bool) (hi : Good Z D Φ k it) (hf : GoodF Z D Φ k ifs) (he : Good Z D Φ k elt) : Good Z D Φ k (.lc m own t it ifs elt) := good_of fun fl E c X e ct q => by
  cases e with
  | ListComp elt' gs scope p =>
    refine ⟨?_, rfl⟩
    rcases gs with _ | ⟨⟨tg, it', ifs', as⟩, _ | ⟨g2, gs⟩⟩
    · exact no q
    · obtain ⟨q, q8⟩ := an (show (decide (as = 0) && blkB c scope own && tvB t own && notSet it' && tgI it tg && ckE Z D.C it true it' c && ckT c.N (locB (c.blk scope)) tg t && ckF Z D.C ifs ifs' (c.blk scope) && ckE Z D.C elt false elt' (c.blk scope)) = true from q)
      obtain ⟨q, q7⟩ := an q
      obtain ⟨q, q6⟩ := an q
      obtain ⟨q, q5⟩ := an q
      obtain ⟨q, q4⟩ := an q
      obtain ⟨q, q3⟩ := an q
      obtain ⟨q, q2⟩ := an q
      obtain ⟨q0, q1⟩ := an q
      cases of_decide_eq_true q0
      have lo := LcOk.of ct hi q1 q2 q4 q5 q6
      rw [den_lc, ← lo.on]
      exact e_lc m ct.calm ct.ndN lo.hi lo.ok (by rw [lo.on]; exact lo.tv) lo.hg (fun s H C cl fp => hf E0 _ _ ifs' (ct.blk lo.hk s H C cl fp) q7) (fun s H C cl fp => he.val E0 _ _ elt' (ct.blk lo.hk s H C cl fp) q8) (notSet_ok q3 _)
    · exact no q
  | _ => exact no q
theorem g_lc2 (m : Bool) (hi : Good Z D Φ k it) (hi1 : Good Z D Φ k it1) (hf : GoodF Z D Φ k ifs) (he : Good Z D Φ k elt) : Good Z D Φ k (.lc2 m own own1 t it t1 it1 ifs elt) := good_of fun fl E c X e ct q => by
  cases e with
  | ListComp elt' gs scope p =>
    refine ⟨?_, rfl⟩
    rcases gs with _ | ⟨⟨tg, it', ifs0, as⟩, _ | ⟨⟨tg1, it1', ifs', as1⟩, _ | ⟨g3, gs⟩⟩⟩
    · exact no q
    · cases ifs0 <;> exact no q
    · cases ifs0 with
      | cons _ _ => exact no q
      | nil =>
        obtain ⟨q, q14⟩ := an (show (decide (as = 0) && decide (as1 = 0) && blkB c scope own && tvB t own && tvB t1 own1 && subB own1 own && notSet it' && notSet it1' && tgI it tg && tgI it1 tg1 && ckE Z D.C it true it' c && ckT c.N (locB (c.blk scope)) tg t
              && ckE Z D.C it1 true it1' (c.blk scope) && ckT c.N (locB (c.blk scope)) tg1 t1 && ckF Z D.C ifs ifs' (c.blk scope) && ckE Z D.C elt false elt' (c.blk scope)) = true from q)
        obtain ⟨q, q13⟩ := an q
        obtain ⟨q, q12⟩ := an q
        obtain ⟨q, q11⟩ := an q
        obtain ⟨q, q10⟩ := an q
        obtain ⟨q, q9⟩ := an q
        obtain ⟨q, q8⟩ := an q
        obtain ⟨q, q7⟩ := an q
        obtain ⟨q, q6⟩ := an q
        obtain ⟨q, q5⟩ := an q
        obtain ⟨q, q4⟩ := an q
        obtain ⟨q, q3⟩ := an q
        obtain ⟨q, q2⟩ := an q
        obtain ⟨q, q1⟩ := an q
        obtain ⟨q0, q00⟩ := an q
        cases of_decide_eq_true q0
        cases of_decide_eq_true q00
        have lo := LcOk.of ct hi q1 q2 q7 q9 q10
        rw [den_lc2, ← lo.on]
        exact e_lc2 m ct.calm ct.ndN lo.hi lo.ok (by rw [lo.on]; exact lo.tv) (tvB_ok q3) (by rw [lo.on]; exact subB_ok q4) lo.hg (fun s H C cl fp => hi1.itr E0 _ _ it1' tg1 (ct.blk lo.hk s H C cl fp) q11 q8) (fun s H C cl fp => (ct.blk lo.hk s H C cl fp).tgt q12)
          (fun s H C cl fp => hf E0 _ _ ifs' (ct.blk lo.hk s H C cl fp) q13) (fun s H C cl fp => he.val E0 _ _ elt' (ct.blk lo.hk s H C cl fp) q14) (notSet_ok q5 _) (notSet_ok q6)
    · cases ifs0 <;> exact no q
  | _ => exact no q
theorem g_dc (tk : Bool) (hi : Good Z D Φ k it) (hk : Good Z D Φ k kk) (hv : Good Z D Φ k vv) : Good Z D Φ k (.dc tk own t it kk vv) := good_of fun fl E c X e ct q => by
  cases e with
  | DictComp k' v' gs scope p =>
    refine ⟨?_, rfl⟩
    rcases gs with _ | ⟨⟨tg, it', ifs', as⟩, _ | ⟨g2, gs⟩⟩
    · exact no q
    · cases ifs' with
      | cons _ _ => exact no q
      | nil =>
        obtain ⟨q, q9⟩ := an (show (decide (as = 0) && !tk && blkB c scope own && tvB t own && notSet it' && tgI it tg && ckE Z D.C it true it' c && ckT c.N (locB (c.blk scope)) tg t && ckE Z D.C kk false k' (c.blk scope) && ckE Z D.C vv false v' (c.blk scope)) = true from q)
        obtain ⟨q, q8⟩ := an q
        obtain ⟨q, q7⟩ := an q
        obtain ⟨q, q6⟩ := an q
        obtain ⟨q, q5⟩ := an q
        obtain ⟨q, q4⟩ := an q
        obtain ⟨q, q3⟩ := an q
        obtain ⟨q, q2⟩ := an q
        obtain ⟨q0, q1⟩ := an q
        cases of_decide_eq_true q0
        cases tk with
        | true => exact no q1
        | false =>
          have lo := LcOk.of ct hi q2 q3 q5 q6 q7
          rw [den_dc, ← lo.on]
          exact e_dc ct.calm ct.ndN lo.hi lo.ok (by rw [lo.on]; exact lo.tv) lo.hg (fun s H C cl fp => hk.val E0 _ _ k' (ct.blk lo.hk s H C cl fp) q8) (fun s H C cl fp => hv.val E0 _ _ v' (ct.blk lo.hk s H C cl fp) q9) (notSet_ok q4 _)
    · cases ifs' <;> exact no q
  | _ => exact no q
end
end RV
end
section
/-! RVSn5: built-ins, methods, isinstance, calls, iterators. -/
namespace RV
open PySem PySem.Spec PyProof.Rows L2
section
variable {Z : Zt} {D : En} {Φ : Nat → DefF} {k : Nat}
variable {a b d o : IE} {is es : List IE}
theorem Ct.no {E : XK} {c : Cc} {X : Cx} (h : Ct Z D Φ k E c X) {x : Str} (m : x ∈ bNames) : X.mg x = none := by rw [h.mg]; exact h.fx.free x m
theorem den_bi {C : Cfg} (b : BI) (es : List IE) : den C Φ (.bi b es) = fun B ρ S => (denA C Φ es B ρ S).bind fun vs S => biF B S b vs := rfl
theorem isBi_ok {b : BI} {x : Str} (h : isBi b x = true) : ∃ y, biN b = some y ∧ y = x := by
  unfold isBi at h
  cases q : biN b with
  | none => rw [q] at h; exact no h
  | some y => rw [q] at h; exact ⟨y, rfl, sEq_ok h⟩
theorem biB_no {C : Cfg} {bi : BI} {x : Str} {p1 p2 : Pos} {e' : Expr} {es' : List Expr} {c : Cc} {fl : Bool} (nz : isZs bi = false) (q : ckE Z C (.bi bi es) fl (.Call (.Name x p1) (e' :: es') [] p2) c = true) : (isBi bi x && glB c x && noStar (e' :: es') && ckA Z C es (e' :: es') c) = true := by
  cases bi <;> first | exact q | cases nz
theorem g_zip (h : Goods Z D Φ k es) : Good Z D Φ k (.bi .zipStar es) := good_of fun fl E c X e ct q => by
  cases e with
  | Call f args kws p =>
    cases f with
    | Name x p2 =>
      cases args with
      | nil => exact RV.no q
      | cons e' es' =>
        cases kws with
        | cons _ _ => cases es' <;> exact RV.no q
        | nil =>
          cases e' with
          | Call f2 args2 kws2 p3 =>
            cases f2 with
            | Name y p4 =>
              rcases args2 with _ | ⟨a2, _ | ⟨a3, ar⟩⟩
              · exact RV.no (an q).2
              · cases a2 with
                | Starred a' p5 =>
                  cases kws2 with
                  | cons _ _ => exact RV.no (an q).2
                  | nil =>
                    obtain ⟨q, q4⟩ := an (show (sEq x "list" && glB c x && es'.isEmpty && (sEq y "zip" && glB c y && ckL Z D.C es [a'] c)) = true from q)
                    obtain ⟨q, q3⟩ := an q
                    obtain ⟨q1, q2⟩ := an q
                    obtain ⟨q4, q6⟩ := an q4
                    obtain ⟨q4, q5⟩ := an q4
                    cases sEq_ok q1
                    cases sEq_ok q4
                    cases es' with
                    | cons _ _ => exact RV.no q3
                    | nil =>
                      cases es with
                      | nil => exact RV.no q6
                      | cons i is =>
                        obtain ⟨e1, r1, ee, q8, q7⟩ := ckL_cons q6
                        have e2 := (List.cons.inj ee).1
                        have e3 := (List.cons.inj ee).2
                        subst e2 e3
                        cases is with
                        | cons _ _ => exact RV.no q7
                        | nil =>
                          refine ⟨?_, rfl⟩
                          have nst : isStar i = false := by
                            cases i <;> first | rfl | exact RV.no q8
                          have ed : den D.C Φ (.bi .zipStar [i]) = fun B ρ S => (den D.C Φ i B ρ S).bind fun x S => Out.of ((zipF B S x).map .lst) S := by
                            funext B ρ S
                            show (denA D.C Φ [i] B ρ S).bind (fun vs S => biF B S .zipStar vs) = _
                            rw [denA_cons nst, bind_assoc]
                            rfl
                          rw [ed]
                          exact e_zipS ct.K ct.calm (ct.gl q2) (ct.no (by decide)) (ct.gl q5) (ct.no (by decide)) ((h i (List.mem_cons_self ..)).val E c X a' ct q8)
                | _ => exact RV.no (an q).2
              · cases a2 <;> exact RV.no (an q).2
            | _ => exact RV.no (an q).2
          | _ => exact RV.no (an q).2
    | _ => exact RV.no q
  | _ => exact RV.no q
theorem g_biN (bi : BI) (nz : isZs bi = false) (nx : isMx bi = false) (h : Goods Z D Φ k es) : Good Z D Φ k (.bi bi es) := good_of fun fl E c X e ct q => by
  cases e with
  | Call f args kws p =>
    cases f with
    | Name x p2 =>
      cases args with
      | nil => exact RV.no q
      | cons e' es' =>
        cases kws with
        | cons _ _ =>
          cases es' with
          | cons _ _ => exact RV.no q
          | nil =>
            have z := (an (an (an (an (an q).1).1).1).1).1
            rw [nx] at z
            cases z
        | nil =>
          have q := biB_no nz q
          obtain ⟨q, q4⟩ := an (show (isBi bi x && glB c x && noStar (e' :: es') && ckA Z D.C es (e' :: es') c) = true from q)
          obtain ⟨q, q3⟩ := an q
          obtain ⟨q1, q2⟩ := an q
          obtain ⟨y, e1, rfl⟩ := isBi_ok q1
          have ha := (goodA h).val E c X (e' :: es') ct q4
          refine ⟨?_, rfl⟩
          rw [den_bi]
          cases bi <;> first
            | (cases e1; exact e_bi (c_len ct.K) (ct.gl q2) (ct.no (by decide)) (by decide +kernel) (by decide) (by decide) q3 ha)
            | (cases e1; exact e_bi (c_all ct.K ct.calm) (ct.gl q2) (ct.no (by decide)) (by decide +kernel) (by decide) (by decide) q3 ha)
            | (cases e1; exact e_bi (c_any ct.K ct.calm) (ct.gl q2) (ct.no (by decide)) (by decide +kernel) (by decide) (by decide) q3 ha)
            | (cases e1; exact e_bi (c_sum ct.K ct.calm) (ct.gl q2) (ct.no (by decide)) (by decide +kernel) (by decide) (by decide) q3 ha)
            | (cases e1; exact e_ty (c_tuple ct.K) (ct.gl q2) (ct.no (by decide)) (by decide +kernel) (by decide) (by decide) q3 ha)
            | (cases e1; exact e_ty c_int (ct.gl q2) (ct.no (by decide)) (by decide +kernel) (by decide) (by decide) q3 ha)
            | (cases e1; exact e_ty (c_list _ ct.K ct.calm) (ct.gl q2) (ct.no (by decide)) (by decide +kernel) (by decide) (by decide) q3 ha)
            | (cases e1; exact e_bi (c_min2 ct.calm) (ct.gl q2) (ct.no (by decide)) (by decide +kernel) (by decide) (by decide) q3 ha)
            | (cases e1; exact e_bi (c_min3 ct.calm) (ct.gl q2) (ct.no (by decide)) (by decide +kernel) (by decide) (by decide) q3 ha)
            | (cases e1; exact e_bi (c_max2 ct.calm) (ct.gl q2) (ct.no (by decide)) (by decide +kernel) (by decide) (by decide) q3 ha)
            | (cases e1; exact e_bi (c_sorted _ ct.K ct.calm ct.un) (ct.gl q2) (ct.no (by decide)) (by decide +kernel) (by decide) (by decide) q3 ha)
            | cases e1
    | _ => exact RV.no q
  | _ => exact RV.no q
/-! ### methods of lists -/
theorem den_mth {C : Cfg} (b : BI) (o : IE) (es : List IE) : den C Φ (.mth b o es) = mthF b (den C Φ o) (denA C Φ es) := rfl
theorem g_mth (bi : BI) (ho : Good Z D Φ k o) (h : Goods Z D Φ k es) : Good Z D Φ k (.mth bi o es) := good_of fun fl E c X e ct q => by
  cases e with
  | Call f es' kws p =>
    cases f with
    | Attribute o' m ap =>
      cases kws with
      | cons _ _ => exact RV.no q
      | nil =>
        obtain ⟨q, q6⟩ := an (show (absOk o' && (ap.endLine == p.line) && noStar es' && ckE Z D.C o false o' c && ckA Z D.C es es' c && mthB bi m es') = true from q)
        obtain ⟨q, q5⟩ := an q
        obtain ⟨q, q4⟩ := an q
        obtain ⟨q, q3⟩ := an q
        obtain ⟨q1, q2⟩ := an q
        have ha := (goodA h).val E c X es' ct q5
        have hob := ho.val E c X o' ct q4
        refine ⟨?_, rfl⟩
        rw [den_mth]
        cases bi with
        | append =>
          obtain ⟨q6, q8⟩ := an (show (sEq m "append" && !es'.isEmpty && Nat.blt es'.length 30) = true from q6)
          obtain ⟨q6, q7⟩ := an q6
          cases sEq_ok q6
          cases es' with
          | nil => exact RV.no q7
          | cons e1 r1 => exact e_append ct.K hob ha q1 q3 q8 q2
        | extend =>
          obtain ⟨q6, q8⟩ := an (show (sEq m "extend" && !es'.isEmpty && Nat.blt es'.length 30) = true from q6)
          obtain ⟨q6, q7⟩ := an q6
          cases sEq_ok q6
          cases es' with
          | nil => exact RV.no q7
          | cons e1 r1 => exact e_extend ct.K hob ha q1 q3 q8 q2
        | pop =>
          obtain ⟨q6, q7⟩ := an (show (sEq m "pop" && es'.isEmpty) = true from q6)
          cases sEq_ok q6
          cases es' with
          | cons _ _ => exact RV.no q7
          | nil =>
            cases es with
            | cons _ _ => exact RV.no q5
            | nil => exact e_pop ct.K hob q1 q2
        | _ => exact RV.no q6
    | _ => exact RV.no q
  | _ => exact RV.no q
/-! ### isinstance -/
theorem csB_ok {E : XK} {c : Cc} {X : Cx} (ct : Ct Z D Φ k E c X) {cs : CS} {e : Expr} (q : csB cs e c = true) : CsB X e cs := by
  cases e with
  | Name x p =>
    cases cs with
    | cls d => exact RV.no q
    | int =>
      obtain ⟨q1, q2⟩ := an (show (sEq "int" x && glB c x) = true from q)
      cases sEq_ok q1
      exact ⟨.ty "int", 2, pe_bltn (u := .type "int") (ct.gl q2) (ct.no (by decide)) (by decide +kernel) rfl, .ty _, rfl⟩
    | bool =>
      obtain ⟨q1, q2⟩ := an (show (sEq "bool" x && glB c x) = true from q)
      cases sEq_ok q1
      exact ⟨.ty "bool", 1, pe_bltn (u := .type "bool") (ct.gl q2) (ct.no (by decide)) (by decide +kernel) rfl, .ty _, rfl⟩
    | str =>
      obtain ⟨q1, q2⟩ := an (show (sEq "str" x && glB c x) = true from q)
      cases sEq_ok q1
      exact ⟨.ty "str", 3, pe_bltn (u := .type "str") (ct.gl q2) (ct.no (by decide)) (by decide +kernel) rfl, .ty _, rfl⟩
    | tuple =>
      obtain ⟨q1, q2⟩ := an (show (sEq "tuple" x && glB c x) = true from q)
      cases sEq_ok q1
      exact ⟨.ty "tuple", 4, pe_bltn (u := .type "tuple") (ct.gl q2) (ct.no (by decide)) (by decide +kernel) rfl, .ty _, rfl⟩
    | list =>
      obtain ⟨q1, q2⟩ := an (show (sEq "list" x && glB c x) = true from q)
      cases sEq_ok q1
      exact ⟨.ty "list", 5, pe_bltn (u := .type "list") (ct.gl q2) (ct.no (by decide)) (by decide +kernel) rfl, .ty _, rfl⟩
  | _ => exact RV.no q
theorem csO_ok {E : XK} {c : Cc} {X : Cx} (ct : Ct Z D Φ k E c X) {cs : CS} {e : Expr} (q : csO Z cs e c = true) : CsOk X D.L e cs := by
  cases e with
  | Name x p =>
    cases cs with
    | cls j =>
      obtain ⟨q, q4⟩ := an (show (atS Z.cls j x && glB c x && ndb x && Z.own.any fun i => Nat.beq i j) = true from q)
      obtain ⟨q, q3⟩ := an q
      obtain ⟨q1, q2⟩ := an q
      refine ⟨.ref (D.L.ca j), .ref (D.L.ca j), pe_glob (u := .ref (D.L.ca j)) (ct.gl q2) (by rw [ct.mg]; exact ct.fx.cls j x (atS_ok q1)) rfl (ndb_1 q3), .own _, .inr ⟨j, rfl, rfl, ct.fx.tyc j (any_mem q4)⟩⟩
    | _ => exact RV.no q
  | _ => exact RV.no q
theorem CsB.ok {X : Cx} {L : Pl} {e : Expr} {cs : CS} (h : CsB X e cs) : CsOk X L e cs := by
  obtain ⟨v, j, h1, h2, h3⟩ := h
  exact ⟨v, _, h1, h2, .inl ⟨j, h3, rfl⟩⟩
theorem den_isi {C : Cfg} (a : IE) (cs : List CS) : den C Φ (.isi a cs) = fun B ρ S => (den C Φ a B ρ S).bind fun x S => Out.of ((isiF B S x cs).map .bl) S := rfl
theorem g_isi (cs : List CS) (ha : Good Z D Φ k a) : Good Z D Φ k (.isi a cs) := good_of fun fl E c X e ct q => by
  cases e with
  | Call f args kws p =>
    cases f with
    | Name x p2 =>
      rcases args with _ | ⟨a', _ | ⟨ce, _ | ⟨a3, ar⟩⟩⟩
      · exact RV.no q
      · exact RV.no q
      · cases kws with
        | cons _ _ => exact RV.no q
        | nil =>
          obtain ⟨q, q5⟩ := an (show (sEq x "isinstance" && glB c x && noStar [a', ce] && ckE Z D.C a false a' c && ckCs Z cs ce c) = true from q)
          obtain ⟨q, q4⟩ := an q
          obtain ⟨q, q3⟩ := an q
          obtain ⟨q1, q2⟩ := an q
          cases sEq_ok q1
          obtain ⟨s1, s2⟩ := star_cons (env := X.env) q3
          obtain ⟨s3, _⟩ := star_cons (env := X.env) s2
          have va := ha.val E c X a' ct q4
          refine ⟨?_, rfl⟩
          rw [den_isi]
          rcases cs with _ | ⟨k1, _ | ⟨k2, _ | ⟨k3, cr⟩⟩⟩
          · exact RV.no q5
          · have q5 : (csB k1 ce c || csO Z k1 ce c) = true := q5
            rw [Bool.or_eq_true] at q5
            have ck : CsOk X D.L ce k1 := q5.elim (fun z => (csB_ok ct z).ok) (fun z => csO_ok ct z)
            exact e_isi ct.K (ct.gl q2) (ct.no (by decide)) va ck s1 s3
          · cases ce with
            | Tuple ces j3 p3 =>
              rcases ces with _ | ⟨c1, _ | ⟨c2, _ | ⟨c3, cer⟩⟩⟩
              · exact RV.no q5
              · exact RV.no q5
              · obtain ⟨q6, q7⟩ := an (show (csB k1 c1 c && csB k2 c2 c) = true from q5)
                have n1 : isSt c1 = false := by
                  cases c1 <;> first | rfl | exact RV.no q6
                have n2 : isSt c2 = false := by
                  cases c2 <;> first | rfl | exact RV.no q7
                exact e_isi2 ct.K (ct.gl q2) (ct.no (by decide)) va (csB_ok ct q6) (csB_ok ct q7) s1 (star_head n1) (star_head n2)
              · exact RV.no q5
            | _ => exact RV.no q5
          · exact RV.no q5
      · exact RV.no q
    | _ => exact RV.no q
  | _ => exact RV.no q
/-! ### calls -/
theorem denA_append {C : Cfg} : ∀ (as bs : List IE) (B : Sto) (ρ : Loc) (S : Sto), denA C Φ (as ++ bs) B ρ S = (denA C Φ as B ρ S).bind fun vs S => (denA C Φ bs B ρ S).bind fun zs S => .ok (vs ++ zs) S
  | [], bs, B, ρ, S => by
    show denA C Φ bs B ρ S = (denA C Φ bs B ρ S).bind fun zs S => .ok zs S
    cases denA C Φ bs B ρ S <;> rfl
  | a :: as, bs, B, ρ, S => by
    show ((den C Φ a B ρ S).bind fun x S => match isStar a with
      | true => match seqOf B S x with
        | some xs => (denA C Φ (as ++ bs) B ρ S).bind fun vs S => .ok (xs ++ vs) S
        | none => .fail
      | false => (denA C Φ (as ++ bs) B ρ S).bind fun vs S => .ok (x :: vs) S) = (((den C Φ a B ρ S).bind fun x S => match isStar a with
      | true => match seqOf B S x with
        | some xs => (denA C Φ as B ρ S).bind fun vs S => .ok (xs ++ vs) S
        | none => .fail
      | false => (denA C Φ as B ρ S).bind fun vs S => .ok (x :: vs) S)).bind fun vs S => (denA C Φ bs B ρ S).bind fun zs S => .ok (vs ++ zs) S
    rw [bind_assoc]
    congr 1
    funext x S1
    cases isStar a with
    | true =>
      cases seqOf B S1 x with
      | none => rfl
      | some xs =>
        show ((denA C Φ (as ++ bs) B ρ S1).bind fun vs S => .ok (xs ++ vs) S) = ((denA C Φ as B ρ S1).bind fun vs S => .ok (xs ++ vs) S).bind _
        rw [denA_append as bs, bind_assoc, bind_assoc]
        congr 1
        funext vs S2
        rw [bind_assoc]
        show _ = (denA C Φ bs B ρ S2).bind _
        congr 1
        funext zs S3
        show Out.ok (xs ++ (vs ++ zs)) S3 = Out.ok (xs ++ vs ++ zs) S3
        rw [List.append_assoc]
    | false =>
      show ((denA C Φ (as ++ bs) B ρ S1).bind fun vs S => .ok (x :: vs) S) = ((denA C Φ as B ρ S1).bind fun vs S => .ok (x :: vs) S).bind _
      rw [denA_append as bs, bind_assoc, bind_assoc]
      congr 1
      funext vs S2
      rw [bind_assoc]
      rfl
def ckAh (Z : Zt) (C : Cfg) (i : IE) (e : Expr) (c : Cc) : Bool := match e with
  | .Starred a _ => ckR Z C i a c
  | _ => ckE Z C i false e c
theorem ckA_eq {C : Cfg} {c : Cc} {i : IE} {e : Expr} {r : List Expr} : ckA Z C (i :: is) (e :: r) c = (ckAh Z C i e c && ckA Z C is r c) := by
  cases e <;> rfl
theorem ckA_append {C : Cfg} {c : Cc} : ∀ {as bs : List Expr} {es : List IE}, ckA Z C es (as ++ bs) c = true → ckA Z C (es.take as.length) as c = true ∧ ckA Z C (es.drop as.length) bs c = true
  | [], bs, es, q => ⟨by simp [ckA], by simpa using q⟩
  | a :: as, bs, [], q => RV.no q
  | a :: as, bs, i :: es, q => by
    rw [List.cons_append, ckA_eq] at q
    obtain ⟨q1, q2⟩ := an q
    obtain ⟨h1, h2⟩ := ckA_append q2
    refine ⟨?_, h2⟩
    rw [List.length_cons, List.take_succ_cons, ckA_eq, q1, h1]
    rfl
theorem noStar_append : ∀ {as bs : List Expr}, noStar (as ++ bs) = true → noStar as = true ∧ noStar bs = true
  | [], bs, h => ⟨rfl, h⟩
  | a :: as, bs, h => by
    obtain ⟨h1, h2⟩ := noStar_tail (show noStar (a :: (as ++ bs)) = true from h)
    obtain ⟨h3, h4⟩ := noStar_append h2
    exact ⟨(by cases a <;> first | exact h3 | cases h1), h4⟩
theorem kwB_ok {ps : List Str} {n : Nat} {kws : List Keyword} {perm : List Nat} (h : kwB ps n kws perm = true) : ∃ ks, kwNames kws = some ks ∧ bindOk ps n ks perm = true := by
  unfold kwB at h
  cases q : kwNames kws with
  | none => rw [q] at h; exact RV.no h
  | some ks => rw [q] at h; exact ⟨ks, rfl, h⟩
/-- what the check of a call's arguments says -/
structure ArOk (Z : Zt) (D : En) (Φ : Nat → DefF) (E : XK) (X : Cx) (es : List IE) (args : List Expr) (kws : List Keyword) : Prop where
  st : noStar args = true
  ha : PA X args (tA D.L E (denA D.C Φ (es.take args.length)))
  hn : args = [] → ∀ B ρ S, denA D.C Φ (es.take args.length) B ρ S = .ok [] S
  m1 : Many (denA D.C Φ (es.take args.length)) args.length
  hk : PK X kws (tA D.L E (denA D.C Φ (es.drop args.length)))
  m2 : Many (denA D.C Φ (es.drop args.length)) kws.length
  eq : ∀ B ρ S, denA D.C Φ es B ρ S = (denA D.C Φ (es.take args.length) B ρ S).bind fun vs S => (denA D.C Φ (es.drop args.length) B ρ S).bind fun zs S => .ok (vs ++ zs) S
theorem ArOk.of {E : XK} {c : Cc} {X : Cx} (ct : Ct Z D Φ k E c X) (h : Goods Z D Φ k es) {args : List Expr} {kws : List Keyword} (q1 : noStar (args ++ kws.map (·.value)) = true) (q2 : ckA Z D.C es (args ++ kws.map (·.value)) c = true) : ArOk Z D Φ E X es args kws := by
  obtain ⟨n1, n2⟩ := noStar_append q1
  obtain ⟨c1, c2⟩ := ckA_append q2
  have g1 : GoodA Z D Φ k (es.take args.length) := goodA fun i m => h i (List.mem_of_mem_take m)
  have g2 : GoodA Z D Φ k (es.drop args.length) := goodA fun i m => h i (List.mem_of_mem_drop m)
  refine ⟨n1, g1.val E c X args ct c1, ?_, g1.many c args n1 c1, g2.kws E c X kws ct n2 c2, ?_, fun B ρ S => ?_⟩
  · rintro rfl B ρ S
    rfl
  · have := g2.many c _ n2 c2
    rw [List.length_map] at this
    exact this
  · rw [← denA_append, List.take_append_drop]
theorem den_call {C : Cfg} (f : Nat) (pu : Bool) (perm : List Nat) (es : List IE) : den C Φ (.call f pu perm es) = fun B ρ S => (denA C Φ es B ρ S).bind fun vs S => callO (Φ f) pu perm B S vs := rfl
theorem g_call (f : Nat) (pu : Bool) (perm : List Nat) (h : Goods Z D Φ k es) : Good Z D Φ k (.call f pu perm es) := good_of fun fl E c X e ct q => by
  cases e with
  | Call g args kws p =>
    cases g with
    | Name x p2 =>
      obtain ⟨q, q5⟩ := an (show (glB c x && ndb x && noStar (args ++ kws.map (·.value)) && ckA Z D.C es (args ++ kws.map (·.value)) c && (match Z.fns[f]? with
        | some (some y, ps) => sEq y x && kwB ps args.length kws perm
        | _ => false)) = true from q)
      obtain ⟨q, q4⟩ := an q
      obtain ⟨q, q3⟩ := an q
      obtain ⟨q1, q2⟩ := an q
      refine ⟨?_, rfl⟩
      have A := ArOk.of ct h q3 q4
      have ef : ∃ ps, Z.fns[f]? = some (some x, ps) ∧ kwB ps args.length kws perm = true := by
        revert q5
        cases Z.fns[f]? with
        | none => exact fun z => RV.no z
        | some z =>
          obtain ⟨z1, ps⟩ := z
          cases z1 with
          | none => exact fun z => RV.no z
          | some y =>
            intro q5
            obtain ⟨q5, q6⟩ := an (show (sEq y x && kwB ps args.length kws perm) = true from q5)
            cases sEq_ok q5
            exact ⟨ps, rfl, q6⟩
      obtain ⟨ps, e1, e2⟩ := ef
      obtain ⟨ks, e3, e4⟩ := kwB_ok e2
      obtain ⟨kp, km⟩ := ct.fx.kp f x ps e1
      have := e_call (pu := pu) (p := p2) (pos := p) (ct.fok e1) ct.r0 ct.ps (ct.fx.par f _ ps e1) (by rw [ct.K]; exact kp) (ct.gl q1) (by rw [ct.mg]; exact km) (ndb_1 q2) A.st e3 e4 A.ha A.hn A.m1 A.hk A.m2
      rw [den_call]
      refine PEw this fun σ H Q z => ?_
      obtain ⟨μ, B, ρ, S, z1, z2, z3⟩ := z
      refine ⟨μ, B, ρ, S, z1, z2, ?_⟩
      simp only [A.eq, bind_assoc] at z3
      exact z3
    | _ => exact RV.no q
  | _ => exact RV.no q
theorem kwIs_ok {kws : List Keyword} (h : kwIs kws = true) : kwNames kws = some [Str.ofString "default"] := by
  unfold kwIs at h
  split at h
  · rename_i k e
    rw [e, sEq_ok h]
  · cases h
theorem g_maxD (h : Goods Z D Φ k es) : Good Z D Φ k (.bi .maxD es) := good_of fun fl E c X e ct q => by
  cases e with
  | Call f args kws p =>
    cases f with
    | Name x p2 =>
      cases args with
      | nil => exact RV.no q
      | cons a' es' =>
        cases kws with
        | nil =>
          have q : (isBi .maxD x && glB c x && noStar (a' :: es') && ckA Z D.C es (a' :: es') c) = true := q
          exact RV.no (an (an (an q).1).1).1
        | cons kw kr =>
          cases es' with
          | cons _ _ => exact RV.no q
          | nil =>
            obtain ⟨q, q6⟩ := an (show (isMx .maxD && sEq x "max" && glB c x && noStar ([a'] ++ (kw :: kr).map (·.value)) && kwIs (kw :: kr) && ckA Z D.C es ([a'] ++ (kw :: kr).map (·.value)) c) = true from q)
            obtain ⟨q, q5⟩ := an q
            obtain ⟨q, q4⟩ := an q
            obtain ⟨q, q3⟩ := an q
            obtain ⟨_, q2⟩ := an q
            cases sEq_ok q2
            have A := ArOk.of ct h q4 q6
            have hkn := kwIs_ok q5
            have l2 : (kw :: kr).length = 1 := (kw_facts (pos := p) (env := X.env) hkn).2.2.2.symm
            have ed : den D.C Φ (.bi .maxD es) = fun B ρ S => (denA D.C Φ (es.take [a'].length) B ρ S).bind fun vs S => (denA D.C Φ (es.drop [a'].length) B ρ S).bind fun zs S => biF B S .maxD (vs ++ zs) := by
              funext B ρ S
              show (denA D.C Φ es B ρ S).bind (fun vs S => biF B S .maxD vs) = _
              rw [A.eq, bind_assoc]
              congr 1
              funext vs S1
              rw [bind_assoc]
              rfl
            refine ⟨?_, rfl⟩
            rw [ed]
            exact e_maxD ct.calm ct.K ct.un (ct.gl q3) (ct.no (by decide)) A.st hkn A.ha A.m1 A.hk (l2 ▸ A.m2)
    | _ => exact RV.no q
  | _ => exact RV.no q
theorem g_bi (bi : BI) (h : Goods Z D Φ k es) : Good Z D Φ k (.bi bi es) := by
  cases nz : isZs bi with
  | true =>
    cases bi with
    | zipStar => exact g_zip h
    | _ => cases nz
  | false =>
    cases nx : isMx bi with
    | true =>
      cases bi with
      | maxD => exact g_maxD h
      | _ => cases nx
    | false => exact g_biN bi nz nx h
theorem den_new {C : Cfg} (d : Nat) (perm : List Nat) (es : List IE) {f : Nat} (hf : C.ini d = some f) : den C Φ (.new d perm es) = fun B ρ S => (denA C Φ es B ρ S).bind fun vs S => makeO (Φ f) d perm B S vs := by
  funext B ρ S
  show ((denA C Φ es B ρ S).bind fun vs S => match permF perm vs with
    | some ws => match C.ini d with
      | some f => (Φ f B (.obj (B.length + S.length) :: ws) (S ++ [.ins d []])).bind fun v S' => match v with
        | .non => (Out.ok (PV.obj (B.length + S.length)) S' : Out PV)
        | _ => .fail
      | none => .fail
    | none => .fail) = _
  rw [hf]
  rfl
theorem g_new (j : Nat) (perm : List Nat) (h : Goods Z D Φ k es) : Good Z D Φ k (.new j perm es) := good_of fun fl E c X e ct q => by
  cases e with
  | Call g args kws p =>
    cases g with
    | Name x p2 =>
      obtain ⟨q, q6⟩ := an (show (glB c x && ndb x && noStar (args ++ kws.map (·.value)) && ckA Z D.C es (args ++ kws.map (·.value)) c && atS Z.cls j x && (match D.C.ini j with
        | some f => (match Z.fns[f]? with
          | some (_, ps) => kwB ps (args.length + 1) kws (selfP perm)
          | _ => false)
        | none => false)) = true from q)
      obtain ⟨q, q5⟩ := an q
      obtain ⟨q, q4⟩ := an q
      obtain ⟨q, q3⟩ := an q
      obtain ⟨q1, q2⟩ := an q
      refine ⟨?_, rfl⟩
      have A := ArOk.of ct h q3 q4
      have ef : ∃ f y ps, D.C.ini j = some f ∧ Z.fns[f]? = some (y, ps) ∧ kwB ps (args.length + 1) kws (selfP perm) = true := by
        revert q6
        cases D.C.ini j with
        | none => exact fun z => RV.no z
        | some f =>
          intro q6
          refine ⟨f, ?_⟩
          revert q6
          show (match Z.fns[f]? with
            | some (_, ps) => kwB ps (args.length + 1) kws (selfP perm)
            | _ => false) = true → _
          cases Z.fns[f]? with
          | none => exact fun z => RV.no z
          | some z => exact fun q6 => ⟨z.1, z.2, rfl, rfl, q6⟩
      obtain ⟨f, y, ps, e0, e1, e2⟩ := ef
      obtain ⟨ks, e3, e4⟩ := kwB_ok e2
      have mk := ct.fx.mkr j f e0
      have := e_new (c := j) (p := p2) (pos := p) rfl (by rw [ct.K]; exact mk) (ct.fok e1) ct.rm ct.ps (ct.fx.par f _ ps e1) (ct.gl q1) (by rw [ct.mg]; exact ct.fx.cls j x (atS_ok q5)) (ndb_1 q2) A.st e3 e4 A.ha A.hn A.m1 A.hk A.m2
      rw [den_new j perm es e0]
      refine PEw this fun σ H Q z => ?_
      obtain ⟨μ, B, ρ, S, z1, z2, z3⟩ := z
      refine ⟨μ, B, ρ, S, z1, z2, ?_⟩
      simp only [A.eq, bind_assoc] at z3
      exact z3
    | _ => exact RV.no q
  | _ => exact RV.no q
theorem den_callG {C : Cfg} (f : Nat) (perm : List Nat) (es : List IE) : den C Φ (.callG f perm es) = fun B ρ S => (denA C Φ es B ρ S).bind fun vs S => callO (gcD (Φ f)) false perm B S vs := rfl
theorem g_callG (f : Nat) (perm : List Nat) (h : Goods Z D Φ k es) : Good Z D Φ k (.callG f perm es) := good_of fun fl E c X e ct q => by
  cases e with
  | Call g args kws p =>
    cases g with
    | Name x p2 =>
      obtain ⟨q, q5⟩ := an (show (glB c x && ndb x && noStar (args ++ kws.map (·.value)) && ckA Z D.C es (args ++ kws.map (·.value)) c && (match Z.fns[f]? with
        | some (some y, ps) => sEq y x && kwB ps args.length kws perm
        | _ => false)) = true from q)
      obtain ⟨q, q4⟩ := an q
      obtain ⟨q, q3⟩ := an q
      obtain ⟨q1, q2⟩ := an q
      refine ⟨?_, rfl⟩
      have A := ArOk.of ct h q3 q4
      have ef : ∃ ps, Z.fns[f]? = some (some x, ps) ∧ kwB ps args.length kws perm = true := by
        revert q5
        cases Z.fns[f]? with
        | none => exact fun z => RV.no z
        | some z =>
          obtain ⟨z1, ps⟩ := z
          cases z1 with
          | none => exact fun z => RV.no z
          | some y =>
            intro q5
            obtain ⟨q5, q6⟩ := an (show (sEq y x && kwB ps args.length kws perm) = true from q5)
            cases sEq_ok q5
            exact ⟨ps, rfl, q6⟩
      obtain ⟨ps, e1, e2⟩ := ef
      obtain ⟨ks, e3, e4⟩ := kwB_ok e2
      obtain ⟨kp, km⟩ := ct.fx.kp f x ps e1
      have := e_call (pu := false) (p := p2) (pos := p) ((ct.fok e1).imp fun _ _ _ _ z => sp_gc z) ct.r0 ct.ps (ct.fx.par f _ ps e1) (by rw [ct.K]; exact kp) (ct.gl q1) (by rw [ct.mg]; exact km) (ndb_1 q2) A.st e3 e4 A.ha A.hn A.m1 A.hk A.m2
      rw [den_callG]
      refine PEw this fun σ H Q z => ?_
      obtain ⟨μ, B, ρ, S, z1, z2, z3⟩ := z
      refine ⟨μ, B, ρ, S, z1, z2, ?_⟩
      simp only [A.eq, bind_assoc] at z3
      exact z3
    | _ => exact RV.no q
  | _ => exact RV.no q
theorem den_newG {C : Cfg} (d : Nat) (perm : List Nat) (es : List IE) {f : Nat} (hf : C.ini d = some f) : den C Φ (.newG d perm es) = fun B ρ S => (denA C Φ es B ρ S).bind fun vs S => makeO (gcI (Φ f)) d perm B S vs := by
  funext B ρ S
  show ((denA C Φ es B ρ S).bind fun vs S => match permF perm vs with
    | some ws => match C.ini d with
      | some f => (gcI (Φ f) B (.obj (B.length + S.length) :: ws) (S ++ [.ins d []])).bind fun v S' => match v with
        | .non => (Out.ok (PV.obj (B.length + S.length)) S' : Out PV)
        | _ => .fail
      | none => .fail
    | none => .fail) = _
  rw [hf]
  rfl
theorem g_newG (j : Nat) (perm : List Nat) (h : Goods Z D Φ k es) : Good Z D Φ k (.newG j perm es) := good_of fun fl E c X e ct q => by
  cases e with
  | Call g args kws p =>
    cases g with
    | Name x p2 =>
      obtain ⟨q, q6⟩ := an (show (glB c x && ndb x && noStar (args ++ kws.map (·.value)) && ckA Z D.C es (args ++ kws.map (·.value)) c && atS Z.cls j x && (match D.C.ini j with
        | some f => (match Z.fns[f]? with
          | some (_, ps) => kwB ps (args.length + 1) kws (selfP perm)
          | _ => false)
        | none => false)) = true from q)
      obtain ⟨q, q5⟩ := an q
      obtain ⟨q, q4⟩ := an q
      obtain ⟨q, q3⟩ := an q
      obtain ⟨q1, q2⟩ := an q
      refine ⟨?_, rfl⟩
      have A := ArOk.of ct h q3 q4
      have ef : ∃ f y ps, D.C.ini j = some f ∧ Z.fns[f]? = some (y, ps) ∧ kwB ps (args.length + 1) kws (selfP perm) = true := by
        revert q6
        cases D.C.ini j with
        | none => exact fun z => RV.no z
        | some f =>
          intro q6
          refine ⟨f, ?_⟩
          revert q6
          show (match Z.fns[f]? with
            | some (_, ps) => kwB ps (args.length + 1) kws (selfP perm)
            | _ => false) = true → _
          cases Z.fns[f]? with
          | none => exact fun z => RV.no z
          | some z => exact fun q6 => ⟨z.1, z.2, rfl, rfl, q6⟩
      obtain ⟨f, y, ps, e0, e1, e2⟩ := ef
      obtain ⟨ks, e3, e4⟩ := kwB_ok e2
      have mk := ct.fx.mkr j f e0
      have := e_new (c := j) (p := p2) (pos := p) rfl (by rw [ct.K]; exact mk) ((ct.fok e1).imp fun _ _ _ _ z => sp_gcI z) ct.rm ct.ps (ct.fx.par f _ ps e1) (ct.gl q1) (by rw [ct.mg]; exact ct.fx.cls j x (atS_ok q5)) (ndb_1 q2) A.st e3 e4 A.ha A.hn A.m1 A.hk A.m2
      rw [den_newG j perm es e0]
      refine PEw this fun σ H Q z => ?_
      obtain ⟨μ, B, ρ, S, z1, z2, z3⟩ := z
      refine ⟨μ, B, ρ, S, z1, z2, ?_⟩
      simp only [A.eq, bind_assoc] at z3
      exact z3
    | _ => exact RV.no q
  | _ => exact RV.no q
theorem inM_ok {c : Nat} {m : Str} {f : Nat} : ∀ {l : List (Nat × Str × Nat)}, inM c m f l = true → (c, m, f) ∈ l
  | [], h => RV.no h
  | (c', m', f') :: r, h => by
    have h : ((Nat.beq c' c && sEq m' m && Nat.beq f' f) || inM c m f r) = true := h
    rw [Bool.or_eq_true] at h
    rcases h with h | h
    · obtain ⟨h, h3⟩ := an h
      obtain ⟨h1, h2⟩ := an h
      rw [Nat.eq_of_beq_eq_true h1, sEq_ok h2, Nat.eq_of_beq_eq_true h3]
      exact List.mem_cons_self ..
    · exact List.mem_cons_of_mem _ (inM_ok h)
theorem g_meth (j n f : Nat) (pu : Bool) (perm : List Nat) (ho : Good Z D Φ k o) (h : Goods Z D Φ k es) : Good Z D Φ k (.meth j n f pu perm o es) := good_of fun fl E c X e ct q => by
  cases e with
  | Call g args kws p =>
    cases g with
    | Attribute o' m ap =>
      obtain ⟨q, q8⟩ := an (show (absOk o' && (ap.endLine == p.line) && Nat.blt (args.length + kws.length + 1) 30 && noStar (args ++ kws.map (·.value)) && ckE Z D.C o false o' c && ckA Z D.C es (args ++ kws.map (·.value)) c && inM j m f Z.mts && (match Z.fns[f]? with
        | some (_, ps) => kwB ps (args.length + 1) kws (selfP perm)
        | _ => false)) = true from q)
      obtain ⟨q, q7⟩ := an q
      obtain ⟨q, q6⟩ := an q
      obtain ⟨q, q5⟩ := an q
      obtain ⟨q, q4⟩ := an q
      obtain ⟨q, q3⟩ := an q
      obtain ⟨q1, q2⟩ := an q
      refine ⟨?_, rfl⟩
      have A := ArOk.of ct h q4 q6
      have ef : ∃ y ps, Z.fns[f]? = some (y, ps) ∧ kwB ps (args.length + 1) kws (selfP perm) = true := by
        revert q8
        cases Z.fns[f]? with
        | none => exact fun z => RV.no z
        | some z => exact fun q6 => ⟨z.1, z.2, rfl, q6⟩
      obtain ⟨y, ps, e1, e2⟩ := ef
      obtain ⟨ks, e3, e4⟩ := kwB_ok e2
      obtain ⟨m1, m2, m3⟩ := ct.fx.mt j m f (inM_ok q7)
      have := e_meth (c := j) (pu := pu) (fld := D.C.fld) (pos := p) (apos := ap) (ho.val E c X o' ct q5) rfl (by rw [ct.K]; exact m1) (by rw [ct.K]; exact m2) m3 (ct.fok e1) ct.r0 ct.ps (ct.fx.par f _ ps e1) q1 q2 q3 A.st e3 e4 A.ha A.hn A.m1 A.hk A.m2
      refine PEw this fun σ H Q z => ?_
      obtain ⟨μ, B, ρ, S, z1, z2, z3⟩ := z
      refine ⟨μ, B, ρ, S, z1, z2, ?_⟩
      have z3 : OutOk D.L E μ H B ((den D.C Φ o B ρ S).bind fun x S => match x with
        | .obj n => match getS B S n with
          | some (.ins d _) => match Nat.beq j d with
            | true => (denA D.C Φ es B ρ S).bind fun vs S => match permF perm vs with
              | some ws => callF (Φ f) pu B S (.obj n :: ws)
              | none => .fail
            | false => .fail
          | _ => .fail
        | _ => .fail) (fun p _ μ' H' => ∀ v, RelP D.L μ' H' p v → Q v H') := z3
      simp only [A.eq, bind_assoc] at z3
      exact z3
    | _ => exact RV.no q
  | _ => exact RV.no q
/-! ### iterators -/
theorem g_rng1 (ha : Good Z D Φ k a) : Good Z D Φ k (.rng1 a) where
  val := fun E c X e ct q => RV.no q
  tst := fun E c X e ct q => RV.no q
  itr := fun E c X e tg ct q _ => by
    cases e with
    | Call f args kws p =>
      cases f with
      | Name x p2 =>
        rcases args with _ | ⟨a', _ | ⟨a2, ar⟩⟩
        · exact RV.no q
        · cases kws with
          | cons _ _ => exact RV.no q
          | nil =>
            obtain ⟨q, q4⟩ := an (show (sEq x "range" && glB c x && noStar [a'] && ckE Z D.C a false a' c) = true from q)
            obtain ⟨q, q3⟩ := an q
            obtain ⟨q1, q2⟩ := an q
            cases sEq_ok q1
            exact i_rng1 (ct.gl q2) (ct.no (by decide)) (ha.val E c X a' ct q4) (star_cons (env := X.env) q3).1
        · exact RV.no q
      | _ => exact RV.no q
    | _ => exact RV.no q
  inner := fun j z => nost (i := .rng1 a) rfl z
theorem g_rng2 (ha : Good Z D Φ k a) (hb : Good Z D Φ k b) : Good Z D Φ k (.rng2 a b) where
  val := fun E c X e ct q => RV.no q
  tst := fun E c X e ct q => RV.no q
  itr := fun E c X e tg ct q _ => by
    cases e with
    | Call f args kws p =>
      cases f with
      | Name x p2 =>
        rcases args with _ | ⟨a', _ | ⟨b', _ | ⟨a3, ar⟩⟩⟩
        · exact RV.no q
        · exact RV.no q
        · cases kws with
          | cons _ _ => exact RV.no q
          | nil =>
            obtain ⟨q, q5⟩ := an (show (sEq x "range" && glB c x && noStar [a', b'] && ckE Z D.C a false a' c && ckE Z D.C b false b' c) = true from q)
            obtain ⟨q, q4⟩ := an q
            obtain ⟨q, q3⟩ := an q
            obtain ⟨q1, q2⟩ := an q
            cases sEq_ok q1
            obtain ⟨s1, s2⟩ := star_cons (env := X.env) q3
            obtain ⟨s3, _⟩ := star_cons (env := X.env) s2
            exact i_rng2 (ct.gl q2) (ct.no (by decide)) (ha.val E c X a' ct q4) (hb.val E c X b' ct q5) (by rw [s1, s3]; rfl) s3
        · exact RV.no q
      | _ => exact RV.no q
    | _ => exact RV.no q
  inner := fun j z => nost (i := .rng2 a b) rfl z
theorem g_zip2 (ha : Good Z D Φ k a) (hb : Good Z D Φ k b) : Good Z D Φ k (.zip2 a b) where
  val := fun E c X e ct q => RV.no q
  tst := fun E c X e ct q => RV.no q
  itr := fun E c X e tg ct q qt => by
    cases e with
    | Call f args kws p =>
      cases f with
      | Name x p2 =>
        rcases args with _ | ⟨a', _ | ⟨b', _ | ⟨a3, ar⟩⟩⟩
        · exact RV.no q
        · exact RV.no q
        · cases kws with
          | cons _ _ => exact RV.no q
          | nil =>
            obtain ⟨q, q5⟩ := an (show (sEq x "zip" && glB c x && noStar [a', b'] && ckE Z D.C a false a' c && ckE Z D.C b false b' c) = true from q)
            obtain ⟨q, q4⟩ := an q
            obtain ⟨q, q3⟩ := an q
            obtain ⟨q1, q2⟩ := an q
            cases sEq_ok q1
            obtain ⟨s1, s2⟩ := star_cons (env := X.env) q3
            obtain ⟨s3, _⟩ := star_cons (env := X.env) s2
            cases tg with
            | Tuple ts j p3 => exact i_zip ct.K (ct.gl q2) (ct.no (by decide)) (ha.val E c X a' ct q4) (hb.val E c X b' ct q5) s1 s3
            | _ => exact RV.no qt
        · exact RV.no q
      | _ => exact RV.no q
    | _ => exact RV.no q
  inner := fun j z => nost (i := .zip2 a b) rfl z
theorem g_enum (n : Nat) (ha : Good Z D Φ k a) : Good Z D Φ k (.enum n a) where
  val := fun E c X e ct q => RV.no q
  tst := fun E c X e ct q => RV.no q
  itr := fun E c X e tg ct q qt => by
    cases e with
    | Call f args kws p =>
      cases f with
      | Name x p2 =>
        rcases args with _ | ⟨a', _ | ⟨a2, ar⟩⟩
        · exact RV.no (an (show (Nat.beq n 0 && false) = true from q)).2
        · cases kws with
          | cons _ _ => exact RV.no (an (show (Nat.beq n 0 && false) = true from q)).2
          | nil =>
            obtain ⟨q0, q⟩ := an (show (Nat.beq n 0 && (sEq x "enumerate" && glB c x && noStar [a'] && ckE Z D.C a false a' c)) = true from q)
            cases Nat.eq_of_beq_eq_true q0
            obtain ⟨q, q4⟩ := an (show (sEq x "enumerate" && glB c x && noStar [a'] && ckE Z D.C a false a' c) = true from q)
            obtain ⟨q, q3⟩ := an q
            obtain ⟨q1, q2⟩ := an q
            cases sEq_ok q1
            cases tg with
            | Tuple ts j p3 => exact i_enum ct.K (ct.gl q2) (ct.no (by decide)) (ha.val E c X a' ct q4) (star_cons (env := X.env) q3).1
            | _ => exact RV.no qt
        · exact RV.no (an (show (Nat.beq n 0 && false) = true from q)).2
      | _ => exact RV.no (an (show (Nat.beq n 0 && false) = true from q)).2
    | _ => exact RV.no (an (show (Nat.beq n 0 && false) = true from q)).2
  inner := fun j z => nost (i := .enum n a) rfl z
theorem den_trng {C : Cfg} (a : IE) : den C Φ (.trng a) = fun B ρ S => (den C Φ a B ρ S).bind fun x S => trngF x S := rfl
theorem g_trng {a : IE} (ha : Good Z D Φ k a) : Good Z D Φ k (.trng a) := good_of fun fl E c X e ct q => by
  have sh : ∃ x p1 y p2 a' p3 p4, e = .Call (.Name x p1) [.Call (.Name y p2) [a'] [] p3] [] p4 ∧ (sEq x "tuple" && sEq y "range" && glB c x && glB c y && noStar [a'] && ckE Z D.C a false a' c) = true := by
    unfold ckE at q
    split at q
    · exact ⟨_, _, _, _, _, _, _, rfl, q⟩
    · cases q
  obtain ⟨x, p1, y, p2, a', p3, p4, rfl, q⟩ := sh
  obtain ⟨q, q6⟩ := an q
  obtain ⟨q, q5⟩ := an q
  obtain ⟨q, q4⟩ := an q
  obtain ⟨q, q3⟩ := an q
  obtain ⟨q1, q2⟩ := an q
  cases sEq_ok q1
  cases sEq_ok q2
  have s1 : starEach [a'] X.env = [(false, eval a' X.env)] := by rw [(star_cons (env := X.env) q5).1]; rfl
  rw [den_trng]
  exact ⟨e_trng ct.calm (ct.gl q3) (ct.no (by decide)) (ct.gl q4) (ct.no (by decide)) (ha.val E c X a' ct q6) s1, rfl⟩
theorem den_dget {C : Cfg} (o i : IE) : den C Φ (.dget o i) = dgF (den C Φ o) (den C Φ i) := rfl
theorem g_dget {o i : IE} (ho : Good Z D Φ k o) (hi : Good Z D Φ k i) : Good Z D Φ k (.dget o i) := good_of fun fl E c X e ct q => by
  have sh : ∃ o' m ap k' pos, e = .Call (.Attribute o' m ap) [k'] [] pos ∧ (sEq m "get" && absOk o' && (ap.endLine == pos.line) && noStar [k'] && ckE Z D.C o false o' c && ckE Z D.C i false k' c) = true := by
    unfold ckE at q
    split at q
    · exact ⟨_, _, _, _, _, rfl, q⟩
    · cases q
  obtain ⟨o', m, ap, k', pos, rfl, q⟩ := sh
  obtain ⟨q, q6⟩ := an q
  obtain ⟨q, q5⟩ := an q
  obtain ⟨q, q4⟩ := an q
  obtain ⟨q, q3⟩ := an q
  obtain ⟨q1, q2⟩ := an q
  cases sEq_ok q1
  rw [den_dget]
  exact ⟨e_dget ct.K ct.P ct.w ct.un (ho.val E c X o' ct q5) (hi.val E c X k' ct q6) q2 q4 q3, rfl⟩
theorem eqHs_ok : ∀ {a b : List (Nat × Str)}, eqHs a b = true → a = b
  | [], [], _ => rfl
  | [], _ :: _, h => RV.no h
  | _ :: _, [], h => RV.no h
  | (a, x) :: r, (b, y) :: s, h => by
    obtain ⟨h, h3⟩ := an (show (Nat.beq a b && sEq x y && eqHs r s) = true from h)
    obtain ⟨h1, h2⟩ := an h
    rw [Nat.eq_of_beq_eq_true h1, sEq_ok h2, eqHs_ok h3]
theorem inH_ok {f : Nat} {hs : List (Nat × Str)} : ∀ {l : List (Nat × List (Nat × Str))}, inH f hs l = true → (f, hs) ∈ l
  | [], h => RV.no h
  | (g, ks) :: r, h => by
    have h : ((Nat.beq g f && eqHs ks hs) || inH f hs r) = true := h
    rw [Bool.or_eq_true] at h
    rcases h with h | h
    · obtain ⟨h1, h2⟩ := an h
      rw [← Nat.eq_of_beq_eq_true h1, ← eqHs_ok h2]
      exact List.mem_cons_self ..
    · exact List.mem_cons_of_mem _ (inH_ok h)
theorem noArg_ok {a : Arguments} (h : noArg a = true) : a = ⟨[], [], none, [], [], none, []⟩ := by
  obtain ⟨a1, a2, a3, a4, a5, a6, a7⟩ := a
  obtain ⟨h, h7⟩ := an h
  obtain ⟨h, h6⟩ := an h
  obtain ⟨h, h5⟩ := an h
  obtain ⟨h, h4⟩ := an h
  obtain ⟨h, h3⟩ := an h
  obtain ⟨h1, h2⟩ := an h
  have e1 : a1 = [] := List.isEmpty_iff.mp h1
  have e2 : a2 = [] := List.isEmpty_iff.mp h2
  have e3 : a3 = none := Option.isNone_iff_eq_none.mp h3
  have e4 : a4 = [] := List.isEmpty_iff.mp h4
  have e5 : a5 = [] := List.isEmpty_iff.mp h5
  have e6 : a6 = none := Option.isNone_iff_eq_none.mp h6
  have e7 : a7 = [] := List.isEmpty_iff.mp h7
  rw [e1, e2, e3, e4, e5, e6, e7]
theorem lamNB_ok {c : Cc} {scope : Scope} (h : lamNB c scope = true) : LamX.LamS c.sc scope := by
  obtain ⟨h, h4⟩ := an h
  obtain ⟨h, h3⟩ := an h
  obtain ⟨h1, h2⟩ := an h
  refine ⟨of_decide_eq_true h1, (by cases z : scope.isCoroutine with | false => rfl | true => rw [z] at h2; exact RV.no h2), (by cases z : scope.isGenerator with | false => rfl | true => rw [z] at h3; exact RV.no h3), fun y hy => ?_, fun y hy e => ?_⟩
  · obtain ⟨q1, _⟩ := an (List.all_eq_true.mp h4 y hy)
    refine ⟨fun z => ?_, fun z => ?_⟩ <;> rw [z] at q1 <;> exact RV.no q1
  · obtain ⟨_, q2⟩ := an (List.all_eq_true.mp h4 y hy)
    rw [e] at q2
    have q2 : (kB (lkp y.1 c.sc.names) .cell || kB (lkp y.1 c.sc.names) .free) = true := q2
    rw [Bool.or_eq_true] at q2
    rw [← lkp_eq]
    exact q2.imp kB_ok kB_ok
theorem den_hrd {C : Cfg} (f : Nat) (hs : List (Nat × Str)) (i : IE) : den C Φ (.hrd f hs i) = hrdF hs (den C Φ i) := rfl
theorem g_hrd {i : IE} (f : Nat) (hs : List (Nat × Str)) (hi : Good Z D Φ k i) : Good Z D Φ k (.hrd f hs i) := good_of fun fl E c X e ct q => by
  cases e with
  | Call fn args kws p =>
    cases fn with
    | Name x p2 =>
      rcases args with _ | ⟨a', _ | ⟨a2, ar⟩⟩
      · exact RV.no q
      · cases kws with
        | cons _ _ => cases a' <;> exact RV.no q
        | nil =>
          cases a' with
          | Lambda params body scope lp =>
            obtain ⟨q, q8⟩ := an (show (c.lam && glB c x && ndb x && noArg params && lamNB c scope && fnN Z.fns[f]? x && inH f hs Z.hrd && ckE Z D.C i false body (c.lamb scope)) = true from q)
            obtain ⟨q, q7⟩ := an q
            obtain ⟨q, q6⟩ := an q
            obtain ⟨q, q5⟩ := an q
            obtain ⟨q, q4⟩ := an q
            obtain ⟨q, q3⟩ := an q
            obtain ⟨q1, q2⟩ := an q
            refine ⟨?_, rfl⟩
            have en : ∃ ps, Z.fns[f]? = some (some x, ps) := by
              unfold fnN at q6
              cases z : Z.fns[f]? with
              | none => rw [z] at q6; exact RV.no q6
              | some o =>
                rw [z] at q6
                obtain ⟨o1, ps⟩ := o
                cases o1 with
                | none => exact RV.no q6
                | some y =>
                  rw [sEq_ok q6]
                  exact ⟨ps, rfl⟩
            obtain ⟨ps, en⟩ := en
            obtain ⟨a, Ng, sg, pg, bg, dV, kV, doc, pm, an, cdv, cot, oc, od, osl, m1, m2, m3, m4, m5, m6, m7, m8, m9, m10, m11⟩ := ct.fx.hrd f hs x ps (inH_ok q7) en
            obtain ⟨cc, Pt, l1, l2, l3, l4, l5⟩ := ct.lam q1
            have LS : LamX.LamS X.env.scope scope := by rw [ct.sc]; exact lamNB_ok q5
            have eA := noArg_ok q4
            subst eA
            rw [den_hrd]
            exact e_hrd (L := D.L) (k := k + 1) (Pt := Pt) (ct.gl q2) (by rw [ct.mg]; exact m1) (by rw [ct.K]; exact m2) (by rw [ct.K]; exact m3) (by rw [ct.K]; exact m4) m5 m6 m7 m8 (m11 X ct.P ct.K ct.mg) l2 l1 l3 l4 l5 LS rfl (fun _ _ _ _ _ => rfl)
              (fun A outer s H E' f c' hr => hi.val E' (c.lamb scope) _ body (ct.lamC LS.kind A outer s H E' f c' hr) q8) (ndb_1 q3) m9 m10
          | _ => exact RV.no q
      · cases a' <;> exact RV.no q
    | _ => exact RV.no q
  | _ => exact RV.no q
theorem den_rne {C : Cfg} (a b : IE) : den C Φ (.rne a b) = rneF (den C Φ a) (den C Φ b) := rfl
theorem g_rne {a b : IE} (ha : Good Z D Φ k a) (hb : Good Z D Φ k b) : Good Z D Φ k (.rne a b) := good_ofT fun fl E c X e ct q => by
  have sh : ∃ x p1 a' p2 y p3 b' p4 p5, e = .Compare (.Call (.Name x p1) [a'] [] p2) [.NotEq] [.Call (.Name y p3) [b'] [] p4] p5 ∧ (sEq x "repr" && sEq y "repr" && glB c x && noStar [a'] && noStar [b'] && ckE Z D.C a false a' c && ckE Z D.C b false b' c) = true := by
    unfold ckE at q
    split at q
    · exact ⟨_, _, _, _, _, _, _, _, _, rfl, q⟩
    · cases q
  obtain ⟨x, p1, a', p2, y, p3, b', p4, p5, rfl, q⟩ := sh
  obtain ⟨q, q7⟩ := an q
  obtain ⟨q, q6⟩ := an q
  obtain ⟨q, q5⟩ := an q
  obtain ⟨q, q4⟩ := an q
  obtain ⟨q, q3⟩ := an q
  obtain ⟨q1, q2⟩ := an q
  cases sEq_ok q1
  cases sEq_ok q2
  have s1 : starEach [a'] X.env = [(false, eval a' X.env)] := by rw [(star_cons (env := X.env) q4).1]; rfl
  have s2 : starEach [b'] X.env = [(false, eval b' X.env)] := by rw [(star_cons (env := X.env) q5).1]; rfl
  rw [den_rne]
  exact ⟨e_rne ct.K ct.un ct.rm.gd (ct.gl q3) (ct.no (by decide)) (ha.val E c X a' ct q6) (hb.val E c X b' ct q7) s1 s2, t_rne ct.K ct.un ct.rm.gd (ct.gl q3) (ct.no (by decide)) (ha.val E c X a' ct q6) (hb.val E c X b' ct q7) s1 s2⟩
end
end RV
end
section
/-! RVSn6: every IR that fits; statements: the check. -/
namespace RV
open PySem PySem.Spec PyProof.Rows L2
section
variable {Z : Zt} {D : En} {Φ : Nat → DefF} {k : Nat}
theorem den_srt2 {C : Cfg} (own own1 : List Nat) (t it t1 it1 elt : IE) : den C Φ (.srt2 own own1 t it t1 it1 elt) = srtF t t1 own own1 (den C Φ it) (den C Φ it1) (den C Φ elt) := rfl
theorem g_srt2 {own own1 : List Nat} {t it t1 it1 elt : IE} (hi : Good Z D Φ k it) (hi1 : Good Z D Φ k it1) (he : Good Z D Φ k elt) : Good Z D Φ k (.srt2 own own1 t it t1 it1 elt) := good_of fun fl E c X e ct q => by
  cases e with
  | Call f args kws p =>
    cases f with
    | Name x p2 =>
      rcases args with _ | ⟨a1, _ | ⟨a2, ar⟩⟩
      · exact RV.no q
      · cases a1 with
        | SetComp elt' gs scope p3 =>
          cases kws with
          | cons _ _ =>
            rcases gs with _ | ⟨⟨tg, it', ifs0, as⟩, _ | ⟨⟨tg1, it1', ifs1, as1⟩, _ | ⟨g3, gs⟩⟩⟩
            · exact RV.no q
            · cases ifs0 <;> exact RV.no q
            · cases ifs0 <;> cases ifs1 <;> exact RV.no q
            · cases ifs0 <;> cases ifs1 <;> exact RV.no q
          | nil =>
            rcases gs with _ | ⟨⟨tg, it', ifs0, as⟩, _ | ⟨⟨tg1, it1', ifs1, as1⟩, _ | ⟨g3, gs⟩⟩⟩
            · exact RV.no q
            · cases ifs0 <;> exact RV.no q
            · cases ifs0 with
              | cons _ _ => cases ifs1 <;> exact RV.no q
              | nil =>
                cases ifs1 with
                | cons _ _ => exact RV.no q
                | nil =>
                  refine ⟨?_, rfl⟩
                  obtain ⟨q, q17⟩ := an (show (sEq x "sorted" && glB c x && decide (as = 0) && decide (as1 = 0) && blkB c scope own && tvB t own && tvB t1 own1 && subB own1 own && notSet it' && notSet it1' && tgI it tg && tgI it1 tg1 && ckE Z D.C it true it' c
                    && ckT c.N (locB (c.blk scope)) tg t && ckE Z D.C it1 true it1' (c.blk scope) && ckT c.N (locB (c.blk scope)) tg1 t1 && ckE Z D.C elt false elt' (c.blk scope)) = true from q)
                  obtain ⟨q, q16⟩ := an q
                  obtain ⟨q, q15⟩ := an q
                  obtain ⟨q, q14⟩ := an q
                  obtain ⟨q, q13⟩ := an q
                  obtain ⟨q, q12⟩ := an q
                  obtain ⟨q, q11⟩ := an q
                  obtain ⟨q, q10⟩ := an q
                  obtain ⟨q, q9⟩ := an q
                  obtain ⟨q, q8⟩ := an q
                  obtain ⟨q, q7⟩ := an q
                  obtain ⟨q, q6⟩ := an q
                  obtain ⟨q, q5⟩ := an q
                  obtain ⟨q, q4⟩ := an q
                  obtain ⟨q, q3⟩ := an q
                  obtain ⟨q1, q2⟩ := an q
                  cases sEq_ok q1
                  cases of_decide_eq_true q3
                  cases of_decide_eq_true q4
                  have lo := LcOk.of ct hi q5 q6 q11 q13 q14
                  rw [den_srt2, ← lo.on]
                  exact e_srt2 ct.calm ct.ndN (ct.gl q2) (ct.no (by decide)) lo.hi lo.ok (by rw [lo.on]; exact lo.tv) (tvB_ok q7) (by rw [lo.on]; exact subB_ok q8) lo.hg (fun s H C cl fp => hi1.itr E0 _ _ it1' tg1 (ct.blk lo.hk s H C cl fp) q15 q12) (fun s H C cl fp => (ct.blk lo.hk s H C cl fp).tgt q16)
                    (fun s H C cl fp => he.val E0 _ _ elt' (ct.blk lo.hk s H C cl fp) q17) (notSet_ok q9 _) (notSet_ok q10)
            · cases ifs0 <;> cases ifs1 <;> exact RV.no q
        | _ => exact RV.no q
      · cases a1 with
        | SetComp e1 gs sc p1 =>
          rcases gs with _ | ⟨⟨g1, g2, ifs0, g4⟩, _ | ⟨⟨h1, h2, ifs1, h4⟩, _ | ⟨g3, gs⟩⟩⟩
          · exact RV.no q
          · cases ifs0 <;> exact RV.no q
          · cases ifs0 <;> cases ifs1 <;> exact RV.no q
          · cases ifs0 <;> cases ifs1 <;> exact RV.no q
        | _ => exact RV.no q
    | _ => exact RV.no q
  | _ => exact RV.no q
mutual
theorem good : ∀ i : IE, Good Z D Φ k i
  | .var i => g_var i
  | .cst v => g_cst v
  | .glob x v => g_glob x v
  | .star e => g_star (good e)
  | .tup es => g_tup (goods es)
  | .lst m es => g_lst m (goods es)
  | .dct t kvs => g_dct t (goods kvs)
  | .bin op a b => g_bin op (good a) (good b)
  | .neg a => g_neg (good a)
  | .not a => g_not (good a)
  | .cmp op a b => g_cmp op (good a) (good b)
  | .chain op op' a b c => g_chain op op' (good a) (good b) (good c)
  | .and es => g_and (goods es)
  | .or es => g_or (goods es)
  | .ite c a b => g_ite (good c) (good a) (good b)
  | .sub a b => g_sub (good a) (good b)
  | .slc m a lo hi => g_slc m (good a) (goodO lo) (goodO hi)
  | .rev a => g_rev (good a)
  | .attr a f => g_attr f (good a)
  | .lc m own t it ifs elt => g_lc m (good it) (goodF ifs) (good elt)
  | .lc2 m own own1 t it t1 it1 ifs elt => g_lc2 m (good it) (good it1) (goodF ifs) (good elt)
  | .srt2 own own1 t it t1 it1 elt => g_srt2 (good it) (good it1) (good elt)
  | .dc tk own t it k v => g_dc tk (good it) (good k) (good v)
  | .bi b es => g_bi b (goods es)
  | .mth b o es => g_mth b (good o) (goods es)
  | .bad => g_bad
  | .isi a cs => g_isi cs (good a)
  | .call f pu perm es => g_call f pu perm (goods es)
  | .new c perm es => g_new c perm (goods es)
  | .callG f perm es => g_callG f perm (goods es)
  | .newG c perm es => g_newG c perm (goods es)
  | .meth c m f pu perm o es => g_meth c m f pu perm (good o) (goods es)
  | .rng1 a => g_rng1 (good a)
  | .rng2 a b => g_rng2 (good a) (good b)
  | .zip2 a b => g_zip2 (good a) (good b)
  | .enum k a => g_enum k (good a)
  | .trng a => g_trng (good a)
  | .dget o i => g_dget (good o) (good i)
  | .hrd f hs i => g_hrd f hs (good i)
  | .rne a b => g_rne (good a) (good b)
theorem goods : ∀ is : List IE, Goods Z D Φ k is
  | [] => fun i m => by cases m
  | i :: is => fun j m => by
    rcases List.mem_cons.mp m with e | m
    · rw [e]; exact good i
    · exact goods is j m
theorem goodO : ∀ o : Option IE, GoodO Z D Φ k o
  | none => go_none
  | some i => go_some (good i)
theorem goodF : ∀ o : Option IE, GoodF Z D Φ k o
  | none => gf_none
  | some i => gf_some (good i)
end
end
/-! ### statements -/
def swB (scope : Scope) (x : Str) (py pos : Pos) : Bool := (py.line == pos.line) && scope.names.all fun y => !(sEq y.1 x && isL y.2)
theorem swB_ok {scope : Scope} {x : Str} {py pos : Pos} (h : swB scope x py pos = true) : (py.line == pos.line) = true ∧ (scope.names.any fun (n, k) => n == x && (k == .local || k == .cell)) = false := by
  obtain ⟨h1, h2⟩ := an h
  refine ⟨h1, ?_⟩
  rw [List.any_eq_false]
  intro y hy
  have := List.all_eq_true.mp h2 y hy
  obtain ⟨n, kd⟩ := y
  rw [sEq_eq] at this
  intro z
  have z : (n == x && (kd == .local || kd == .cell)) = true := z
  obtain ⟨z1, z2⟩ := an z
  rw [z1] at this
  cases kd <;> first | exact RV.no this | exact RV.no z2
/-- a value: no comprehension, or one that is stored at once -/
def ckV (e : IE) (v : Expr) (x : Str) (py : Pos) : Bool := match v with
  | .ListComp _ _ scope p => swB scope x py p && (match e with
    | .lc .. => true
    | .lc2 .. => true
    | _ => false)
  | .DictComp _ _ _ scope p => swB scope x py p && (match e with
    | .dc .. => true
    | _ => false)
  | .SetComp .. => false
  | _ => true
def noSw (c : Cc) (v : Expr) (x : Str) : Bool := noComp v || kB (lkp x c.sc.names) .cell
section
variable (Z : Zt) (C : Cfg)
def ckG (t e : IE) (tg v : Expr) (c : Cc) : Bool := match t with
  | .var i => (match tg with
    | .Name x py => nmB c i x && (match noSw c v x with
      | true => locB c x
      | false => loB c x && ckV e v x py) && ckE Z C e false v c
    | _ => false)
  | .tup ts => ckT c.N (locB c) tg (.tup ts) && noComp v && !isTupV v && ckE Z C e false v c
  | .sub o i => (match tg with
    | .Subscript o' i' _ => plainIx i' && noComp v && ckE Z C o false o' c && ckE Z C i false i' c && ckE Z C e false v c
    | _ => false)
  | .attr o f => (match tg with
    | .Attribute o' x _ => atS Z.fld f x && noComp v && ckE Z C o false o' c && ckE Z C e false v c
    | _ => false)
  | _ => false
def ckP (ts es : List IE) (tgs vs : List Expr) (c : Cc) : Bool := match ts with
  | [.var i, .var j] => (match tgs with
    | [.Name x px, .Name y py] => nmB c i x && nmB c j y && !Nat.beq i j && loB c x && loB c y && (py.line == px.line) && (match vs with
      | [a, b] => parOk [a, b] && ckA Z C es [a, b] c
      | _ => false)
    | _ => false)
  | [.var i, .var j, .var l] => (match tgs with
    | [.Name x px, .Name y py, .Name z pz] => nmB c i x && nmB c j y && nmB c l z && !Nat.beq i j && !Nat.beq i l && !Nat.beq j l && loB c x && loB c y && loB c z && (py.line == px.line) && (pz.line == px.line) && (match vs with
      | [a, b, d] => parOk [a, b, d] && ckA Z C es [a, b, d] c
      | _ => false)
    | _ => false)
  | _ => false
def inX (c : Nat) : List (Nat × Str) → Bool
  | [] => false
  | (d, _) :: r => Nat.beq d c || inX c r
theorem inX_ok {c : Nat} : ∀ {l : List (Nat × Str)}, inX c l = true → ∃ f, (c, f) ∈ l
  | [], h => RV.no h
  | (d, f) :: r, h => by
    have h : (Nat.beq d c || inX c r) = true := h
    rw [Bool.or_eq_true] at h
    rcases h with h | h
    · exact ⟨f, by rw [Nat.eq_of_beq_eq_true h]; exact List.mem_cons_self ..⟩
    · obtain ⟨g, m⟩ := inX_ok h
      exact ⟨g, List.mem_cons_of_mem _ m⟩
def atX (c : Nat) (f : Str) : List (Nat × Str) → Bool
  | [] => false
  | (d, g) :: r => (Nat.beq d c && sEq g f) || atX c f r
theorem atX_ok {c : Nat} {f : Str} : ∀ {l : List (Nat × Str)}, atX c f l = true → (c, f) ∈ l
  | [], h => RV.no h
  | (d, g) :: r, h => by
    have h : ((Nat.beq d c && sEq g f) || atX c f r) = true := h
    rw [Bool.or_eq_true, Bool.and_eq_true] at h
    rcases h with ⟨h1, h2⟩ | h
    · rw [← Nat.eq_of_beq_eq_true h1, ← sEq_ok h2]; exact List.mem_cons_self ..
    · exact List.mem_cons_of_mem _ (atX_ok h)
mutual
def ckS : IS → Stmt → Cc → Bool
  | .asg t e, st, c => (match st with
    | .Assign [tg] v _ => ckG Z C t e tg v c
    | _ => false)
  | .par ts es, st, c => (match st with
    | .Assign [.Tuple tgs _ _] (.Tuple vs _ _) _ => ckP Z C ts es tgs vs c
    | _ => false)
  | .expr e, st, c => (match st with
    | .Expr v _ => noComp v && ckE Z C e false v c
    | _ => false)
  | .ret e, st, c => (match st with
    | .Return (some v) _ => ckE Z C e false v c
    | _ => false)
  | .retN, st, _ => (match st with
    | .Return none _ => true
    | _ => false)
  | .ite t a b, st, c => (match st with
    | .If t' a' b' _ => ckE Z C t false t' c && ckB a a' c && ckB b b' c
    | _ => false)
  | .for_ t it b, st, c => (match st with
    | .For tg it' b' [] _ => tgI it tg && notSet it' && ckE Z C it true it' c && ckT c.N (locB c) tg t && ckB b b' c
    | _ => false)
  | .whl t b, st, c => (match st with
    | .While t' b' [] _ => ckE Z C t false t' c && ckB b b' c
    | _ => false)
  | .raise d e, st, c => (match st with
    | .Raise (some (.Call (.Name x _) [a] [] _)) none _ => glB c x && ndb x && noStar [a] && atS Z.cls d x && inX d Z.exs && ckE Z C e false a c
    | _ => false)
  | .tryR b d i, st, c => (match st with
    | .Try b' [.ExceptHandler (some (.Name x _)) (some n) [.Return (some (.Attribute (.Name m _) f _)) _] _] [] [] _ => sEq m n && nmB c i n && loB c n && ndb n && glB c x && ndb x && atS Z.cls d x && atX d f Z.exs && ckB b b' c
    | _ => false)
  | .pass, st, _ => (match st with
    | .Pass _ => true
    | _ => false)
  | .bad, _, _ => true
def ckB : List IS → List Stmt → Cc → Bool
  | [], st, _ => st.isEmpty
  | s :: r, st, c => (match st with
    | [] => false
    | s' :: r' => ckS s s' c && ckB r r' c)
end
end
end RV
end
section
/-! RVSn7: statements that fit. -/
namespace RV
open PySem PySem.Spec PyProof.Rows L2
/-- the context of a body -/
structure Cs (Z : Zt) (D : En) (Φ : Nat → DefF) (k : Nat) (E : XK) (c : Cc) (X : Cx) : Prop where
  ct : Ct Z D Φ k E c X
  ow : PassesOwn (model X.prog X.w) X.A X.env X.xe
  tk : Takes X fun cls d _ H => E cls d H
  stk : X.stack = X.env :: X.outer
  frm : X.env.frame = some X.env.locals
section
variable {X : Cx} {L : Pl} {E : XK} {pos : Pos}
theorem tgt_some {i : Nat} {p : PV} {ρ ρ' : Loc} (h : tgt (.var i) p ρ = some ρ') : ρ' = ρ.set i (some p) := tgt_var h
theorem tgts_cons {t : IE} {ts : List IE} {x : PV} {xs : List PV} {ρ ρ' : Loc} (h : tgts (t :: ts) (x :: xs) ρ = some ρ') : ∃ ρ1, tgt t x ρ = some ρ1 ∧ tgts ts xs ρ1 = some ρ' := by
  have h : (match tgt t x ρ with
    | some ρ' => tgts ts xs ρ'
    | none => none) = some ρ' := h
  cases q : tgt t x ρ with
  | none => rw [q] at h; cases h
  | some ρ1 => rw [q] at h; exact ⟨ρ1, rfl, h⟩
theorem s_par3 {i j l : Nat} {x y z : Str} {px py pz pt pt2 : Pos} {kt k2 : Nat} {a b d : Expr} {fs : Sto → Loc → Sto → Out (List PV)} (hc : X.calm = true) (hN : X.N.Nodup) (hk : X.env.scope.kind = .function) (hi : X.N[i]? = some x) (hj : X.N[j]? = some y) (hl : X.N[l]? = some z) (hij : i ≠ j) (hil : i ≠ l) (hjl : j ≠ l)
    (hx : X.env.scope.names.lookup x = some .local) (hy : X.env.scope.names.lookup y = some .local) (hz : X.env.scope.names.lookup z = some .local) (hl1 : (py.line == px.line) = true) (hl2 : (pz.line == px.line) = true) (ho : parOk [a, b, d] = true) (ha : PA X [a, b, d] (tA L E fs)) :
    PS X (.Assign [.Tuple [.Name x px, .Name y py, .Name z pz] kt pt] (.Tuple [a, b, d] k2 pt2) pos) (tS L E fun B ρ S => (fs B ρ S).bind fun vs S => (Out.of (tgts [.var i, .var j, .var l] vs ρ) S).bind fun ρ' S => .ok (ρ', .nx) S) := by
  have ne : ∀ {i j : Nat} {x y : Str}, X.N[i]? = some x → X.N[j]? = some y → i ≠ j → x ≠ y := fun hi hj hij z => hij ((List.getElem?_inj (by exact (List.getElem?_eq_some_iff.mp hi).1) hN).mp (by rw [hi, hj, z]))
  refine PSw (ps_par3 hc hN hi hj hl hij hil hjl hx hy hz ha (swapped3 hk hx hy hz hl1 hl2 (ne hi hj hij) (ne hi hl hil) (ne hj hl hjl) ho) rfl) fun D σ H h => ?_
  obtain ⟨μ, B, ρ, S, rs, rl, ou⟩ := h
  refine ⟨μ, B, ρ, S, rs, rl, ou.bind.imp fun ps S1 μ1 H1 e1 rs1 o1 vs hv => ?_⟩
  obtain ⟨ρ', et, o2⟩ := (OutOk.bind o1).of rs1
  have hlen := tgts_len et
  match ps, hlen, hv, et with
  | [p, q, r], _, hv, et =>
    obtain ⟨v, vr, rfl, h1, hv⟩ := hv
    obtain ⟨w, u, e2, h2, h3⟩ := (show RelL L μ1 H1 [q, r] vr from hv).two_inv
    subst e2
    obtain ⟨ρ1, t1, et⟩ := tgts_cons et
    obtain ⟨ρ2, t2, et⟩ := tgts_cons et
    obtain ⟨ρ3, t3, et⟩ := tgts_cons et
    cases tgt_some t1
    cases tgt_some t2
    cases tgt_some t3
    have et : some (((ρ.set i (some p)).set j (some q)).set l (some r)) = some ρ' := et
    cases et
    exact ⟨v, w, u, rfl, OutOk.now o2 rs1 _ ((((rl.mono e1).set h1).set h2).set h3)⟩
end
section
variable {Z : Zt} {D : En} {Φ : Nat → DefF} {k : Nat}
def GoodS (Z : Zt) (D : En) (Φ : Nat → DefF) (k : Nat) (s : IS) : Prop := ∀ (E : XK) (c : Cc) (X : Cx) (st : Stmt), Cs Z D Φ k E c X → ckS Z D.C s st c = true → PS X st (tS D.L E (denS D.C Φ s))
def GoodB (Z : Zt) (D : En) (Φ : Nat → DefF) (k : Nat) (b : List IS) : Prop := ∀ (E : XK) (c : Cc) (X : Cx) (st : List Stmt), Cs Z D Φ k E c X → ckB Z D.C b st c = true → PSs X st (tS D.L E (denB D.C Φ b))
theorem ckRaise {Z : Zt} {C : Cfg} {d : Nat} {e : IE} {st : Stmt} {c : Cc} (q : ckS Z C (.raise d e) st c = true) : ∃ x a p1 p2 p3, st = .Raise (some (.Call (.Name x p1) [a] [] p2)) none p3 ∧ (glB c x && ndb x && noStar [a] && atS Z.cls d x && inX d Z.exs && ckE Z C e false a c) = true := by
  unfold ckS at q
  split at q
  · exact ⟨_, _, _, _, _, rfl, q⟩
  · cases q
theorem ckTry {Z : Zt} {C : Cfg} {b : List IS} {d i : Nat} {st : Stmt} {c : Cc} (q : ckS Z C (.tryR b d i) st c = true) : ∃ b' x n m f p1 p2 p3 p4 p5 p6, st = .Try b' [.ExceptHandler (some (.Name x p1)) (some n) [.Return (some (.Attribute (.Name m p2) f p3)) p4] p5] [] [] p6 ∧ (sEq m n && nmB c i n && loB c n && ndb n && glB c x && ndb x && atS Z.cls d x && atX d f Z.exs && ckB Z C b b' c) = true := by
  unfold ckS at q
  split at q
  · exact ⟨_, _, _, _, _, _, _, _, _, _, _, rfl, q⟩
  · cases q
theorem loc_of {c : Cc} {x : Str} (h : loB c x = true) : locB c x = true := by
  unfold loB at h
  unfold locB
  cases q : lkp x c.sc.names with
  | none => rw [q] at h; exact RV.no h
  | some k =>
    rw [q] at h
    cases k <;> first | rfl | exact RV.no h
theorem den_asgV {C : Cfg} (i : Nat) (e : IE) : denS C Φ (.asg (.var i) e) = fun B ρ S => (den C Φ e B ρ S).bind fun v S => (Out.of (tgt (.var i) v ρ) S).bind fun ρ' S => .ok (ρ', .nx) S := rfl
theorem den_asgT {C : Cfg} (ts : List IE) (e : IE) : denS C Φ (.asg (.tup ts) e) = fun B ρ S => (den C Φ e B ρ S).bind fun v S => (Out.of (tgt (.tup ts) v ρ) S).bind fun ρ' S => .ok (ρ', .nx) S := rfl
/-- a comprehension that is stored -/
theorem st_lc {E : XK} {c : Cc} {X : Cx} (ct : Ct Z D Φ k E c X) (m : Bool) {own : List Nat} {t it : IE} {ifs : Option IE} {elt : IE} {elt' : Expr} {gs : List Comprehension} {scope : Scope} {p py spos : Pos} {x : Str} {i : Nat} (hx : X.N[i]? = some x) (hl : loB c x = true) (hsw : swB scope x py p = true)
    (q : ckE Z D.C (.lc m own t it ifs elt) false (.ListComp elt' gs scope p) c = true) : PS X (.Assign [.Name x py] (.ListComp elt' gs scope p) spos) (tS D.L E (denS D.C Φ (.asg (.var i) (.lc m own t it ifs elt)))) := by
  rcases gs with _ | ⟨⟨tg, it', ifs', as⟩, _ | ⟨g2, gs⟩⟩
  · exact RV.no q
  · obtain ⟨q, q8⟩ := an (show (decide (as = 0) && blkB c scope own && tvB t own && notSet it' && tgI it tg && ckE Z D.C it true it' c && ckT c.N (locB (c.blk scope)) tg t && ckF Z D.C ifs ifs' (c.blk scope) && ckE Z D.C elt false elt' (c.blk scope)) = true from q)
    obtain ⟨q, q7⟩ := an q
    obtain ⟨q, q6⟩ := an q
    obtain ⟨q, q5⟩ := an q
    obtain ⟨q, q4⟩ := an q
    obtain ⟨q, q3⟩ := an q
    obtain ⟨q, q2⟩ := an q
    obtain ⟨q0, q1⟩ := an q
    cases of_decide_eq_true q0
    have lo := LcOk.of ct (good it) q1 q2 q4 q5 q6
    obtain ⟨w1, w2⟩ := swB_ok hsw
    rw [den_asgV, den_lc, ← lo.on]
    exact s_setLc m ct.calm ct.ndN hx (ct.lo hl) (sw_true (by rw [ct.sc]; exact ct.kind) (ct.lo hl) w1 w2) lo.hi lo.ok (by rw [lo.on]; exact lo.tv) lo.hg (fun s H C cl fp => goodF ifs E0 _ _ ifs' (ct.blk lo.hk s H C cl fp) q7) (fun s H C cl fp => (good elt).val E0 _ _ elt' (ct.blk lo.hk s H C cl fp) q8) (notSet_ok q3 _)
  · exact RV.no q
theorem st_lc2 {E : XK} {c : Cc} {X : Cx} (ct : Ct Z D Φ k E c X) (m : Bool) {own own1 : List Nat} {t it t1 it1 : IE} {ifs : Option IE} {elt : IE} {elt' : Expr} {gs : List Comprehension} {scope : Scope} {p py spos : Pos} {x : Str} {i : Nat} (hx : X.N[i]? = some x) (hl : loB c x = true) (hsw : swB scope x py p = true)
    (q : ckE Z D.C (.lc2 m own own1 t it t1 it1 ifs elt) false (.ListComp elt' gs scope p) c = true) : PS X (.Assign [.Name x py] (.ListComp elt' gs scope p) spos) (tS D.L E (denS D.C Φ (.asg (.var i) (.lc2 m own own1 t it t1 it1 ifs elt)))) := by
  rcases gs with _ | ⟨⟨tg, it', ifs0, as⟩, _ | ⟨⟨tg1, it1', ifs', as1⟩, _ | ⟨g3, gs⟩⟩⟩
  · exact RV.no q
  · cases ifs0 <;> exact RV.no q
  · cases ifs0 with
    | cons _ _ => exact RV.no q
    | nil =>
      obtain ⟨q, q14⟩ := an (show (decide (as = 0) && decide (as1 = 0) && blkB c scope own && tvB t own && tvB t1 own1 && subB own1 own && notSet it' && notSet it1' && tgI it tg && tgI it1 tg1 && ckE Z D.C it true it' c && ckT c.N (locB (c.blk scope)) tg t
            && ckE Z D.C it1 true it1' (c.blk scope) && ckT c.N (locB (c.blk scope)) tg1 t1 && ckF Z D.C ifs ifs' (c.blk scope) && ckE Z D.C elt false elt' (c.blk scope)) = true from q)
      obtain ⟨q, q13⟩ := an q
      obtain ⟨q, q12⟩ := an q
      obtain ⟨q, q11⟩ := an q
      obtain ⟨q, q10⟩ := an q
      obtain ⟨q, q9⟩ := an q
      obtain ⟨q, q8⟩ := an q
      obtain ⟨q, q7⟩ := an q
      obtain ⟨q, q6⟩ := an q
      obtain ⟨q, q5⟩ := an q
      obtain ⟨q, q4⟩ := an q
      obtain ⟨q, q3⟩ := an q
      obtain ⟨q, q2⟩ := an q
      obtain ⟨q, q1⟩ := an q
      obtain ⟨q0, q00⟩ := an q
      cases of_decide_eq_true q0
      cases of_decide_eq_true q00
      have lo := LcOk.of ct (good it) q1 q2 q7 q9 q10
      obtain ⟨w1, w2⟩ := swB_ok hsw
      rw [den_asgV, den_lc2, ← lo.on]
      exact s_setLc2 m ct.calm ct.ndN hx (ct.lo hl) (sw_true (by rw [ct.sc]; exact ct.kind) (ct.lo hl) w1 w2) lo.hi lo.ok (by rw [lo.on]; exact lo.tv) (tvB_ok q3) (by rw [lo.on]; exact subB_ok q4) lo.hg (fun s H C cl fp => (good it1).itr E0 _ _ it1' tg1 (ct.blk lo.hk s H C cl fp) q11 q8) (fun s H C cl fp => (ct.blk lo.hk s H C cl fp).tgt q12)
        (fun s H C cl fp => goodF ifs E0 _ _ ifs' (ct.blk lo.hk s H C cl fp) q13) (fun s H C cl fp => (good elt).val E0 _ _ elt' (ct.blk lo.hk s H C cl fp) q14) (notSet_ok q5 _) (notSet_ok q6)
  · cases ifs0 <;> exact RV.no q
theorem st_dc {E : XK} {c : Cc} {X : Cx} (ct : Ct Z D Φ k E c X) (tk : Bool) {own : List Nat} {t it kk vv : IE} {k' v' : Expr} {gs : List Comprehension} {scope : Scope} {p py spos : Pos} {x : Str} {i : Nat} (hx : X.N[i]? = some x) (hl : loB c x = true) (hsw : swB scope x py p = true)
    (q : ckE Z D.C (.dc tk own t it kk vv) false (.DictComp k' v' gs scope p) c = true) : PS X (.Assign [.Name x py] (.DictComp k' v' gs scope p) spos) (tS D.L E (denS D.C Φ (.asg (.var i) (.dc tk own t it kk vv)))) := by
  rcases gs with _ | ⟨⟨tg, it', ifs', as⟩, _ | ⟨g2, gs⟩⟩
  · exact RV.no q
  · cases ifs' with
    | cons _ _ => exact RV.no q
    | nil =>
      obtain ⟨q, q9⟩ := an (show (decide (as = 0) && !tk && blkB c scope own && tvB t own && notSet it' && tgI it tg && ckE Z D.C it true it' c && ckT c.N (locB (c.blk scope)) tg t && ckE Z D.C kk false k' (c.blk scope) && ckE Z D.C vv false v' (c.blk scope)) = true from q)
      obtain ⟨q, q8⟩ := an q
      obtain ⟨q, q7⟩ := an q
      obtain ⟨q, q6⟩ := an q
      obtain ⟨q, q5⟩ := an q
      obtain ⟨q, q4⟩ := an q
      obtain ⟨q, q3⟩ := an q
      obtain ⟨q, q2⟩ := an q
      obtain ⟨q0, q1⟩ := an q
      cases of_decide_eq_true q0
      cases tk with
      | true => exact RV.no q1
      | false =>
        have lo := LcOk.of ct (good it) q2 q3 q5 q6 q7
        obtain ⟨w1, w2⟩ := swB_ok hsw
        rw [den_asgV, den_dc, ← lo.on]
        exact s_setDc ct.calm ct.ndN hx (ct.lo hl) (sw_trueD (by rw [ct.sc]; exact ct.kind) (ct.lo hl) w1 w2) lo.hi lo.ok (by rw [lo.on]; exact lo.tv) lo.hg (fun s H C cl fp => (good kk).val E0 _ _ k' (ct.blk lo.hk s H C cl fp) q8) (fun s H C cl fp => (good vv).val E0 _ _ v' (ct.blk lo.hk s H C cl fp) q9) (notSet_ok q4 _)
  · cases ifs' <;> exact RV.no q
/-! ### stores -/
theorem setF_eq {C : Cfg} (o i : IE) (v : PV) (B : Sto) (ρ : Loc) (S : Sto) : asgT C Φ (.sub o i) v B ρ S = (den C Φ o B ρ S).bind fun x S => (den C Φ i B ρ S).bind fun y S => (setF B S x y v).bind fun _ S => .ok ρ S := by
  show ((den C Φ o B ρ S).bind fun x S => (den C Φ i B ρ S).bind fun y S => match x with
    | .obj n => match getS B S n with
      | some (.lst xs) => match y with
        | .int (.ofNat k) => match Nat.blt k xs.length with
          | true => match setS B S n (.lst (xs.set k v)) with
            | some S' => .ok ρ S'
            | none => .fail
          | false => .fail
        | _ => .fail
      | some (.dct kvs) => match putK true y v kvs with
        | some kvs' => match setS B S n (.dct kvs') with
          | some S' => .ok ρ S'
          | none => .fail
        | none => .fail
      | some (.dlf kvs) => match putK false y v kvs with
        | some kvs' => match setS B S n (.dlf kvs') with
          | some S' => .ok ρ S'
          | none => .fail
        | none => .fail
      | _ => .fail
    | _ => .fail) = _
  congr 1
  funext x S1
  congr 1
  funext y S2
  unfold setF
  cases x with
  | obj n =>
    dsimp only
    cases getS B S2 n with
    | none => rfl
    | some so =>
      cases so with
      | lst xs =>
        cases y with
        | int j =>
          cases j with
          | ofNat m =>
            dsimp only
            cases Nat.blt m xs.length with
            | false => rfl
            | true => dsimp only; cases setS B S2 n (.lst (xs.set m v)) <;> rfl
          | negSucc m => rfl
        | _ => rfl
      | dct kvs =>
        dsimp only
        cases putK true y v kvs with
        | none => rfl
        | some kvs' => dsimp only; cases setS B S2 n (.dct kvs') <;> rfl
      | dlf kvs =>
        dsimp only
        cases putK false y v kvs with
        | none => rfl
        | some kvs' => dsimp only; cases setS B S2 n (.dlf kvs') <;> rfl
      | ins _ _ => rfl
  | _ => rfl
theorem fldF_eq {C : Cfg} (o : IE) (f : Nat) (v : PV) (B : Sto) (ρ : Loc) (S : Sto) : asgT C Φ (.attr o f) v B ρ S = (den C Φ o B ρ S).bind fun y S => match fldF C.fld B S y f v with
    | some S' => .ok ρ S'
    | none => .fail := by
  show ((den C Φ o B ρ S).bind fun x S => match x with
    | .obj n => match getS B S n with
      | some (.ins c fs) => match (C.fld c).any (fun g => Nat.beq g f) && Nat.ble fs.length 900 with
        | true => match setS B S n (.ins c (putN f v fs)) with
          | some S' => .ok ρ S'
          | none => .fail
        | false => .fail
      | _ => .fail
    | _ => .fail) = _
  congr 1
  funext x S1
  unfold fldF
  cases x with
  | obj n =>
    dsimp only
    cases getS B S1 n with
    | none => rfl
    | some so =>
      cases so with
      | ins c fs =>
        dsimp only
        cases (C.fld c).any (fun g => Nat.beq g f) && Nat.ble fs.length 900 <;> rfl
      | _ => rfl
  | _ => rfl
theorem noSw_ok {E : XK} {c : Cc} {X : Cx} (ct : Ct Z D Φ k E c X) {v : Expr} {x : Str} {py : Pos} {n : Nat} (h : noSw c v x = true) : swapsWith v (some (.Name x py)) n X.env = pure false := by
  cases hv : noComp v with
  | true => exact swaps_no hv
  | false =>
    have h : (noComp v || kB (lkp x c.sc.names) .cell) = true := h
    rw [hv] at h
    have hc : X.env.kindOf x = some .cell := by
      show X.env.scope.names.lookup x = some .cell
      rw [ct.sc, ← lkp_eq]
      exact kB_ok h
    unfold swapsWith
    have hn : (NameKind.cell == NameKind.local) = false := by decide
    cases v <;> first | rfl | (simp [hc, hn])
theorem gs_asg (t e : IE) : GoodS Z D Φ k (.asg t e) := fun E c X st h q => by
  have ct := h.ct
  cases st with
  | Assign tgs v p =>
    rcases tgs with _ | ⟨tg, _ | ⟨t2, tr⟩⟩
    · exact RV.no q
    · have q : ckG Z D.C t e tg v c = true := q
      cases t with
      | var i =>
        cases tg with
        | Name x py =>
          obtain ⟨q, q4⟩ := an (show (nmB c i x && (match noSw c v x with
            | true => locB c x
            | false => loB c x && ckV e v x py) && ckE Z D.C e false v c) = true from q)
          obtain ⟨q1, q2⟩ := an q
          cases hv : noSw c v x with
          | true =>
            rw [hv] at q2
            exact s_name (t := .var i) ct.K ct.calm ct.ndN ct.loc (ct.nm q1) q2 ((good e).val E c X v ct q4) (noSw_ok ct hv)
          | false =>
            rw [hv] at q2
            obtain ⟨q5, q3⟩ := an q2
            clear q2
            have hv : noComp v = false := (Bool.or_eq_false_iff.mp hv).1
            cases v with
            | ListComp elt gs scope pc =>
              cases e with
              | lc m own t it ifs el => exact st_lc ct m (ct.nm q1) q5 (an (show (swB scope x py pc && true) = true from q3)).1 q4
              | lc2 m own own1 t it t1 it1 ifs el => exact st_lc2 ct m (ct.nm q1) q5 (an (show (swB scope x py pc && true) = true from q3)).1 q4
              | _ => exact RV.no (an (show (swB scope x py pc && false) = true from q3)).2
            | DictComp kx vx gs scope pc =>
              cases e with
              | dc tk own t it kk vv => exact st_dc ct tk (ct.nm q1) q5 (an (show (swB scope x py pc && true) = true from q3)).1 q4
              | _ => exact RV.no (an (show (swB scope x py pc && false) = true from q3)).2
            | SetComp => exact RV.no q3
            | _ => cases hv
        | _ => exact RV.no q
      | tup ts =>
        obtain ⟨q, q4⟩ := an (show (ckT c.N (locB c) tg (.tup ts) && noComp v && !isTupV v && ckE Z D.C e false v c) = true from q)
        obtain ⟨q, q3⟩ := an q
        obtain ⟨q1, q2⟩ := an q
        have q3 : isTupV v = false := by
          cases z : isTupV v with
          | false => rfl
          | true => rw [z] at q3; exact RV.no q3
        rw [den_asgT]
        refine s_tup (ct.tgt q1) ((good e).val E c X v ct q4) q2 q3 ?_
        rw [assign_cons (es := []) q1]
        rfl
      | sub o i =>
        cases tg with
        | Subscript o' i' py =>
          obtain ⟨q, q5⟩ := an (show (plainIx i' && noComp v && ckE Z D.C o false o' c && ckE Z D.C i false i' c && ckE Z D.C e false v c) = true from q)
          obtain ⟨q, q4⟩ := an q
          obtain ⟨q, q3⟩ := an q
          obtain ⟨q1, q2⟩ := an q
          refine PSw (s_sub ct.P ct.w ct.K ct.un ((good o).val E c X o' ct q3) ((good i).val E c X i' ct q4) q1 ((good e).val E c X v ct q5) q2) fun D' σ H z => ?_
          obtain ⟨μ, B, ρ, S, z1, z2, z3⟩ := z
          refine ⟨μ, B, ρ, S, z1, z2, ?_⟩
          have z3 : OutOk D.L E μ H B ((den D.C Φ e B ρ S).bind fun v S => (asgT D.C Φ (.sub o i) v B ρ S).bind fun ρ' S => Out.ok (ρ', RV.Flow.nx) S) (fun r _ μ' H' => EndOk D.L D' μ' H' r) := z3
          simp only [setF_eq] at z3
          exact z3
        | _ => exact RV.no q
      | attr o f =>
        cases tg with
        | Attribute o' x py =>
          obtain ⟨q, q4⟩ := an (show (atS Z.fld f x && noComp v && ckE Z D.C o false o' c && ckE Z D.C e false v c) = true from q)
          obtain ⟨q, q3⟩ := an q
          obtain ⟨q1, q2⟩ := an q
          refine PSw (s_fld ct.fx.cf (ct.fx.fld f x (atS_ok q1)) ct.K ((good o).val E c X o' ct q3) ((good e).val E c X v ct q4) q2) fun D' σ H z => ?_
          obtain ⟨μ, B, ρ, S, z1, z2, z3⟩ := z
          refine ⟨μ, B, ρ, S, z1, z2, ?_⟩
          have z3 : OutOk D.L E μ H B ((den D.C Φ e B ρ S).bind fun v S => (asgT D.C Φ (.attr o f) v B ρ S).bind fun ρ' S => Out.ok (ρ', RV.Flow.nx) S) (fun r _ μ' H' => EndOk D.L D' μ' H' r) := z3
          simp only [fldF_eq] at z3
          exact z3
        | _ => exact RV.no q
      | _ => exact RV.no q
    · exact RV.no q
  | _ => exact RV.no q
theorem bne {i j : Nat} (h : (!Nat.beq i j) = true) : i ≠ j := by
  rintro rfl
  rw [Nat.beq_refl] at h
  exact RV.no h
theorem gs_par (ts es : List IE) : GoodS Z D Φ k (.par ts es) := fun E c X st h q => by
  have ct := h.ct
  have hk : X.env.scope.kind = .function := by rw [ct.sc]; exact ct.kind
  cases st with
  | Assign tgs v p =>
    rcases tgs with _ | ⟨tg, _ | ⟨t2, tr⟩⟩
    · exact RV.no q
    · cases tg with
      | Tuple tgs kt pt =>
        cases v with
        | Tuple vs k2 pt2 =>
          have q : ckP Z D.C ts es tgs vs c = true := q
          unfold ckP at q
          split at q
          · split at q
            · rename_i i j x px y py
              obtain ⟨q, q7⟩ := an q
              obtain ⟨q, q6⟩ := an q
              obtain ⟨q, q5⟩ := an q
              obtain ⟨q, q4⟩ := an q
              obtain ⟨q, q3⟩ := an q
              obtain ⟨q1, q2⟩ := an q
              split at q7
              · obtain ⟨q7, q8⟩ := an q7
                exact s_par2 ct.calm ct.ndN hk (ct.nm q1) (ct.nm q2) (bne q3) (ct.lo q4) (ct.lo q5) q6 q7 ((goodA (goods es)).val E c X _ ct q8)
              · exact RV.no q7
            · exact RV.no q
          · split at q
            · rename_i i j l x px y py z pz
              obtain ⟨q, q12⟩ := an q
              obtain ⟨q, q11⟩ := an q
              obtain ⟨q, q10⟩ := an q
              obtain ⟨q, q9⟩ := an q
              obtain ⟨q, q8⟩ := an q
              obtain ⟨q, q7⟩ := an q
              obtain ⟨q, q6⟩ := an q
              obtain ⟨q, q5⟩ := an q
              obtain ⟨q, q4⟩ := an q
              obtain ⟨q, q3⟩ := an q
              obtain ⟨q1, q2⟩ := an q
              split at q12
              · obtain ⟨q12, q13⟩ := an q12
                exact s_par3 ct.calm ct.ndN hk (ct.nm q1) (ct.nm q2) (ct.nm q3) (bne q4) (bne q5) (bne q6) (ct.lo q7) (ct.lo q8) (ct.lo q9) q10 q11 q12 ((goodA (goods es)).val E c X _ ct q13)
              · exact RV.no q12
            · exact RV.no q
          · exact RV.no q
        | _ => exact RV.no q
      | _ => exact RV.no q
    · cases tg <;> cases v <;> exact RV.no q
  | _ => exact RV.no q
mutual
theorem goodS : ∀ s : IS, GoodS Z D Φ k s
  | .asg t e => gs_asg t e
  | .par ts es => gs_par ts es
  | .expr e => fun E c X st h q => by
    cases st with
    | Expr v p =>
      obtain ⟨q1, q2⟩ := an (show (noComp v && ckE Z D.C e false v c) = true from q)
      exact s_expr ((good e).val E c X v h.ct q2) q1
    | _ => exact RV.no q
  | .ret e => fun E c X st h q => by
    cases st with
    | Return v p =>
      cases v with
      | none => exact RV.no q
      | some v => exact s_ret ((good e).val E c X v h.ct q)
    | _ => exact RV.no q
  | .retN => fun E c X st h q => by
    cases st with
    | Return v p =>
      cases v with
      | some v => exact RV.no q
      | none => exact s_retN
    | _ => exact RV.no q
  | .ite t a b => fun E c X st h q => by
    cases st with
    | If t' a' b' p =>
      obtain ⟨q, q3⟩ := an (show (ckE Z D.C t false t' c && ckB Z D.C a a' c && ckB Z D.C b b' c) = true from q)
      obtain ⟨q1, q2⟩ := an q
      exact s_if ((good t).tst E c X t' h.ct q1) (goodB a E c X a' h q2) (goodB b E c X b' h q3)
    | _ => exact RV.no q
  | .for_ t it b => fun E c X st h q => by
    cases st with
    | For tg it' b' els p =>
      cases els with
      | cons _ _ => exact RV.no q
      | nil =>
        obtain ⟨q, q5⟩ := an (show (tgI it tg && notSet it' && ckE Z D.C it true it' c && ckT c.N (locB c) tg t && ckB Z D.C b b' c) = true from q)
        obtain ⟨q, q4⟩ := an q
        obtain ⟨q, q3⟩ := an q
        obtain ⟨q1, q2⟩ := an q
        exact s_for h.ow h.ct.calm ((good it).itr E c X it' tg h.ct q3 q1) (h.ct.tgt q4) (goodB b E c X b' h q5) (notSet_ok q2 _)
    | _ => exact RV.no q
  | .whl t b => fun E c X st h q => by
    cases st with
    | While t' b' els p =>
      cases els with
      | cons _ _ => exact RV.no q
      | nil =>
        obtain ⟨q1, q2⟩ := an (show (ckE Z D.C t false t' c && ckB Z D.C b b' c) = true from q)
        exact s_while h.ow ((good t).tst E c X t' h.ct q1) (goodB b E c X b' h q2) WF
    | _ => exact RV.no q
  | .raise d e => fun E c X st h q => by
    obtain ⟨x, a, p1, p2, p3, rfl, q⟩ := ckRaise q
    obtain ⟨q, q6⟩ := an q
    obtain ⟨q, q5⟩ := an q
    obtain ⟨q, q4⟩ := an q
    obtain ⟨q, q3⟩ := an q
    obtain ⟨q1, q2⟩ := an q
    obtain ⟨f, mf⟩ := inX_ok q5
    obtain ⟨⟨fI, T⟩, _, _⟩ := h.ct.fx.exn d f mf
    rw [← h.ct.P, ← h.ct.K] at T
    exact s_raise h.ct.calm T (h.ct.no (by simp [bNames])) (by rw [h.ct.mg]; exact h.ct.fx.cls d x (atS_ok q4)) (h.ct.gl q1) (ndb_1 q2) h.ct.rm.r h.tk ((good e).val E c X a h.ct q6) (star_cons q3).1
  | .tryR b d i => fun E c X st h q => by
    obtain ⟨b', x, n, m, f, p1, p2, p3, p4, p5, p6, rfl, q⟩ := ckTry q
    obtain ⟨q, q9⟩ := an q
    obtain ⟨q, q8⟩ := an q
    obtain ⟨q, q7⟩ := an q
    obtain ⟨q, q6⟩ := an q
    obtain ⟨q, q5⟩ := an q
    obtain ⟨q, q4⟩ := an q
    obtain ⟨q, q3⟩ := an q
    obtain ⟨q1, q2⟩ := an q
    have em := sEq_ok q1
    subst em
    obtain ⟨⟨fI, T⟩, ef, exm⟩ := h.ct.fx.exn d f (atX_ok q8)
    rw [← h.ct.P, ← h.ct.K] at T
    rw [← h.ct.K] at exm
    subst ef
    have nd : X.N.Nodup := by rw [h.ct.N]; exact h.ct.nd
    refine s_try (fb := denB D.C Φ b) h.stk h.frm nd (h.ct.nm q2) (h.ct.lo q3) (ndb_1 q4) (ndb_2 q4) ⟨h.ct.gl q5, ndb_1 q6, .inl (by rw [h.ct.mg]; exact h.ct.fx.cls d x (atS_ok q7))⟩ h.tk T exm fun E' pn xe t ow => ?_
    have ps : Passes D.CX (X.tr pn xe) E' := by
      have e : D.CX = L2.CX (X.tr pn xe).prog (X.tr pn xe).w := by
        show L2.CX D.L.P D.L.w = L2.CX X.prog X.w
        rw [h.ct.P, h.ct.w]
      rw [e]
      exact passes_call t fun _ _ _ _ z => z
    exact goodB b E' c (X.tr pn xe) b' ⟨⟨h.ct.fx, h.ct.fn, h.ct.P, h.ct.w, h.ct.K, h.ct.mg, h.ct.base, h.ct.N, h.ct.nd, h.ct.sc, h.ct.fnx, h.ct.calm, h.ct.kind, h.ct.rm, ps, h.ct.lam⟩, ow, t, h.stk, h.frm⟩ q9
  | .pass => fun E c X st h q => by
    cases st with
    | Pass p => exact s_pass
    | _ => exact RV.no q
  | .bad => fun E c X st h q => s_fail fun _ _ _ => rfl
theorem goodB : ∀ b : List IS, GoodB Z D Φ k b
  | [] => fun E c X st h q => by
    cases st with
    | nil => exact s_nil
    | cons _ _ => exact RV.no q
  | s :: r => fun E c X st h q => by
    cases st with
    | nil => exact RV.no q
    | cons s' r' =>
      obtain ⟨q1, q2⟩ := an (show (ckS Z D.C s s' c && ckB Z D.C r r' c) = true from q)
      exact s_cons (goodS s E c X s' h q1) (goodB r E c X r' h q2)
end
end
end RV
end
section
/-! RVDef: defs of a text; the tables; what the head must tell. -/
namespace RV
open PySem PySem.Spec PyProof.Rows L2
/-- one def of the text -/
structure Dt where
  at_ : Str × Option Str
  name : Str
  qual : Str
  args : Arguments
  body : List Stmt
  scope : Scope
  N : List Str
  ps : List Str
  d : Option Def
  lam : Bool
/-- one class -/
structure Cd where
  name : Str
  ini : Option Nat
  eqm : Option Nat
  fld : List Nat
  mts : List (Str × Nat)
  own : Bool
  xf : Str
  exn : Bool
structure Tx where
  file : Str
  ds : List Dt
  cs : List Cd
  fld : List Str
  glb : List (Str × PV)
  hrd : List (Nat × Nat × List (Nat × Str))
/-! ### a def that fits -/
def noDoc : List Stmt → List Stmt
  | .Expr (.Constant (.str _) _ _) _ :: r => r
  | l => l
def eqS : List Str → List Str → Bool
  | [], [] => true
  | a :: as, b :: bs => sEq a b && eqS as bs
  | _, _ => false
theorem eqS_ok : ∀ {a b : List Str}, eqS a b = true → a = b
  | [], [], _ => rfl
  | [], _ :: _, h => RV.no h
  | _ :: _, [], h => RV.no h
  | a :: as, b :: bs, h => by
    obtain ⟨h1, h2⟩ := an (show (sEq a b && eqS as bs) = true from h)
    rw [sEq_ok h1, eqS_ok h2]
def scB (N ps : List Str) (sc : Scope) : Bool := decide (sc.kind = .function) && !sc.isCoroutine && !sc.isGenerator && nodupB N && eqS (N.take ps.length) ps && ps.all (fun x => kB (lkp x sc.names) .local || kB (lkp x sc.names) .cell) && sc.names.all (fun y => !isF y.2)
theorem notB {b : Bool} (h : (!b) = true) : b = false := by
  cases b
  · rfl
  · exact RV.no h
theorem scB_ok {N ps : List Str} {sc : Scope} (h : scB N ps sc = true) : FnScope N ps sc := by
  obtain ⟨h, h7⟩ := an h
  obtain ⟨h, h6⟩ := an h
  obtain ⟨h, h5⟩ := an h
  obtain ⟨h, h4⟩ := an h
  obtain ⟨h, h3⟩ := an h
  obtain ⟨h1, h2⟩ := an h
  refine ⟨of_decide_eq_true h1, notB h2, notB h3, nodupB_ok h4, eqS_ok h5, fun x hx => ?_, fun y hy e => ?_⟩
  · have := List.all_eq_true.mp h6 x hx
    rw [Bool.or_eq_true] at this
    rw [← lkp_eq]
    exact this.imp kB_ok kB_ok
  · have := List.all_eq_true.mp h7 y hy
    rw [e] at this
    exact RV.no this
def defB (Z : Zt) (C : Cfg) (t : Dt) (df : Def) : Bool := scB t.N t.ps t.scope && Nat.beq df.ps t.ps.length && Nat.beq df.nm t.N.length && ckB Z C df.body (noDoc t.body) ⟨t.N, t.scope, fun _ => true, t.lam⟩
section
variable {Z : Zt} {D : En} {Φ : Nat → DefF} {k : Nat}
theorem rel_start {L : Pl} {μ : Mu} {H : Hp} {ps : List PV} {vs : List V} (n : Nat) (h : RelL L μ H ps vs) : RelR L μ H (ps.map some ++ List.replicate n none) (vs.map some ++ List.replicate n none) where
  len := by simp [h.length]
  at_ := fun i p e => by
    rcases Nat.lt_or_ge i ps.length with hi | hi
    · rw [List.getElem?_append_left (by simpa using hi), List.getElem?_map] at e
      cases q : ps[i]? with
      | none => rw [q] at e; cases e
      | some p' =>
        rw [q] at e
        cases e
        obtain ⟨v, h1, h2⟩ := h.get q
        refine ⟨v, ?_, h2⟩
        rw [List.getElem?_append_left (by rw [List.length_map, ← h.length]; exact hi), List.getElem?_map, h1]
        rfl
    · rw [List.getElem?_append_right (by simpa using hi), List.getElem?_replicate] at e
      split at e <;> cases e
theorem pss_doc {X : Cx} {L : Pl} {E : XK} {body : List Stmt} {f : FS} (h : PSs X (noDoc body) (tS L E f)) : PSs X body (tS L E f) := by
  unfold noDoc at h
  split at h
  · exact s_cons s_doc h
  · exact h
theorem cx_passes {P : Program} {w : World} {K : PySem.W.Frag} {mg : Str → Option Value} {base : Heap} {N : List Str} {qual : Str} {scope : Scope} {f : Addr} {cd : Value} {A : Around} {outer : List Env} {s : Shared} {H : Hp} {E : XK} :
    Passes (L2.CX P w) (cxOf (L2.CX P w) P w K mg base N qual scope f cd A outer s H E) E :=
  passes_call (takes_of (X := cxOf (L2.CX P w) P w K mg base N qual scope f cd A outer s H E) rfl rfl rfl rfl) (fun _ _ _ _ h => h)
theorem def_ok (fx : Fx0 Z D) (fn : FnA Z D Φ k) {t : Dt} {df : Def} (q : defB Z D.C t df = true) {f : Addr} {fd : FuncData} (F : FunD D.L.K t.name t.qual t.args t.body t.scope [] [] f fd)
    (lm : t.lam = true → ∃ cc Pt, fd.code = .ref cc ∧ LamX.TabB D.base D.mg cc Pt ∧ (Pt, t.qual ++ ".<locals>." ++ "<lambda>") ∈ D.L.T ∧ ∀ p ∈ D.L.T, p.1 = Pt → p.2 = t.qual ++ ".<locals>." ++ "<lambda>") :
    FnO D.L.P D.L.w D.L.K D.mg D.base D.CX (k + 4) f fd t.ps (spF D.L (runDef D.C Φ df)) := by
  obtain ⟨q, q4⟩ := an q
  obtain ⟨q, q3⟩ := an q
  obtain ⟨q1, q2⟩ := an q
  have q2 : df.ps = t.ps.length := Nat.eq_of_beq_eq_true q2
  have q3 : df.nm = t.N.length := Nat.eq_of_beq_eq_true q3
  have sc := scB_ok q1
  have hlen : ∀ {vs : List V} {H : Hp} {Q : VK} {E : XK}, spF D.L (runDef D.C Φ df) vs H Q E → vs.length = t.ps.length := fun {vs H Q E} h => by
    obtain ⟨μ, B, S, ps, rs, rl, o⟩ := h
    unfold runDef at o
    cases e : Nat.beq ps.length df.ps with
    | false => rw [e] at o; exact False.elim o
    | true => rw [← rl.length, Nat.eq_of_beq_eq_true e, q2]
  obtain ⟨oc, od, dV, kV, doc, pm, an, cdv, ct, osl, rfl, lk, hcd, _, _⟩ := F.ex
  refine ⟨fun vs H Q E h => hlen h, fun A outer s H args us vs Q E hr e0 hb r h => LamX.run_ofS (k := k + 3) (CX := D.CX) (N := t.N) lk hcd sc hr.r e0 hb r (hlen h) fun _ => ⟨tS D.L E (denB D.C Φ df.body), pss_doc ?_, ?_⟩⟩
  · have rm : Rm (k + 3) (A.deeper (envOfC t.qual t.scope s.heap.objs.size f cdv)) := hr.deeper _
    refine goodB df.body E ⟨t.N, t.scope, fun _ => true, t.lam⟩ _ (noDoc t.body) ⟨⟨fx, fn, rfl, rfl, rfl, rfl, rfl, rfl, sc.nd, rfl, rfl, rfl, sc.kind, rm.mono (by omega), cx_passes, fun z => ?_⟩, passes_of rfl, takes_of rfl rfl rfl rfl, rfl, rfl⟩ q4
    obtain ⟨cc, Pt, l1, l2, l3, l4⟩ := lm z
    exact ⟨cc, Pt, l1, l2, l3, l4, rm⟩
  · have hl := hlen h
    obtain ⟨μ, B, S, ps, rs, rl, o⟩ := h
    unfold runDef at o
    cases e : Nat.beq ps.length df.ps with
    | false => rw [e] at o; exact False.elim o
    | true =>
      rw [e] at o
      have o : OutOk D.L E μ H B ((denB D.C Φ df.body B (ps.map some ++ List.replicate (df.nm - df.ps) none) S).bind fun r S => match r.2 with
        | .nx => .ok .non S
        | .ret v => .ok v S) (fun p _ μ' H' => ∀ v, RelP D.L μ' H' p v → Q v H') := o
      have er : L2.start t.N vs = vs.map some ++ List.replicate (df.nm - df.ps) none := by
        unfold L2.start
        rw [q3, q2, hl]
      rw [er]
      refine ⟨μ, B, _, S, rs, rel_start _ rl, o.bind.imp fun r S1 μ1 H1 e1 rs1 o1 => ?_⟩
      obtain ⟨ρ, fl⟩ := r
      cases fl with
      | nx => exact fun σ' _ => OutOk.now o1 rs1 .non rfl
      | ret v => exact fun x hx => OutOk.now o1 rs1 x hx
theorem fn_fail {P : Program} {w : World} {K : PySem.W.Frag} {mg : Str → Option Value} {base : Heap} {CX : CXT} {k : Nat} {f : Addr} {fd : FuncData} {ps : List Str} {L : Pl} {F : DefF} (h : ∀ B vs S, F B vs S = .fail) : FnO P w K mg base CX k f fd ps (spF L F) := by
  have z : ∀ {vs H Q E}, spF L F vs H Q E → False := fun {vs H Q E} ⟨μ, B, S, ps, rs, rl, o⟩ => by
    rw [h] at o
    exact o
  exact ⟨fun vs H Q E q => (z q).elim, fun A outer s H args us vs Q E _ _ _ _ q => (z q).elim⟩
end
/-! ### the tables of a text -/
def mtsOf : Nat → List Cd → List (Nat × Str × Nat)
  | _, [] => []
  | i, c :: r => c.mts.map (fun m => (i, m.1, m.2)) ++ mtsOf (i + 1) r
def ownI : Nat → List Cd → List Nat
  | _, [] => []
  | i, c :: r => (match c.own with
    | true => [i]
    | false => []) ++ ownI (i + 1) r
def exsOf : Nat → List Cd → List (Nat × Str)
  | _, [] => []
  | i, c :: r => (match c.exn with
    | true => [(i, c.xf)]
    | false => []) ++ exsOf (i + 1) r
def Dt.gn (t : Dt) : Option Str := match t.at_.2 with
  | none => some t.at_.1
  | some _ => none
def Dt.dd (t : Dt) : He.DefD := ⟨t.at_, t.name, t.qual, t.args, t.body, t.scope, [], []⟩
def Tx.zt (T : Tx) : Zt := ⟨T.ds.map fun t => (t.gn, t.ps), T.cs.map (·.name), T.fld, mtsOf 0 T.cs, T.glb, ownI 0 T.cs, exsOf 0 T.cs, T.hrd.map fun p => (p.1, p.2.2)⟩
def Tx.cfg (T : Tx) : Cfg := ⟨fun c => match T.cs[c]? with
  | some d => d.ini
  | none => none, fun _ => [], fun c => match T.cs[c]? with
  | some d => d.eqm
  | none => none, fun c => match T.cs[c]? with
  | some d => d.fld
  | none => []⟩
def Tx.tbl (T : Tx) (f : Nat) : Option Def := match T.ds[f]? with
  | some t => t.d
  | none => none
abbrev Tx.P (T : Tx) (d f : Nat) : DefF := Phi T.cfg T.tbl d f
def Tx.fn (T : Tx) (f : Nat) : Str := match T.fld[f]? with
  | some x => x
  | none => ""
/-! ### what is asked of the text alone -/
def parB (a : Arguments) (ps : List Str) : Bool := a.posonlyargs.isEmpty && a.kwonlyargs.isEmpty && a.vararg.isNone && a.kwarg.isNone && eqS (a.args.map (·.arg)) ps
def oEq (o : Option Str) (m : Str) : Bool := match o with
  | some n => sEq n m
  | none => false
def atB (T : Tx) (f : Nat) (x m : Str) : Bool := match T.ds[f]? with
  | some t => sEq t.at_.1 x && oEq t.at_.2 m
  | none => false
def psAt (T : Tx) (f : Nat) : List Str := match T.ds[f]? with
  | some t => t.ps
  | none => []
def clsB (T : Tx) (c : Cd) : Bool := (match c.ini with
    | some f => atB T f c.name "__init__"
    | none => true) && (match c.eqm with
    | some f => atB T f c.name "__eq__" && bindOk (psAt T f) 2 [] []
    | none => true) && c.fld.all (fun f => Nat.blt f T.fld.length) && c.mts.all (fun m => atB T m.2 c.name m.1 && !hasN m.1 T.fld)
def inN2 (N : List Str) (a e : Str) : Bool := match N with
  | [x, y] => sEq x a && sEq y e
  | _ => false
/-- the form of a def that hears -/
def hbB (t : Dt) (gn cn w xf : Str) : Bool := match t.body with
  | [.Try [.Return (some (.List [.Call (.Name a _) [] [] _] _)) _] [.ExceptHandler (some (.Name g _)) (some e) [.Return (some (.IfExp (.Call (.Name i _) [.Name e1 _, .Name c _] [] _) (.Tuple [.Constant (.str v) _ _, .Attribute (.Name e2 _) f _] _ _) _ _)) _] _] [] [] _] =>
    sEq i "isinstance" && (sEq e1 e && (sEq e2 e && (sEq g gn && (sEq c cn && (sEq v w && (sEq f xf && (inN2 t.N a e && (eqS t.ps [a] && (scB t.N t.ps t.scope && (kB (lkp a t.scope.names) .local && (kB (lkp e t.scope.names) .local &&
    (kB (lkp g t.scope.names) .globalImplicit && (kB (lkp c t.scope.names) .globalImplicit && (kB (lkp i t.scope.names) .globalImplicit && (ndb a && (ndb e && (ndb g && (ndb c && (sEq t.name t.at_.1 && (sEq t.qual t.at_.1))))))))))))))))))))
  | _ => false
def hrdB (T : Tx) (p : Nat × Nat × List (Nat × Str)) : Bool := match T.ds[p.1]? with
  | some t => (match T.cs[p.2.1]? with
    | some G => (match p.2.2 with
      | [(cid, w)] => (match T.cs[cid]? with
        | some C => C.exn && hbB t G.name C.name w C.xf
        | none => false)
      | _ => false)
    | none => false)
  | none => false
def Tx.lams (T : Tx) : List Dt := T.ds.filter (·.lam)
def txA (T : Tx) : Bool := T.ds.all (fun t => parB t.args t.ps) && T.cs.all (clsB T) && nodupB T.fld && T.ds.all fun t => (match t.d with
  | some df => defB T.zt T.cfg t df
  | none => true)
def txB (T : Tx) : Bool := txA T && (T.hrd.all (hrdB T) && Nat.ble T.lams.length 1)
/-! ### what is asked of the head -/
def clsFa (T : Tx) (c : Cd) : List He.Fa := (match c.ini with
    | some _ => [.mkr c.name]
    | none => []) ++ (match c.fld.isEmpty && c.mts.isEmpty && !c.own with
    | true => []
    | false => [.cls c.name]) ++ c.fld.map (fun f => .noat c.name (T.fn f)) ++ c.mts.map fun m => .meth c.name m.1
def gloFa (t : Dt) : List He.Fa := match t.at_.2 with
  | none => [.glo t.at_.1]
  | some _ => []
def glbFa (p : Str × PV) : List He.Fa := match p.2 with
  | .int i => [.int p.1 i]
  | .str z => [.str p.1 z]
  | _ => []
def Tx.fa (T : Tx) : List He.Fa := T.ds.flatMap gloFa ++ T.cs.map (fun c => .glo c.name) ++ bNames.map .free ++ T.glb.flatMap glbFa ++ T.cs.flatMap (clsFa T)
def eqcB (K : PySem.W.Frag) (C : Addr) : Bool := He.eqO (PySem.W.findIn K (.ref C) "__eq__") (some (some (.ref (He.ma K C "__eq__")))) && (He.eqO (PySem.W.findIn K (.ref C) "__ne__") (some (some (.builtin "object.__ne__"))) && (PySem.W.isFn K (.ref (He.ma K C "__eq__")) && decide (PySem.W.mroIn K C (.type "object") = some true)))
def tycB (K : PySem.W.Frag) (C : Addr) : Bool := He.eqO (PySem.W.findIn K (.ref C) "__class__") (some (some (.builtin "object.__class__"))) && (He.eqO (PySem.W.specialIn K (.builtin "object.__class__") "__get__") (some (some (.builtin "getset_descriptor.__get__"))) && (decide (PySem.W.takesIn K (.builtin "object.__class__") = some true) && decide (PySem.W.mroIn K C (.type "object") = some true)))
def ownB (T : Tx) (K : PySem.W.Frag) : Bool := T.cs.all fun c => (match c.eqm with
  | some _ => eqcB K (He.ga K c.name)
  | none => true) && (match c.own with
  | true => tycB K (He.ga K c.name)
  | false => true) && (match c.exn with
  | true => xcB T.file K (He.ga K c.name) c.xf
  | false => true)
def xiB (K : PySem.W.Frag) (C : Addr) : Bool := (PySem.W.clsIn K C).isSome && tycB K C
def hrdK (T : Tx) (K : PySem.W.Frag) (p : Nat × Nat × List (Nat × Str)) : Bool := match T.cs[p.2.1]? with
  | some G => (match p.2.2 with
    | [(cid, _)] => (match T.cs[cid]? with
      | some C => decide (PySem.W.exmOne K (.ref (He.ga K C.name)) (.ref (He.ga K G.name)) = some true) && xiB K (He.ga K C.name)
      | none => false)
    | _ => false)
  | none => false
def obsR (T : Tx) (K : PySem.W.Frag) : He.AlD := ((T.fa.all fun f => f.ok K) && (ownB T K && T.ds.all fun t => t.dd.ok K) && T.hrd.all (hrdK T K), T.ds.map fun t => He.fnW K t.at_)
def valR (T : Tx) : He.AlD := (true, T.ds.map fun t => t.dd.val)
def SaysR (T : Tx) (K : PySem.W.Frag) : Prop := obsR T K = valR T
/-- the tables of the defs that hold lambdas are there, empty, and not among what is told -/
structure SaysL (T : Tx) (h : Heap) (K : PySem.W.Frag) : Prop where
  r : SaysR T K
  hd : ∀ t ∈ T.lams, PySem.W.codeHdIn K (He.cT K t.at_).1 (He.cT K t.at_).2 = true
  out : ∀ t ∈ T.lams, K.lookup (He.cT K t.at_).2 = none
  emp : ∀ t ∈ T.lams, h.get? (He.cT K t.at_).2 = some { cls := .none, data := .fields #[] }
abbrev frR (n : Nat) (g : Addr → Option Obj) : PySem.W.Frag := He.frT g (cStatics :: He.asD g n)
def obsRG (n : Nat) (T : Tx) (g : Addr → Option Obj) : He.AlD × Bool := (obsR T (frR n g), He.tabsB g (T.lams.map (·.at_)) (frR n g))
theorem saysL_of {n : Nat} {T : Tx} {h : Heap} (e : obsRG n T h.get? = (valR T, true)) : SaysL T h (frR n h.get?) := by
  have e1 : obsR T (frR n h.get?) = valR T := congrArg (fun z : He.AlD × Bool => z.1) e
  have e2 : He.tabsB h.get? (T.lams.map (·.at_)) (frR n h.get?) = true := congrArg (fun z : He.AlD × Bool => z.2) e
  have key : ∀ t ∈ T.lams, PySem.W.codeHdIn (frR n h.get?) (He.cT (frR n h.get?) t.at_).1 (He.cT (frR n h.get?) t.at_).2 = true ∧ ∃ o, h.get? (He.cT (frR n h.get?) t.at_).2 = some o ∧ He.emptyTab o = true := fun t ht => by
    obtain ⟨h1, h2⟩ := an (List.all_eq_true.mp e2 t.at_ (List.mem_map.mpr ⟨t, ht, rfl⟩))
    refine ⟨h1, ?_⟩
    cases q : h.get? (He.cT (frR n h.get?) t.at_).2 with
    | none => rw [q] at h2; exact RV.no h2
    | some o => rw [q] at h2; exact ⟨o, rfl, h2⟩
  refine ⟨e1, fun t ht => (key t ht).1, fun t ht => ?_, fun t ht => ?_⟩
  · obtain ⟨_, o, h1, h2⟩ := key t ht
    exact He.frT_none h1 h2
  · obtain ⟨_, o, h1, h2⟩ := key t ht
    rw [h1, He.emptyTab_eq h2]
def hookR (n : Nat) (T : Tx) : PySem.W.Hook where
  α := He.AlD × Bool
  obs := fun s => obsRG n T s.heap.get?
  val := fun _ => (valR T, true)
  says := fun _ h => ∃ K : PySem.W.Frag, K.In h ∧ SaysL T h K
  of := fun _ _ e => ⟨_, He.frT_in, saysL_of e⟩
  keeps := fun _ _ _ ⟨K, hK, c⟩ k => ⟨K, PySem.W.Frag.In.keeps hK k, ⟨c.r, c.hd, c.out, fun t ht => k _ _ (c.emp t ht)⟩⟩
theorem obsRG_eq {n : Nat} {T : Tx} {g : Addr → Option Obj} {s : Shared} (h : ∀ a, g a = s.heap.get? a) : obsRG n T g = (hookR n T).obs s := by
  have e : g = s.heap.get? := funext h
  rw [e] <;> rfl
/-! ### the context of the whole text -/
section
variable (T : Tx) (P : Program) (w : World) (K : PySem.W.Frag) (mg : Str → Option Value) (base : Heap)
def fdOf (a : Addr) : FuncData := match K.lookup a with
  | some ⟨_, _, .func fd, _⟩ => fd
  | _ => default
def Tx.pl : Pl := ⟨P, w, K, fun c => match T.cs[c]? with
  | some d => He.ga K d.name
  | none => 0, T.fn, fun c => match T.cs[c]? with
  | some d => d.xf
  | none => "", T.fld.length, T.lams.map fun t => ((He.cT K t.at_).2, t.qual ++ ".<locals>." ++ "<lambda>")⟩
def Tx.fad (f : Nat) : Addr := match T.ds[f]? with
  | some t => He.fAd K t.at_
  | none => 0
def Tx.en : En := ⟨T.pl P w K, T.cfg, mg, base, T.fad K, fun f => fdOf K (T.fad K f)⟩
end
section
variable {T : Tx} {P : Program} {w : World} {K : PySem.W.Frag} {mg : Str → Option Value} {base h : Heap}
theorem SaysR.all (c : SaysR T K) : (∀ f ∈ T.fa, f.ok K = true) ∧ ownB T K = true ∧ ∀ (i : Nat) (t : Dt), T.ds[i]? = some t → FunD K t.name t.qual t.args t.body t.scope [] [] (He.fAd K t.at_) (fdOf K (He.fAd K t.at_)) := by
  obtain ⟨c0, _⟩ := an (show ((T.fa.all fun f => f.ok K) && (ownB T K && T.ds.all fun t => t.dd.ok K) && T.hrd.all (hrdK T K)) = true from congrArg (fun z : He.AlD => z.1) c)
  obtain ⟨c1, c2⟩ := an c0
  obtain ⟨c2, c3⟩ := an c2
  refine ⟨fun f hf => List.all_eq_true.mp c1 f hf, c2, fun i t ht => ?_⟩
  have e : T.ds.map (fun t => He.fnW K t.at_) = T.ds.map (fun t => t.dd.val) := congrArg (fun z : He.AlD => z.2) c
  have e2 : (T.ds.map fun t => He.fnW K t.at_)[i]? = (T.ds.map fun t => t.dd.val)[i]? := by rw [e]
  rw [List.getElem?_map, List.getElem?_map, ht] at e2
  obtain ⟨fd, F⟩ := He.DefD.funD (d := t.dd) (Option.some.inj e2) (List.all_eq_true.mp c3 t (List.mem_of_getElem? ht))
  have F : FunD K t.name t.qual t.args t.body t.scope [] [] (He.fAd K t.at_) fd := F
  have ef : fdOf K (He.fAd K t.at_) = fd := by
    obtain ⟨oc, od, dV, kV, doc, pm, an, cdv, ct, osl, e1, e2, _⟩ := F.ex
    unfold fdOf
    rw [e2]
  rw [ef]
  exact F
theorem SaysR.hrd (c : SaysR T K) : T.hrd.all (hrdK T K) = true := (an (show ((T.fa.all fun f => f.ok K) && (ownB T K && T.ds.all fun t => t.dd.ok K) && T.hrd.all (hrdK T K)) = true from congrArg (fun z : He.AlD => z.1) c)).2
theorem atB_ok {f : Nat} {x m : Str} (h : atB T f x m = true) : ∃ t, T.ds[f]? = some t ∧ t.at_ = (x, some m) := by
  unfold atB at h
  cases q : T.ds[f]? with
  | none => rw [q] at h; exact RV.no h
  | some t =>
    rw [q] at h
    obtain ⟨h1, h2⟩ := an (show (sEq t.at_.1 x && oEq t.at_.2 m) = true from h)
    refine ⟨t, rfl, ?_⟩
    have e1 := sEq_ok h1
    have e2 : t.at_.2 = some m := by
      unfold oEq at h2
      cases z : t.at_.2 with
      | none => rw [z] at h2; exact RV.no h2
      | some n => rw [z] at h2; rw [sEq_ok h2]
    rw [← e1, ← e2]
theorem atB_fad {f : Nat} {x m : Str} (h : atB T f x m = true) : T.fad K f = He.ma K (He.ga K x) m := by
  obtain ⟨t, e1, e2⟩ := atB_ok h
  unfold Tx.fad
  rw [e1]
  show He.fAd K t.at_ = _
  rw [e2]
  rfl
theorem mts_mem : ∀ {cs : List Cd} {i c : Nat} {m : Str} {f : Nat}, (c, m, f) ∈ mtsOf i cs → ∃ j d, c = i + j ∧ cs[j]? = some d ∧ (m, f) ∈ d.mts
  | [], _, _, _, _, h => by cases h
  | d :: r, i, c, m, f, h => by
    rcases List.mem_append.mp (show (c, m, f) ∈ d.mts.map (fun m => (i, m.1, m.2)) ++ mtsOf (i + 1) r from h) with h | h
    · obtain ⟨p, hp, e⟩ := List.mem_map.mp h
      cases e
      exact ⟨0, d, rfl, rfl, hp⟩
    · obtain ⟨j, d', e1, e2, e3⟩ := mts_mem h
      exact ⟨j + 1, d', by omega, e2, e3⟩
theorem own_mem : ∀ {cs : List Cd} {i c : Nat}, c ∈ ownI i cs → ∃ j d, c = i + j ∧ cs[j]? = some d ∧ d.own = true
  | [], _, _, h => by cases h
  | d :: r, i, c, h => by
    rcases List.mem_append.mp (show c ∈ (match d.own with
      | true => [i]
      | false => []) ++ ownI (i + 1) r from h) with h | h
    · cases q : d.own with
      | false => rw [q] at h; cases h
      | true =>
        rw [q] at h
        rw [List.mem_singleton.mp h]
        exact ⟨0, d, rfl, rfl, q⟩
    · obtain ⟨j, d', e1, e2, e3⟩ := own_mem h
      exact ⟨j + 1, d', by omega, e2, e3⟩
theorem Tx.fa_cls {c : Cd} (hc : c ∈ T.cs) {f : He.Fa} (hf : f ∈ clsFa T c) : f ∈ T.fa := List.mem_append_right _ (List.mem_flatMap.mpr ⟨c, hc, hf⟩)
theorem Tx.fa_glo {c : Cd} (hc : c ∈ T.cs) : He.Fa.glo c.name ∈ T.fa := List.mem_append_left _ (List.mem_append_left _ (List.mem_append_left _ (List.mem_append_right _ (List.mem_map.mpr ⟨c, hc, rfl⟩))))
theorem Tx.fa_fn {t : Dt} (ht : t ∈ T.ds) {x : Str} (e : t.at_ = (x, none)) : He.Fa.glo x ∈ T.fa := List.mem_append_left _ (List.mem_append_left _ (List.mem_append_left _ (List.mem_append_left _ (List.mem_flatMap.mpr ⟨t, ht, by
  unfold gloFa
  rw [e]
  exact List.mem_cons_self ..⟩))))
theorem Tx.fa_free {x : Str} (hx : x ∈ bNames) : He.Fa.free x ∈ T.fa := List.mem_append_left _ (List.mem_append_left _ (List.mem_append_right _ (List.mem_map.mpr ⟨x, hx, rfl⟩)))
theorem Tx.fa_glb {p : Str × PV} (hp : p ∈ T.glb) {f : He.Fa} (hf : f ∈ glbFa p) : f ∈ T.fa := List.mem_append_left _ (List.mem_append_right _ (List.mem_flatMap.mpr ⟨p, hp, hf⟩))
theorem parB_ok {a : Arguments} {ps : List Str} (h : parB a ps = true) : a.posonlyargs = [] ∧ a.kwonlyargs = [] ∧ a.vararg = none ∧ a.kwarg = none ∧ a.args.map (·.arg) = ps := by
  obtain ⟨h, h5⟩ := an h
  obtain ⟨h, h4⟩ := an h
  obtain ⟨h, h3⟩ := an h
  obtain ⟨h1, h2⟩ := an h
  exact ⟨List.isEmpty_iff.mp h1, List.isEmpty_iff.mp h2, Option.isNone_iff_eq_none.mp h3, Option.isNone_iff_eq_none.mp h4, eqS_ok h5⟩
theorem FunD.par {t : Dt} {f : Addr} {fd : FuncData} (F : FunD K t.name t.qual t.args t.body t.scope [] [] f fd) (q : parB t.args t.ps = true) : Par fd t.ps := by
  obtain ⟨oc, od, dV, kV, doc, pm, an, cdv, ct, osl, rfl, e2, _, e3, _⟩ := F.ex
  obtain ⟨h1, h2, h3, h4, h5⟩ := parB_ok q
  rcases e3 with ⟨_, e3⟩ | ⟨e3, _⟩
  · exact ⟨h1, h2, h3, h4, e3, h5⟩
  · exact absurd rfl e3
theorem fns_at {f : Nat} {x : Option Str} {ps : List Str} (e : T.zt.fns[f]? = some (x, ps)) : ∃ t, T.ds[f]? = some t ∧ x = t.gn ∧ ps = t.ps := by
  have e : (T.ds.map fun t => (t.gn, t.ps))[f]? = some (x, ps) := e
  rw [List.getElem?_map] at e
  cases q : T.ds[f]? with
  | none => rw [q] at e; cases e
  | some t =>
    rw [q] at e
    cases e
    exact ⟨t, rfl, rfl, rfl⟩
theorem gn_some {t : Dt} {x : Str} (h : t.gn = some x) : t.at_ = (x, none) := by
  unfold Dt.gn at h
  obtain ⟨⟨z1, z2⟩, z3⟩ := (⟨t.at_, rfl⟩ : Subtype fun z => t.at_ = z)
  rw [z3] at h ⊢
  cases z2 with
  | none =>
    have h : some z1 = some x := h
    cases h
    rfl
  | some _ => cases h
theorem cls_some {α : Type} {c : Nat} {g : Cd → Option α} {a : α} (h : (match T.cs[c]? with
    | some d => g d
    | none => none) = some a) : ∃ d, T.cs[c]? = some d ∧ g d = some a := by
  cases q : T.cs[c]? with
  | none => rw [q] at h; cases h
  | some d => rw [q] at h; exact ⟨d, rfl, h⟩
theorem Tx.ca {c : Nat} {d : Cd} (h : T.cs[c]? = some d) : (T.pl P w K).ca c = He.ga K d.name := by
  show (match T.cs[c]? with
    | some d => He.ga K d.name
    | none => 0) = _
  rw [h]
theorem clsB_ok {c : Cd} (h : clsB T c = true) : (∀ f, c.ini = some f → atB T f c.name "__init__" = true) ∧ (∀ f, c.eqm = some f → atB T f c.name "__eq__" = true ∧ bindOk (psAt T f) 2 [] [] = true) ∧ (∀ f ∈ c.fld, f < T.fld.length) ∧ ∀ m ∈ c.mts, atB T m.2 c.name m.1 = true ∧ m.1 ∉ T.fld := by
  obtain ⟨h, h4⟩ := an h
  obtain ⟨h, h3⟩ := an h
  obtain ⟨h1, h2⟩ := an h
  refine ⟨fun f e => ?_, fun f e => ?_, fun f hf => ?_, fun m hm => ?_⟩
  · rw [e] at h1; exact h1
  · rw [e] at h2; exact an h2
  · exact Nat.le_of_ble_eq_true (List.all_eq_true.mp h3 f hf)
  · obtain ⟨z1, z2⟩ := an (List.all_eq_true.mp h4 m hm)
    exact ⟨z1, hasN_no (notB z2)⟩
theorem fld_cls {c : Cd} (h : c.fld ≠ [] ∨ c.mts ≠ [] ∨ c.own = true) : He.Fa.cls c.name ∈ clsFa T c := by
  have e : (c.fld.isEmpty && c.mts.isEmpty && !c.own) = false := by
    rcases h with h | h | h
    · cases q : c.fld with
      | nil => exact absurd q h
      | cons _ _ => rfl
    · cases q : c.mts with
      | nil => exact absurd q h
      | cons _ _ => cases c.fld <;> rfl
    · rw [h]
      simp
  unfold clsFa
  rw [e]
  exact List.mem_append_left _ (List.mem_append_left _ (List.mem_append_right _ (List.mem_cons_self ..)))
theorem fn_get {f : Nat} {x : Str} (h : T.fld[f]? = some x) : T.fn f = x := by
  unfold Tx.fn
  rw [h]
theorem exs_mem : ∀ {cs : List Cd} {i c : Nat} {f : Str}, (c, f) ∈ exsOf i cs → ∃ j d, c = i + j ∧ cs[j]? = some d ∧ d.exn = true ∧ d.xf = f
  | [], _, _, _, h => by cases h
  | d :: r, i, c, f, h => by
    rcases List.mem_append.mp (show (c, f) ∈ (match d.exn with
      | true => [(i, d.xf)]
      | false => []) ++ exsOf (i + 1) r from h) with h | h
    · cases e : d.exn with
      | false => rw [e] at h; cases h
      | true =>
        rw [e] at h
        cases List.mem_singleton.mp h
        exact ⟨0, d, rfl, rfl, e, rfl⟩
    · obtain ⟨j, d', e1, e2, e3⟩ := exs_mem h
      exact ⟨j + 1, d', by omega, e2, e3⟩
/-- the text is the program's -/
structure FileOk (T : Tx) (P : Program) : Prop where
  file : P.main.file = T.file
  sup : (P.main.scope.names.lookup ("super" : Str)).isSome = false
theorem hrd_of {f cid : Nat} {t : Dt} {x gn cn wd xf : Str} {G C fI : Addr} (ef : T.fad K f = He.fAd K t.at_) (gname : t.at_ = (x, none)) (F : FunD K t.name t.qual t.args t.body t.scope [] [] (He.fAd K t.at_) (fdOf K (He.fAd K t.at_))) (par : Par (fdOf K (He.fAd K t.at_)) t.ps) (hb : hbB t gn cn wd xf = true)
    (mx : mg x = some (.ref (He.fAd K t.at_))) (mG : mg gn = some (.ref G)) (mC : mg cn = some (.ref C)) (mi : mg "isinstance" = none) (eG : PySem.W.exmOne K (.ref C) (.ref G) = some true) (hca : (T.pl P w K).ca cid = C) (hxf : (T.pl P w K).xf cid = xf) (X1 : XcT P K C fI xf) (Y : XiT K C) :
    HrdOk (T.en P w K mg base) f x [(cid, wd)] := by
  unfold hbB at hb
  split at hb
  · rename_i a _ _ _ _ g _ e i _ e1 _ c _ _ v _ _ e2 _ fl _ _ _ odd _ _ _ _ heq
    simp only [Bool.and_eq_true] at hb
    obtain ⟨b1, b2, b3, b4, b5, b6, b7, b8, b9, b10, b11, b12, b13, b14, b15, b16, b17, b18, b19, b20, b21⟩ := hb
    cases sEq_ok b1
    cases sEq_ok b2
    cases sEq_ok b3
    cases sEq_ok b4
    cases sEq_ok b5
    cases sEq_ok b6
    cases sEq_ok b7
    have eps := eqS_ok b9
    have eN : t.N = [a, e] := by
      unfold inN2 at b8
      split at b8
      · rename_i y z hN
        obtain ⟨z1, z2⟩ := an b8
        rw [hN, sEq_ok z1, sEq_ok z2]
      · exact RV.no b8
    have en : t.name = x := by rw [sEq_ok b20, gname]
    have eq : t.qual = x := by rw [sEq_ok b21, gname]
    have sc := scB_ok b10
    rw [eN, eps] at sc
    obtain ⟨oc, od, dV, kV, doc, pm, an, cdv, ct, osl, efd, lk, hcd, _, _⟩ := F.ex
    rw [en, eq] at efd
    rw [eq] at hcd
    rw [efd] at lk
    have par2 := par
    rw [eps] at par2
    rw [efd] at par2
    refine ⟨a, [a, e], t.scope, t.args, t.body, dV, kV, doc, pm, an, cdv, ct, oc, od, osl, ?_, ?_, ?_, hcd, fun s u => ?_, sc, rfl, .inl ?_, ndb_1 b16, ndb_2 b16, fun X' p1 p2 p3 => ?_⟩
    · show mg x = some (.ref (T.fad K f))
      rw [ef]; exact mx
    · show PySem.W.keepIn K (.ref (T.fad K f)) = true
      rw [ef]; exact F.kp
    · show K.lookup (T.fad K f) = _
      rw [ef]; exact lk
    · exact .of_eq (bind_reorder (us := [u]) (ws := []) (ks := []) (perm := []) par2 (by rfl) rfl)
    · rw [← lkp_eq]; exact kB_ok b11
    · rw [heq]
      have nd := sc.nd
      have q3 : X'.mg = mg := p3
      have q2 : X'.K = K := p2
      have q1 : X'.prog = P := p1
      rw [← hxf]
      exact heard1 (L := T.pl P w K) (c := cid) nd (by rw [← lkp_eq]; exact kB_ok b11) (by rw [← lkp_eq]; exact kB_ok b12) (by rw [← lkp_eq]; exact kB_ok b13) (by rw [← lkp_eq]; exact kB_ok b14) (by rw [← lkp_eq]; exact kB_ok b15) (by rw [q3]; exact mi) ⟨G, by rw [q3]; exact mG, by rw [q2, hca]; exact eG⟩ (by rw [q3, hca]; exact mC)
        (ndb_1 b18) (ndb_1 b19) (ndb_1 b17) (ndb_2 b17) (by rw [q1, q2, hca, hxf]; exact X1) (by rw [q2, hca]; exact Y)
  · exact RV.no hb
theorem fx0 (fo : FileOk T P) (q : txB T = true) (c : SaysR T K) (X : K.In h) (G : h.Ns mainGlobals mg) : Fx0 T.zt (T.en P w K mg base) := by
  obtain ⟨q, qh⟩ := an q
  obtain ⟨qh, _⟩ := an qh
  obtain ⟨q, q4⟩ := an q
  obtain ⟨q, q3⟩ := an q
  obtain ⟨q1, q2⟩ := an q
  obtain ⟨a1, a2, a3⟩ := c.all
  have hc : ∀ {c : Nat} {d : Cd}, T.cs[c]? = some d → d ∈ T.cs ∧ _ := fun e => ⟨List.mem_of_getElem? e, clsB_ok (List.all_eq_true.mp q2 _ (List.mem_of_getElem? e))⟩
  have fad : ∀ {f : Nat} {t : Dt}, T.ds[f]? = some t → T.fad K f = He.fAd K t.at_ := fun {f t} e => by
    unfold Tx.fad
    rw [e]
  refine ⟨fun f x ps e => ?_, fun f x ps e => ?_, fun c x e => ?_, fun c f e => ?_, fun c m f e => ?_, fun c e => ?_, fun f x e => fn_get e, ⟨fun i j hi hj e => ?_, fun c f e => ?_⟩, fun x i e => ?_, fun x z e => ?_, fun x hx => ?_, fun c f e => ?_, fun c f e => ?_, fun c f e => ?_, fun f hs x ps m e => ?_⟩
  · obtain ⟨t, e1, _, rfl⟩ := fns_at e
    show Par (fdOf K (T.fad K f)) t.ps
    rw [fad e1]
    exact FunD.par (a3 f t e1) (List.all_eq_true.mp q1 t (List.mem_of_getElem? e1))
  · obtain ⟨t, e1, e2, rfl⟩ := fns_at e
    have e3 := gn_some e2.symm
    have kp := (a3 f t e1).kp
    show PySem.W.keepIn K (.ref (T.fad K f)) = true ∧ mg x = some (.ref (T.fad K f))
    rw [fad e1]
    refine ⟨kp, ?_⟩
    rw [e3]
    exact He.glo_ok X G (a1 _ (Tx.fa_fn (List.mem_of_getElem? e1) e3))
  · have e : (T.cs.map (·.name))[c]? = some x := e
    rw [List.getElem?_map] at e
    cases z : T.cs[c]? with
    | none => rw [z] at e; cases e
    | some d =>
      rw [z] at e
      cases e
      show mg d.name = some (.ref ((T.pl P w K).ca c))
      rw [Tx.ca z]
      exact He.glo_ok X G (a1 _ (Tx.fa_glo (List.mem_of_getElem? z)))
  · obtain ⟨d, e1, e2⟩ := cls_some (g := Cd.ini) e
    obtain ⟨m, k1, _⟩ := hc e1
    show Mk K ((T.pl P w K).ca c) (T.fad K f)
    rw [Tx.ca e1, atB_fad (k1 f e2)]
    refine He.mkr_ok (a1 _ (Tx.fa_cls m ?_))
    unfold clsFa
    rw [e2]
    exact List.mem_append_left _ (List.mem_append_left _ (List.mem_append_left _ (List.mem_cons_self ..)))
  · obtain ⟨j, d, e0, e1, e2⟩ := mts_mem e
    have e0 : c = j := by omega
    subst e0
    obtain ⟨m', _, _, _, k4⟩ := hc e1
    obtain ⟨k5, k6⟩ := k4 _ e2
    show Cls K ((T.pl P w K).ca c) ∧ Meth K ((T.pl P w K).ca c) m (T.fad K f) ∧ ∀ j, j < T.fld.length → T.fn j ≠ m
    rw [Tx.ca e1, atB_fad k5]
    refine ⟨He.cls_ok (a1 _ (Tx.fa_cls m' (fld_cls (.inr (.inl fun z => by rw [z] at e2; cases e2))))), He.meth_ok (a1 _ (Tx.fa_cls m' ?_)), fun j hj z => ?_⟩
    · unfold clsFa
      exact List.mem_append_right _ (List.mem_map.mpr ⟨_, e2, rfl⟩)
    · have e4 : T.fld[j]? = some T.fld[j] := List.getElem?_eq_getElem hj
      rw [fn_get e4] at z
      exact k6 (by show m ∈ T.fld; rw [← z]; exact List.getElem_mem hj)
  · obtain ⟨j, d, e0, e1, e2⟩ := own_mem e
    have e0 : c = j := by omega
    subst e0
    obtain ⟨m', _⟩ := hc e1
    have o := (an (an (List.all_eq_true.mp a2 d m')).1).2
    rw [e2] at o
    have o : tycB K (He.ga K d.name) = true := o
    obtain ⟨o1, o⟩ := an o
    obtain ⟨o2, o⟩ := an o
    obtain ⟨o3, o4⟩ := an o
    show TyC K ((T.pl P w K).ca c)
    rw [Tx.ca e1]
    exact ⟨He.cls_ok (a1 _ (Tx.fa_cls m' (fld_cls (.inr (.inr e2))))), He.eqO_ok o1, He.eqO_ok o2, of_decide_eq_true o3, of_decide_eq_true o4⟩
  · have hi : i < T.fld.length := hi
    have hj : j < T.fld.length := hj
    have e4 : T.fld[i]? = some T.fld[i] := List.getElem?_eq_getElem hi
    have e5 : T.fld[j]? = some T.fld[j] := List.getElem?_eq_getElem hj
    have e : T.fn i = T.fn j := e
    rw [fn_get e4, fn_get e5] at e
    exact (List.getElem?_inj hi (nodupB_ok q3)).mp (by rw [e4, e5, e])
  · have e : f ∈ (match T.cs[c]? with
      | some d => d.fld
      | none => []) := e
    cases z : T.cs[c]? with
    | none => rw [z] at e; cases e
    | some d =>
      rw [z] at e
      have e : f ∈ d.fld := e
      obtain ⟨m', _, _, k3, _⟩ := hc z
      show f < T.fld.length ∧ Cls K ((T.pl P w K).ca c) ∧ NoAttr K ((T.pl P w K).ca c) (T.fn f)
      rw [Tx.ca z]
      refine ⟨k3 f e, He.cls_ok (a1 _ (Tx.fa_cls m' (fld_cls (.inl fun z => by rw [z] at e; cases e)))), He.noat_ok (a1 _ (Tx.fa_cls m' ?_))⟩
      unfold clsFa
      exact List.mem_append_left _ (List.mem_append_right _ (List.mem_map.mpr ⟨f, e, rfl⟩))
  · exact He.int_ok X G (a1 _ (Tx.fa_glb e (List.mem_cons_self ..)))
  · exact He.str_ok X G (a1 _ (Tx.fa_glb e (List.mem_cons_self ..)))
  · exact He.free_ok X G (a1 _ (Tx.fa_free hx))
  · obtain ⟨d, e1, e2⟩ := cls_some (g := Cd.eqm) e
    obtain ⟨m', _, k2, _⟩ := hc e1
    obtain ⟨k3, k4⟩ := k2 f e2
    obtain ⟨t, e3, _⟩ := atB_ok k3
    refine ⟨t.gn, t.ps, ?_, ?_⟩
    · show (T.ds.map fun t => (t.gn, t.ps))[f]? = _
      rw [List.getElem?_map, e3]
      rfl
    · unfold psAt at k4
      rw [e3] at k4
      exact k4
  · obtain ⟨d, e1, e2⟩ := cls_some (g := Cd.eqm) e
    obtain ⟨m', _, k2, _⟩ := hc e1
    obtain ⟨k3, k4⟩ := k2 f e2
    have o := (an (an (List.all_eq_true.mp a2 d m')).1).1
    rw [e2] at o
    have o : eqcB K (He.ga K d.name) = true := o
    obtain ⟨o1, o⟩ := an o
    obtain ⟨o2, o⟩ := an o
    obtain ⟨o3, o4⟩ := an o
    show PySem.W.findIn K (.ref ((T.pl P w K).ca c)) "__eq__" = some (some (.ref (T.fad K f))) ∧ PySem.W.findIn K (.ref ((T.pl P w K).ca c)) "__ne__" = some (some (.builtin "object.__ne__")) ∧ PySem.W.isFn K (.ref (T.fad K f)) = true ∧ PySem.W.mroIn K ((T.pl P w K).ca c) (.type "object") = some true
    rw [Tx.ca e1, atB_fad k3]
    exact ⟨He.eqO_ok o1, He.eqO_ok o2, o3, of_decide_eq_true o4⟩
  · obtain ⟨j, d, e0, e1, e2, e3⟩ := exs_mem e
    have e0 : c = j := by omega
    subst e0
    have o := (an (List.all_eq_true.mp a2 d (List.mem_of_getElem? e1))).2
    rw [e2] at o
    have o : xcB T.file K (He.ga K d.name) d.xf = true := o
    have xf : (T.pl P w K).xf c = d.xf := by
      show (match T.cs[c]? with
        | some d => d.xf
        | none => "") = _
      rw [e1]
    obtain ⟨x1, x2⟩ := xcB_ok (P := P) o fo.file fo.sup
    show (∃ fI, XcT P K ((T.pl P w K).ca c) fI ((T.pl P w K).xf c)) ∧ (T.pl P w K).xf c = f ∧ PySem.W.exmOne K (.ref ((T.pl P w K).ca c)) (.ref ((T.pl P w K).ca c)) = some true
    rw [Tx.ca e1, xf]
    exact ⟨⟨_, x1⟩, e3, x2⟩
  · obtain ⟨p, hp, ep⟩ := List.mem_map.mp m
    obtain ⟨f', gid, hs'⟩ := p
    have ep1 : f' = f := congrArg Prod.fst ep
    have ep2 : hs' = hs := congrArg Prod.snd ep
    subst ep1 ep2
    obtain ⟨t, e1, e2, rfl⟩ := fns_at e
    have hb := List.all_eq_true.mp qh _ hp
    have hk := List.all_eq_true.mp c.hrd _ hp
    unfold hrdB at hb
    unfold hrdK at hk
    dsimp only at hb hk
    rw [e1] at hb
    dsimp only at hb
    cases eg : T.cs[gid]? with
    | none => rw [eg] at hb; exact RV.no hb
    | some G =>
      rw [eg] at hb hk
      dsimp only at hb hk
      rcases hs' with _ | ⟨⟨cid, wd⟩, _ | ⟨h2, hr⟩⟩
      · exact RV.no hb
      · dsimp only at hb hk
        cases ec : T.cs[cid]? with
        | none => rw [ec] at hb; exact RV.no hb
        | some C =>
          rw [ec] at hb hk
          dsimp only at hb hk
          obtain ⟨cx, hb⟩ := an hb
          obtain ⟨k1, k2⟩ := an hk
          obtain ⟨k2, k3⟩ := an k2
          obtain ⟨k4, k3⟩ := an k3
          obtain ⟨k5, k3⟩ := an k3
          obtain ⟨k6, k7⟩ := an k3
          have o := (an (List.all_eq_true.mp a2 C (List.mem_of_getElem? ec))).2
          rw [cx] at o
          obtain ⟨x1, x2⟩ := xcB_ok (P := P) o fo.file fo.sup
          have xf : (T.pl P w K).xf cid = C.xf := by
            show (match T.cs[cid]? with
              | some d => d.xf
              | none => "") = _
            rw [ec]
          have gname := gn_some e2.symm
          have mx : mg x = some (.ref (He.fAd K t.at_)) := by
            rw [gname]
            exact He.glo_ok X ‹h.Ns mainGlobals mg› (a1 _ (Tx.fa_fn (List.mem_of_getElem? e1) gname))
          have mG : mg G.name = some (.ref (He.ga K G.name)) := He.glo_ok X ‹h.Ns mainGlobals mg› (a1 _ (Tx.fa_glo (List.mem_of_getElem? eg)))
          have mC : mg C.name = some (.ref (He.ga K C.name)) := He.glo_ok X ‹h.Ns mainGlobals mg› (a1 _ (Tx.fa_glo (List.mem_of_getElem? ec)))
          have mi : mg "isinstance" = none := He.free_ok X ‹h.Ns mainGlobals mg› (a1 _ (Tx.fa_free (by decide)))
          exact hrd_of (fad e1) gname (a3 f' t e1) (FunD.par (a3 f' t e1) (List.all_eq_true.mp q1 t (List.mem_of_getElem? e1))) hb mx mG mC mi (of_decide_eq_true k1) (Tx.ca ec) xf x1 ⟨k2, He.eqO_ok k4, He.eqO_ok k5, of_decide_eq_true k6, of_decide_eq_true k7⟩
      · exact RV.no hb
/-- what a def that holds lambdas is told -/
theorem lam_of (q : txB T = true) (c : SaysL T h K) (tb : ∀ t ∈ T.lams, LamX.TabB base mg (He.cT K t.at_).1 (He.cT K t.at_).2) {t : Dt} (ht : t ∈ T.ds) (F : FunD K t.name t.qual t.args t.body t.scope [] [] (He.fAd K t.at_) (fdOf K (He.fAd K t.at_))) (z : t.lam = true) :
    ∃ cc Pt, (fdOf K (He.fAd K t.at_)).code = .ref cc ∧ LamX.TabB base mg cc Pt ∧ (Pt, t.qual ++ ".<locals>." ++ "<lambda>") ∈ (T.pl P w K).T ∧ ∀ p ∈ (T.pl P w K).T, p.1 = Pt → p.2 = t.qual ++ ".<locals>." ++ "<lambda>" := by
  have m : t ∈ T.lams := List.mem_filter.mpr ⟨ht, z⟩
  refine ⟨_, _, ?_, tb t m, List.mem_map.mpr ⟨t, m, rfl⟩, fun p hp _ => ?_⟩
  · obtain ⟨oc, od, dV, kV, doc, pm, an_, cdv, ct, osl, e1, e2, e3, _, _⟩ := F.ex
    rw [e1]
    obtain ⟨cc, ecc⟩ : ∃ cc, cdv = .ref cc := by
      have hd := c.hd t m
      cases cdv with
      | ref cc => exact ⟨cc, rfl⟩
      | _ => cases e3
    show cdv = .ref (He.codeOf K t.at_)
    rw [ecc, He.codeOf_eq e2 (by rw [e1]; exact ecc)]
  · have q : Nat.ble T.lams.length 1 = true := (an (an q).2).2
    have q := Nat.le_of_ble_eq_true q
    obtain ⟨t2, m2, e⟩ := List.mem_map.mp (show p ∈ T.lams.map _ from hp)
    have : t2 = t := by
      match hl : T.lams, m, m2, q with
      | [u], m, m2, _ => rw [List.mem_singleton.mp m, List.mem_singleton.mp m2]
      | [], m, _, _ => cases m
      | _ :: _ :: _, _, _, q => simp at q
    rw [← e, this]
/-- every def keeps its promise, to any depth -/
theorem fnA {g : Heap} (fo : FileOk T P) (q : txB T = true) (c : SaysL T h K) (X : K.In g) (G : g.Ns mainGlobals mg) (tb : ∀ t ∈ T.lams, LamX.TabB base mg (He.cT K t.at_).1 (He.cT K t.at_).2) : ∀ n, FnA T.zt (T.en P w K mg base) (Phi T.cfg T.tbl n) (4 * n)
  | 0 => fun f x ps e => fn_fail fun _ _ _ => rfl
  | n + 1 => fun f x ps e => by
    have fx := fx0 (P := P) (w := w) (base := base) fo q c.r X G
    have ih := fnA fo q c X G tb n
    obtain ⟨t, e1, e2, rfl⟩ := fns_at e
    obtain ⟨a1, a2, a3⟩ := c.r.all
    have F := a3 f t e1
    obtain ⟨_, q4⟩ := an (an q).1
    have qt := List.all_eq_true.mp q4 t (List.mem_of_getElem? e1)
    show FnO P w K mg base (L2.CX P w) (4 * n + 4) (T.fad K f) (fdOf K (T.fad K f)) t.ps (spF (T.pl P w K) (match T.tbl f with
      | some df => runDef T.cfg (Phi T.cfg T.tbl n) df
      | none => fun _ _ _ => .fail))
    have et : T.tbl f = t.d := by
      unfold Tx.tbl
      rw [e1]
    have ea : T.fad K f = He.fAd K t.at_ := by
      unfold Tx.fad
      rw [e1]
    rw [et, ea]
    cases z : t.d with
    | none => exact fn_fail fun _ _ _ => rfl
    | some df =>
      rw [z] at qt
      exact def_ok fx ih qt F fun y => lam_of q c tb (List.mem_of_getElem? e1) F y
end
end RV
end
section
/-! RVEnd: from the denotation of the law to the law. -/
namespace RV
open PySem PySem.Spec PyProof.Rows L2
def mu0 : Mu := ⟨fun _ => none, fun _ => False⟩
theorem rel0 {L : Pl} {H : Hp} (ht : ∀ p ∈ L.T, H p.1 = some (.tbl #[])) : RelS L mu0 H [] where
  obj := fun n o e => by simp at e
  inj := fun n m a e => by cases e
  dom := fun n a e => by cases e
  hid := fun a e => False.elim e
  tab := fun p hp => ⟨⟨(fun n e => by cases e), fun e => e⟩, #[], ht p hp, True.intro, fun pos cv e => by
    have z : codeAmong pos [] = some cv := e
    simp [codeAmong] at z⟩
theorem scr_of {L : Pl} {H : Hp} {a : Addr} {ns : List Int} (h : SqL L.K H a (ns.map V.int)) : ∃ v, IsScr ns v ∧ RelP L mu0 H v (.ref a) := by
  rcases h with (h | ⟨o, h⟩) | h
  · exact ⟨_, .inr rfl, a, _, rfl, h, ⟨(fun n z => by cases z), fun z => z⟩, rel_nums ns⟩
  · exact ⟨_, .inl rfl, a, _, rfl, .inl ⟨o, h⟩, rel_nums ns⟩
  · exact ⟨_, .inl rfl, a, _, rfl, .inr h, rel_nums ns⟩
/-! ### the script and the tables, and nothing else, are tracked at the start -/
section
variable {P : Program} {w : World} {K : PySem.W.Frag} {mg mb : Str → Option Value} {k : Nat} {fa a : Addr} {cs : List (Addr × Addr)} {fd : FuncData} {sp : Sp} {s₁ : Shared} {vs : List Value} {ns : List Int}
/-- what is known of the heap in which the law is called -/
structure AtLaw (K : PySem.W.Frag) (mg mb : Str → Option Value) (cs : List (Addr × Addr)) (s : Shared) (a : Addr) (vs : List Value) (ns : List Int) : Prop where
  kx : K.In s.heap
  g : s.heap.Ns mainGlobals mg
  b : s.heap.Ns builtinsNs mb
  bb : ∀ x : Str, x ≠ "__name__" → mb x = bootBuiltins x
  lim : s.heap.NoLimit
  gens : s.gens = #[]
  emp : ∀ p ∈ cs, s.heap.get? p.2 = some { cls := .none, data := .fields #[] }
  out : ∀ p ∈ cs, K.lookup p.2 = none
  code : ∀ p ∈ cs, PySem.W.CodeHd s.heap p.1 p.2
  bm : ∃ (bm : Addr) (ob : Obj), mg "__builtins__" = some (.ref bm) ∧ bm ≠ builtinsNs ∧ s.heap.get? bm = some ob ∧ ob.cls = .type "module" ∧ ob.dict = some builtinsNs ∧ ob.data = .plain
  scr : s.heap.get? a = some { cls := .type "list", data := .seq vs.toArray }
  its : IntsAre vs ns
  len : ns.length ≤ sizeLine
/-- an abstract heap of that kind -/
structure Few (K : PySem.W.Frag) (cs : List (Addr × Addr)) (a : Addr) (ns : List Int) (H : Hp) : Prop where
  tab : ∀ p ∈ cs, H p.2 = some (.tbl #[])
  is_ : ∀ b, H b = none ∨ (∃ p ∈ cs, p.2 = b) ∨ (b = a ∧ K.lookup a = none ∧ ∃ o xs, H b = some (.frz o (.lst xs)))
  sq : SqL K H a (ns.map V.int)
theorem AtLaw.few (W : AtLaw K mg mb cs s₁ a vs ns) : ∃ H, Few K cs a ns H ∧ HOk P w H s₁.heap := by
  have rv := vals_ints W.its
  have lv := W.its.length
  have na : ∀ p ∈ cs, p.2 ≠ a := fun p hp z => by
    have e := W.emp p hp
    rw [z, W.scr] at e
    have e : Data.seq vs.toArray _ = Data.fields #[] := congrArg Obj.data (Option.some.inj e)
    cases e
  let T : Addr → Prop := fun b => ∃ p ∈ cs, p.2 = b
  have hT : ∀ b, T b → s₁.heap.get? b = some { cls := .none, data := .fields #[] } := fun b ⟨p, hp, e⟩ => e ▸ W.emp p hp
  open Classical in
  cases hk : K.lookup a with
  | some o =>
    have e := W.kx a o hk
    rw [W.scr] at e
    cases e
    refine ⟨fun b => if T b then some (.tbl #[]) else none, ⟨fun p hp => if_pos ⟨p, hp, rfl⟩, fun b => ?_, .inr ⟨_, vs.toArray, _, hk, rfl, rfl, rfl, by rw [List.size_toArray, lv]; exact W.len, by simpa using rv⟩⟩, fun b u z => ?_⟩
    · by_cases hb : T b
      · exact .inr (.inl hb)
      · exact .inl (if_neg hb)
    · by_cases hb : T b
      · cases (if_pos hb).symm.trans z
        exact hT b hb
      · cases (if_neg hb).symm.trans z
  | none =>
    refine ⟨fun b => if T b then some (.tbl #[]) else if b = a then some (.frz { cls := .type "list", data := .seq vs.toArray } (.lst (ns.map V.int))) else none,
      ⟨fun p hp => if_pos ⟨p, hp, rfl⟩, fun b => ?_, .inl (.inr ⟨{ cls := .type "list", data := .seq vs.toArray }, (if_neg fun ⟨p, hp, e⟩ => na p hp e).trans (if_pos rfl)⟩)⟩, fun b u z => ?_⟩
    · by_cases hb : T b
      · exact .inr (.inl hb)
      · by_cases h2 : b = a
        · exact .inr (.inr ⟨h2, hk, _, _, (if_neg hb).trans (if_pos h2)⟩)
        · exact .inl ((if_neg hb).trans (if_neg h2))
    · by_cases hb : T b
      · cases (if_pos hb).symm.trans z
        exact hT b hb
      · have z1 := (if_neg hb).symm.trans z
        by_cases h2 : b = a
        · cases (if_pos h2).symm.trans z1
          rw [h2]
          exact ⟨W.scr, by rw [List.length_map]; exact W.len, vs, _, rv, W.scr⟩
        · cases (if_neg h2).symm.trans z1
/-- the law is called -/
theorem law_callR (W : AtLaw K mg mb cs s₁ a vs ns) (hr : Rm k callerA) (F : ∀ base : Heap, K.In base → base.Ns mainGlobals mg → (∀ p ∈ cs, LamX.TabB base mg p.1 p.2) → FnO P w K mg base (L2.CX P w) k fa fd [("script" : Str)] sp)
    (hbind : ∀ (s : Shared) (u : Value), BindsTo s fd ⟨[u], []⟩ [("script", u)]) (hsp : ∀ H : Hp, (∀ p ∈ cs, H p.2 = some (.tbl #[])) → SqL K H a (ns.map V.int) → sp [.ref a] H (fun v _ => v = .bl true) fun _ _ _ => False) :
    codeAny (model P w) callerA (.call (.ref fa) ⟨[.ref a], []⟩) (fun r s' => r = .ok (.ret (.bool true)) ∧ OldK s₁.heap s'.heap ∧ s'.os = s₁.os ∧ AllBare s'.gens) s₁ := by
  obtain ⟨H, few, hok⟩ := W.few (P := P) (w := w)
  have off : ∀ {b : Addr} {o : Obj}, s₁.heap.get? b = some o → (∀ vs n, o.data ≠ .seq vs n) → o.data ≠ .fields #[] → H b = none := fun {b o} e h1 h2 => by
    rcases few.is_ b with z | ⟨p, hp, z⟩ | ⟨z, _, _⟩
    · exact z
    · rw [← z, W.emp p hp] at e
      cases e
      exact (h2 rfl).elim
    · rw [z, W.scr] at e
      cases e
      exact (h1 _ _ rfl).elim
  have offD : ∀ {b : Addr} {o : Obj} {es : Array DictEntry} {ep : Nat}, s₁.heap.get? b = some o → o.data = .dict es ep → H b = none := fun e d => off e (fun _ _ z => by rw [d] at z; cases z) (fun z => by rw [d] at z; cases z)
  have ns_ : ∀ {b : Addr} {m : Str → Option Value}, s₁.heap.Ns b m → (hidT s₁.heap H).Ns b m := fun ⟨o, es, ep, e, d, r⟩ => ⟨o, es, ep, hidT_get e (offD e d), d, r⟩
  have kb : K.In (hidT s₁.heap H) := fun b o e => hidT_get (W.kx b o e) (by
    rcases few.is_ b with z | ⟨p, hp, z⟩ | ⟨z, n, _⟩
    · exact z
    · rw [← z, W.out p hp] at e; cases e
    · rw [z, n] at e; cases e)
  have TB : ∀ p ∈ cs, LamX.TabB (hidT s₁.heap H) mg p.1 p.2 := fun p hp => by
    have hTp := W.emp p hp
    refine ⟨?_, ?_, fun z => ?_⟩
    · obtain ⟨o, us, file, tf, flags, tg, inF, text, tt, e1, r1, r2, r3, r4, r5, r6, r7, r8, hne⟩ := W.code p hp
      refine ⟨o, us, file, tf, flags, tg, inF, text, tt, hidT_get e1 (off e1 (fun _ _ z => by rw [r2] at z; cases z) fun z => ?_), r1, r2, r3, r4, r5, r6, r7, r8, hne⟩
      rw [r2] at z
      cases z
      simp at r3
    · obtain ⟨bm, ob, b1, b2, b3, b4, b5, b6⟩ := W.bm
      refine ⟨bm, ob, b1, b2, fun q => ?_, fun q => ?_, hidT_get b3 (off b3 (fun _ _ z => by rw [b6] at z; cases z) fun z => by rw [b6] at z; cases z), b4, b5, b6⟩
      · obtain ⟨o, es, ep, e, hd, _⟩ := W.g
        rw [q, e] at b3
        cases b3
        rw [hd] at b6
        cases b6
      · rw [q, hTp] at b3
        cases b3
        cases b6
    · obtain ⟨o, es, ep, e, hd, _⟩ := W.g
      rw [z, hTp] at e
      cases e
      cases hd
  have md : L2.Mod K mg (hidT s₁.heap H) := ⟨kb, ns_ W.g, ⟨mb, ns_ W.b, W.bb⟩, let ⟨mc, h1, h2⟩ := W.lim; ⟨mc, ns_ h1, h2⟩⟩
  have e0 : Env0 P w K mg (hidT s₁.heap H) callerA [] s₁ H := ⟨rfl, md, fun b o e => of_hidT e, Nat.le_of_eq (hidT_size _ _), trivial, fun b hb => absurd (show b ∈ ([] : List Addr) from hb) (by simp), hok, .of_eq W.gens⟩
  refine codeAny_mono ((F _ kb (ns_ W.g) TB).run callerA [] s₁ H ⟨[.ref a], []⟩ [.ref a] [.ref a] (fun v _ => v = .bl true) (fun _ _ _ => False) hr e0 (hbind s₁ (.ref a)) (.cons rfl .nil) (hsp H few.tab few.sq)) fun r s' h => ?_
  match r, h with
  | .error e, h =>
    obtain ⟨_, _, _, _, _, _, _, _, _, _, _, _, z⟩ := h
    exact z.elim
  | .ok (.ret u), h =>
    obtain ⟨v, H', os, bare, un, hok', ru, q⟩ := h
    cases (show v = V.bl true from q)
    cases (show u = Value.bool true from ru)
    have kept : ∀ b o, (¬ ∃ p ∈ cs, p.2 = b) → s₁.heap.get? b = some o → s'.heap.get? b = some o := fun b o nb e => by
      rcases few.is_ b with z | z | ⟨_, _, ob, xs, z⟩
      · exact un.keep b o e z (by intro y; exact absurd (show b ∈ ([] : List Addr) from y) (by simp)) (by simp)
      · exact absurd z nb
      · obtain ⟨e1, _⟩ := hok b _ z
        obtain ⟨e2, _⟩ := hok' b _ (un.frzs b ob _ z)
        rw [e] at e1
        cases e1
        exact e2
    have grew : ∀ p ∈ cs, ∃ more : Array Value, s'.heap.get? p.2 = some { cls := .none, data := .fields more } := fun p hp => by
      obtain ⟨more, z⟩ := un.tbls p.2 #[] (few.tab p hp)
      exact ⟨_, hok' p.2 _ z⟩
    refine ⟨rfl, ⟨fun b o e => ?_, fun b o e => ?_⟩, os, bare⟩
    · by_cases hb : ∃ p ∈ cs, p.2 = b
      · obtain ⟨p, hp, z⟩ := hb
        obtain ⟨more, hm⟩ := grew p hp
        rw [← z] at e ⊢
        rw [W.emp p hp] at e
        cases e
        exact .inr (.inl ⟨((W.code p hp).tab (W.emp p hp)).isCodeTable, rfl, #[], more, rfl, by rw [Array.empty_append]; exact hm⟩)
      · exact .inl (kept b o hb e)
    · by_cases hb : ∃ p ∈ cs, p.2 = b
      · obtain ⟨p, hp, z⟩ := hb
        obtain ⟨more, hm⟩ := grew p hp
        exact ⟨_, z ▸ hm⟩
      · exact ⟨o, kept b o hb e⟩
end
/-- what is known of the law's promise at the head's heap h -/
def LawR (l : PySem.W.OpenLaw) (w : World) (K : PySem.W.Frag) (k n : Nat) (mg : Str → Option Value) (fa : Addr) (h : Heap) : Prop :=
  ∃ (fd : FuncData) (cs : List (Addr × Addr)) (sp : Sp), (∀ p ∈ cs, h.get? p.2 = some { cls := .none, data := .fields #[] }) ∧ (∀ p ∈ cs, K.lookup p.2 = none) ∧ (∀ p ∈ cs, PySem.W.CodeHd h p.1 p.2) ∧ (∀ (s : Shared) (u : Value), BindsTo s fd ⟨[u], []⟩ [("script", u)]) ∧
    (∀ (H : Hp) (a : Addr) (ns : List Int), ns.length ≤ n → (∀ p ∈ cs, H p.2 = some (.tbl #[])) → SqL K H a (ns.map V.int) → sp [.ref a] H (fun v _ => v = .bl true) fun _ _ _ => False) ∧
    ∀ base : Heap, K.In base → base.Ns mainGlobals mg → (∀ p ∈ cs, LamX.TabB base mg p.1 p.2) → FnO l.prog w K mg base (L2.CX l.prog w) k fa fd [("script" : Str)] sp
theorem walk_R {l : PySem.W.OpenLaw} {n k : Nat} {q : Program} {loose : List Str} {XP : (Str → Option Value) → Heap → Prop} {YP : World → Heap → Prop} {d : DefRec} (hn : l.most = some n) (hn2 : n ≤ sizeLine) (hdf : d.params.defaults = []) (hr : Rm k callerA)
    (F : ∀ (w : World) (mg : Str → Option Value) (fa : Addr) (h : Heap), YP w h → h.Ns mainGlobals mg → mg d.name = some (.ref fa) → ∃ K : PySem.W.Frag, K.In h ∧ LawR l w K k n mg fa h) :
    PySem.W.WalkO q loose XP YP l.row.toRowW d [] (fun f vs => PySem.call f vs) := by
  refine Att.attach_callB hn hdf fun w s₀ s₁ mg mb fa o pm cd doc a vs ns G Y ho hd hcd hmg hobj hints hlen hbits hg => ?_
  obtain ⟨K, KX, fd, cs, sp, t1, t2, t3, hb, hsp, hF⟩ := F w mg fa _ Y G.T.g hmg
  exact law_callR ⟨KX, G.T.g, G.T.b, G.T.builtins, G.T.nolimit, hg, t1, t2, t3, G.T.bmain, hobj, hints, Nat.le_trans hlen hn2⟩ hr hF hb fun H hH hS => hsp H a ns hlen hH hS
section
variable {T : Tx} {P : Program} {w : World} {K : PySem.W.Frag} {mg : Str → Option Value} {h : Heap}
/-- the law's own def, whichever Φ its calls follow -/
theorem law_endG {l : PySem.W.OpenLaw} {fl k : Nat} {t : Dt} {F : DefF} (fo : FileOk T l.prog) (q : txB T = true) (hf : T.ds[fl]? = some t) (hat : t.at_ = (("law" : Str), none)) (hps : t.ps = [("script" : Str)])
    (den : ∀ (ns : List Int) (v : PV), ns.length ≤ 63 → IsScr ns v → ∃ S', F [] [v] [] = .ok (.bl true) S') (w : World) (mg : Str → Option Value) (fa : Addr) (h : Heap) (Y : ∃ K : PySem.W.Frag, K.In h ∧ SaysL T h K) (G : h.Ns mainGlobals mg) (hmg : mg ("law" : Str) = some (.ref fa))
    (fn : ∀ (K : PySem.W.Frag) (base : Heap), SaysL T h K → K.In base → base.Ns mainGlobals mg → (∀ t ∈ T.lams, LamX.TabB base mg (He.cT K t.at_).1 (He.cT K t.at_).2) → FnO l.prog w K mg base (L2.CX l.prog w) k (T.fad K fl) (fdOf K (T.fad K fl)) t.ps (spF (T.pl l.prog w K) F)) :
    ∃ K : PySem.W.Frag, K.In h ∧ LawR l w K k 63 mg fa h := by
  obtain ⟨K, X, c⟩ := Y
  have e1 : T.zt.fns[fl]? = some (some ("law" : Str), [("script" : Str)]) := by
    show (T.ds.map fun t => (t.gn, t.ps))[fl]? = _
    rw [List.getElem?_map, hf, ← hps]
    show some (t.gn, t.ps) = _
    unfold Dt.gn
    rw [hat]
  have fx := fx0 (P := l.prog) (w := w) (base := h) fo q c.r X G
  obtain ⟨_, e2⟩ := fx.kp fl _ _ e1
  have e2 : mg "law" = some (.ref (T.fad K fl)) := e2
  have ea : fa = T.fad K fl := by
    have := hmg.symm.trans e2
    cases this
    rfl
  subst ea
  have par : Par (fdOf K (T.fad K fl)) [("script" : Str)] := fx.par fl _ _ e1
  have mem : ∀ p ∈ (T.lams.map fun t => He.cT K t.at_), ∃ t ∈ T.lams, He.cT K t.at_ = p := fun p hp => List.mem_map.mp hp
  refine ⟨K, X, fdOf K (T.fad K fl), T.lams.map fun t => He.cT K t.at_, spF (T.pl l.prog w K) F, fun p hp => ?_, fun p hp => ?_, fun p hp => ?_, fun s u => ?_, fun H a ns hn hT hS => ?_, fun base kb gb tb => ?_⟩
  · obtain ⟨t, m, e⟩ := mem p hp
    rw [← e]; exact c.emp t m
  · obtain ⟨t, m, e⟩ := mem p hp
    rw [← e]; exact c.out t m
  · obtain ⟨t, m, e⟩ := mem p hp
    rw [← e]; exact PySem.W.codeHd_of_K X (c.hd t m)
  · have := bind_reorder (us := [u]) (ws := []) (ks := []) (perm := []) par (by rfl) rfl
    exact .of_eq this
  · obtain ⟨v, hv, hr⟩ := scr_of (L := T.pl l.prog w K) hS
    obtain ⟨S', e⟩ := den ns v hn hv
    refine ⟨mu0, [], [], [v], rel0 fun p hp => ?_, RelL.one hr, ?_⟩
    · obtain ⟨t, m, e⟩ := List.mem_map.mp (show p ∈ T.lams.map _ from hp)
      rw [← e]
      exact hT _ (List.mem_map.mpr ⟨t, m, rfl⟩)
    · rw [e]
      exact fun μ' H' _ _ x hx => hx
  · have := fn K base c kb gb fun t m => tb _ (List.mem_map.mpr ⟨t, m, rfl⟩)
    rw [hps] at this
    exact this
theorem law_end {l : PySem.W.OpenLaw} {fl dep : Nat} {t : Dt} (fo : FileOk T l.prog) (q : txB T = true) (hf : T.ds[fl]? = some t) (hat : t.at_ = (("law" : Str), none)) (hps : t.ps = [("script" : Str)])
    (den : ∀ (ns : List Int) (v : PV), ns.length ≤ 63 → IsScr ns v → ∃ S', T.P dep fl [] [v] [] = .ok (.bl true) S') (w : World) (mg : Str → Option Value) (fa : Addr) (h : Heap) (Y : ∃ K : PySem.W.Frag, K.In h ∧ SaysL T h K) (G : h.Ns mainGlobals mg) (hmg : mg ("law" : Str) = some (.ref fa)) :
    ∃ K : PySem.W.Frag, K.In h ∧ LawR l w K (4 * dep) 63 mg fa h := law_endG fo q hf hat hps den w mg fa h Y G hmg fun K base c kb gb tb => fnA fo q c kb gb tb dep fl _ _ (by
    show (T.ds.map fun t => (t.gn, t.ps))[fl]? = some (t.gn, t.ps)
    rw [List.getElem?_map, hf]
    rfl)
end
end RV
end
section
/-! RVLfm: a law that draws a number some times and asks functions of it. -/
namespace RV
open PySem
theorem LM.push {mi : Nat} {cs left : List Int} {S : Sto} {k : Int} {l : Nat} (h : LM mi cs S k l left) (o : SO) : LM mi cs (S ++ [o]) k l left :=
  ⟨by rw [List.getElem?_append_left (List.getElem?_eq_some_iff.mp h.m).1]; exact h.m, by rw [List.getElem?_append_left (List.getElem?_eq_some_iff.mp h.l).1]; exact h.l⟩
theorem gcD_int {F : DefF} {S S' : Sto} {x : Int} {b : Bool} (h : F [] [.int x] [] = .ok (.bl b) S') : gcD F [] [.int x] S = .ok (.bl b) S := by
  show gcEnd S (F [] [.int x] []) = _
  rw [h]
  rfl
section
variable {C : Cfg} {Φ : Nat → DefF}
abbrev askF (f : Nat) : IE := .not (.callG f [] [.var 3])
theorem ask_ok {f : Nat} {x : Int} {ρ : Loc} {S : Sto} (hρ : ρ[3]? = some (some (.int x))) (h : isT (Φ f [] [.int x] []) = true) : den C Φ (askF f) [] ρ S = .ok (.bl false) S := by
  obtain ⟨S', e⟩ := isT_ok h
  exact ev_not (ev_callG (evA_cons rfl (ev_var hρ) evA_nil) rfl (gcD_int e))
structure Fm where
  bg : Nat
  nx : Nat
  many : Int
  k0 : Int
  xe : IE
  r0 : Int
  rm : Int
  cond : IE
abbrev Fm.rng (F : Fm) : IE := .rng1 (.bin .add (.cst (.int F.r0)) (.bi .min2 [(.bi .len [(.var 0)]), (.cst (.int F.rm))]))
abbrev Fm.turn (F : Fm) : List IS := [.asg (.var 3) F.xe, .ite F.cond [.ret (.cst (.bl false))] []]
abbrev Fm.body (F : Fm) : List IS := [.asg (.var 1) (.call F.bg false [] [(.var 0)]), .for_ (.var 2) F.rng F.turn, .ret (.cst (.bl true))]
/-- what is asked of such a law's parts -/
structure FmOk (C : Cfg) (Φ : Nat → DefF) (F : Fm) : Prop where
  bg : ∀ (ns : List Int) (v : PV), ns.length ≤ 63 → IsScr ns v → ∃ S1 left, callF (Φ F.bg) false [] [] [v] = .ok (.obj 1) S1 ∧ LM 1 ns S1 0 0 left ∧ left.length ≤ 1000
  nx : ∀ {cs left : List Int} {S : Sto} {k : Int} {l : Nat}, LM 1 cs S k l left → left.length ≤ 1000 → 0 ≤ k → k < 1000000000 → ∃ r S1 k' l' left', callF (Φ F.nx) false [] S [.obj 1, .int F.many] = .ok (.int r) S1 ∧ 0 ≤ r ∧ r < F.many ∧ LM 1 cs S1 k' l' left' ∧ left'.length ≤ left.length ∧ 0 ≤ k' ∧ k' ≤ k + 1
  xe : ∀ {ρ : Loc} {S S1 : Sto} {r : Int}, ρ[1]? = some (some (.obj 1)) → callF (Φ F.nx) false [] S [.obj 1, .int F.many] = .ok (.int r) S1 → den C Φ F.xe [] ρ S = .ok (.int (F.k0 + r)) S1
  cond : ∀ {ρ : Loc} {S : Sto} {r : Int}, 0 ≤ r → r < F.many → ρ[3]? = some (some (.int (F.k0 + r))) → den C Φ F.cond [] ρ S = .ok (.bl false) S
  r0 : 0 ≤ F.r0 ∧ F.r0 ≤ 100
  rm : 0 ≤ F.rm ∧ F.rm ≤ 100
variable {F : Fm}
theorem fm_turn (K : FmOk C Φ F) {ns left : List Int} {v x : PV} {b : Option PV} {S : Sto} {k : Int} {l : Nat} (h : LM 1 ns S k l left) (hl : left.length ≤ 1000) (k0 : 0 ≤ k) (k1 : k < 1000000000) :
    ∃ b' S' k' l' left', denB C Φ F.turn [] [some v, some (.obj 1), some x, b] S = .ok ([some v, some (.obj 1), some x, b'], .nx) S' ∧ LM 1 ns S' k' l' left' ∧ left'.length ≤ left.length ∧ 0 ≤ k' ∧ k' ≤ k + 1 := by
  obtain ⟨r, S1, k', l', left', e1, r0, r1, h1, le, k2, k3⟩ := K.nx h hl k0 k1
  have s1 : denS C Φ (.asg (.var 3) F.xe) [] [some v, some (.obj 1), some x, b] S = .ok ([some v, some (.obj 1), some x, some (.int (F.k0 + r))], .nx) S1 := es_set (K.xe rfl e1) rfl
  have s2 := es_iteF (p := [.ret (.cst (.bl false))]) (q := []) (K.cond (ρ := [some v, some (.obj 1), some x, some (.int (F.k0 + r))]) (S := S1) r0 r1 rfl) eb_nil
  exact ⟨_, _, k', l', left', eb_nx s1 (eb_nx s2 eb_nil), h1, le, k2, k3⟩
abbrev fmT (C : Cfg) (Φ : Nat → DefF) (F : Fm) : PV → RV.Loc × RV.Flow → Sto → Out (RV.Loc × RV.Flow) := fun x r S => match tgt (.var 2) x r.1 with
  | some ρ' => denB C Φ F.turn [] ρ' S
  | none => .fail
theorem fm_loop (K : FmOk C Φ F) {ns : List Int} {v : PV} : ∀ (xs : List PV) (a b : Option PV) (S : Sto) (k : Int) (l : Nat) (left : List Int), LM 1 ns S k l left → left.length ≤ 1000 → 0 ≤ k → k + xs.length < 1000000000 →
    ∃ ρ' S', loopV isRet (fmT C Φ F) xs ([some v, some (.obj 1), a, b], .nx) S = .ok (ρ', .nx) S'
  | [], a, b, S, k, l, left, _, _, _, _ => ⟨_, S, rfl⟩
  | x :: xs, a, b, S, k, l, left, h, hl, k0, k1 => by
    simp only [List.length_cons] at k1
    obtain ⟨b', S', k', l', left', e, h', le, k2, k3⟩ := fm_turn K (v := v) (x := x) (b := b) h hl k0 (by omega)
    have ht : fmT C Φ F x ([some v, some (.obj 1), a, b], .nx) S = .ok ([some v, some (.obj 1), some x, b'], .nx) S' := e
    obtain ⟨ρ2, S2, e2⟩ := fm_loop K xs (some x) b' S' k' l' left' h' (by omega) k2 (by omega)
    exact ⟨ρ2, S2, (lv_step ht rfl).trans e2⟩
theorem rng_len : ∀ (n : Nat) (i : Int), (rngI n i).length = n
  | 0, _ => rfl
  | n + 1, i => by show (rngI n (i + 1)).length + 1 = n + 1; rw [rng_len n]
/-- the law tells True -/
theorem fm_true (K : FmOk C Φ F) (ns : List Int) (v : PV) (hn : ns.length ≤ 63) (hv : IsScr ns v) : ∃ S', runDef C Φ ⟨4, 1, F.body⟩ [] [v] [] = .ok (.bl true) S' := by
  obtain ⟨S1, left, hc, h1, hl⟩ := K.bg ns v hn hv
  have s1 : denS C Φ (.asg (.var 1) (.call F.bg false [] [(.var 0)])) [] [some v, none, none, none] [] = .ok ([some v, some (.obj 1), none, none], .nx) S1 := es_set (ev_call (evA_cons rfl (ev_var rfl) evA_nil) rfl hc) rfl
  have eseq : seqOf [] S1 v = some (ns.map .int) := by rcases hv with rfl | rfl <;> rfl
  have elen : den C Φ (.bi .len [(.var 0)]) [] [some v, some (.obj 1), none, none] S1 = .ok (.int ns.length) S1 := by
    refine ev_bi (evA_cons rfl (ev_var rfl) evA_nil) ?_
    show Out.of ((seqOf [] S1 v).map fun xs => PV.int xs.length) S1 = _
    rw [eseq]
    show Out.ok (PV.int ((ns.map PV.int).length : Nat)) S1 = _
    rw [List.length_map]
  obtain ⟨j, hJ⟩ : ∃ j : Int, j = F.r0 + (if F.rm < (ns.length : Int) then F.rm else (ns.length : Int)) := ⟨_, rfl⟩
  have ej : den C Φ (.bin .add (.cst (.int F.r0)) (.bi .min2 [(.bi .len [(.var 0)]), (.cst (.int F.rm))])) [] [some v, some (.obj 1), none, none] S1 = .ok (.int j) S1 :=
    hJ ▸ ev_bin ev_cst (ev_bi (v := .int (if F.rm < (ns.length : Int) then F.rm else (ns.length : Int))) (evA_cons rfl elen (evA_cons rfl ev_cst evA_nil)) rfl) rfl
  have hr0 := K.r0
  have hrm := K.rm
  have hj : j ≤ 200 ∧ 0 ≤ j := by
    rw [hJ]
    split <;> omega
  have erng : den C Φ F.rng [] [some v, some (.obj 1), none, none] S1 = .ok (.lst (rngI j.toNat 0)) S1 := by
    show ((den C Φ (.bin .add (.cst (.int F.r0)) (.bi .min2 [(.bi .len [(.var 0)]), (.cst (.int F.rm))])) [] [some v, some (.obj 1), none, none] S1).bind fun x S => match x with
      | .int j => match decide (-(lim / 4) ≤ j) && decide (j < lim / 4) with
        | true => Out.ok (PV.lst (rngI j.toNat 0)) S
        | false => .fail
      | _ => .fail) = _
    rw [bnd ej]
    show (match decide (-(lim / 4) ≤ j) && decide (j < lim / 4) with
      | true => Out.ok (PV.lst (rngI j.toNat 0)) S1
      | false => .fail) = _
    rw [decide_eq_true (show -(lim / 4) ≤ j by unfold lim; omega), decide_eq_true (show j < lim / 4 by unfold lim; omega)]
    rfl
  obtain ⟨ρ2, S2, e2⟩ := fm_loop K (v := v) (rngI j.toNat 0) none none S1 0 0 left h1 (by omega) (by omega) (by rw [rng_len]; omega)
  have s2 : denS C Φ (.for_ (.var 2) F.rng F.turn) [] [some v, some (.obj 1), none, none] S1 = .ok (ρ2, .nx) S2 := by
    show ((den C Φ F.rng [] [some v, some (.obj 1), none, none] S1).bind fun src S => loop [] isRet (fmT C Φ F) src ([some v, some (.obj 1), none, none], .nx) S) = _
    rw [bnd erng]
    exact e2
  have s3 : denS C Φ (.ret (.cst (.bl true))) [] ρ2 S2 = .ok (ρ2, .ret (.bl true)) S2 := es_ret ev_cst
  have hd : denB C Φ F.body [] ([v].map some ++ List.replicate (4 - 1) none) [] = .ok (ρ2, .ret (.bl true)) S2 := eb_nx s1 (eb_nx s2 (eb_ret s3))
  exact ⟨S2, run_ret (d := ⟨4, 1, F.body⟩) rfl hd⟩
end
end RV
end
section
/-! RVFast: some defs told by plain functions. -/
namespace RV
open PySem PySem.Spec PyProof.Rows L2
/-- as Phi; a def that G tells is not run -/
def PhiF (C : Cfg) (T : Nat → Option Def) (G : Nat → Option DefF) : Nat → Nat → DefF
  | 0, _ => fun _ _ _ => .fail
  | d + 1, f => match G f with
    | some F => F
    | none => match T f with
      | some df => runDef C (PhiF C T G d) df
      | none => fun _ _ _ => .fail
/-- what G tells, the text tells too -/
structure FastOk (T : Tx) (G : Nat → Option DefF) : Prop where
  ok : ∀ f F, G f = some F → ∃ df, T.tbl f = some df ∧ ∀ (Φ : Nat → DefF) (B : Sto) (vs : List PV) (S : Sto), F B vs S = .fail ∨ runDef T.cfg Φ df B vs S = F B vs S
section
variable {T : Tx} {P : Program} {w : World} {K : PySem.W.Frag} {mg : Str → Option Value} {base h : Heap} {G : Nat → Option DefF}
theorem sp_less {L : Pl} {F F' : DefF} (h : ∀ B vs S, F B vs S = .fail ∨ F' B vs S = F B vs S) {vs : List V} {H : Hp} {Q : VK} {E : XK} (z : spF L F vs H Q E) : spF L F' vs H Q E := by
  obtain ⟨μ, B, S, ps, rs, rl, o⟩ := z
  rcases h B ps S with e | e
  · rw [e] at o
    exact False.elim o
  · exact ⟨μ, B, S, ps, rs, rl, by rw [e]; exact o⟩
theorem fnF {g : Heap} (fa : FastOk T G) (fo : FileOk T P) (q : txB T = true) (c : SaysL T h K) (X : K.In g) (Gl : g.Ns mainGlobals mg) (tb : ∀ t ∈ T.lams, LamX.TabB base mg (He.cT K t.at_).1 (He.cT K t.at_).2) : ∀ n, FnA T.zt (T.en P w K mg base) (PhiF T.cfg T.tbl G n) (4 * n)
  | 0 => fun f x ps e => fn_fail fun _ _ _ => rfl
  | n + 1 => fun f x ps e => by
    have fx := fx0 (P := P) (w := w) (base := base) fo q c.r X Gl
    have ih := fnF fa fo q c X Gl tb n
    obtain ⟨t, e1, e2, rfl⟩ := fns_at e
    obtain ⟨a1, a2, a3⟩ := c.r.all
    have F := a3 f t e1
    obtain ⟨_, q4⟩ := an (an q).1
    have qt := List.all_eq_true.mp q4 t (List.mem_of_getElem? e1)
    have et : T.tbl f = t.d := by
      unfold Tx.tbl
      rw [e1]
    have ea : T.fad K f = He.fAd K t.at_ := by
      unfold Tx.fad
      rw [e1]
    have base_ : ∀ df, T.tbl f = some df → FnO P w K mg base (L2.CX P w) (4 * n + 4) (T.fad K f) (fdOf K (T.fad K f)) t.ps (spF (T.pl P w K) (runDef T.cfg (PhiF T.cfg T.tbl G n) df)) := fun df z => by
      rw [ea]
      rw [et] at z
      rw [z] at qt
      exact def_ok fx ih qt F fun y => lam_of q c tb (List.mem_of_getElem? e1) F y
    show FnO P w K mg base (L2.CX P w) (4 * n + 4) (T.fad K f) (fdOf K (T.fad K f)) t.ps (spF (T.pl P w K) (match G f with
      | some F => F
      | none => match T.tbl f with
        | some df => runDef T.cfg (PhiF T.cfg T.tbl G n) df
        | none => fun _ _ _ => .fail))
    cases eg : G f with
    | some F1 =>
      obtain ⟨df, z, less⟩ := fa.ok f F1 eg
      exact (base_ df z).imp fun vs H Q E y => sp_less (less _) y
    | none =>
      cases z : T.tbl f with
      | none => exact fn_fail fun _ _ _ => rfl
      | some df => exact base_ df z
theorem law_endF {l : PySem.W.OpenLaw} {fl dep : Nat} {t : Dt} (fa_ : FastOk T G) (fo : FileOk T l.prog) (q : txB T = true) (hf : T.ds[fl]? = some t) (hat : t.at_ = (("law" : Str), none)) (hps : t.ps = [("script" : Str)])
    (den : ∀ (ns : List Int) (v : PV), ns.length ≤ 63 → IsScr ns v → ∃ S', PhiF T.cfg T.tbl G dep fl [] [v] [] = .ok (.bl true) S') (w : World) (mg : Str → Option Value) (fa : Addr) (h : Heap) (Y : ∃ K : PySem.W.Frag, K.In h ∧ SaysL T h K) (Gl : h.Ns mainGlobals mg) (hmg : mg ("law" : Str) = some (.ref fa)) :
    ∃ K : PySem.W.Frag, K.In h ∧ LawR l w K (4 * dep) 63 mg fa h := law_endG fo q hf hat hps den w mg fa h Y Gl hmg fun K base c kb gb tb => fnF fa_ fo q c kb gb tb dep fl _ _ (by
    show (T.ds.map fun t => (t.gn, t.ps))[fl]? = some (t.gn, t.ps)
    rw [List.getElem?_map, hf]
    rfl)
end
end RV
end
section
/-! RVLcm: a comprehension as a map. -/
namespace RV
open PySem
section
variable {C : Cfg} {Φ : Nat → DefF} {B S : Sto} {ρ : Loc} {own : List Nat} {t it elt : IE}
abbrev lcT (C : Cfg) (Φ : Nat → DefF) (B : Sto) (ρ : Loc) (own : List Nat) (t elt : IE) : PV → List PV → Sto → Out (List PV) := fun x acc S => match tgt t x (wipeL ρ own) with
  | some ρ' => (denT C Φ none B ρ' S).bindF fun b S => match b with
    | true => (den C Φ elt B ρ' S).bindF fun v S => accF v acc S
    | false => .ok acc S
  | none => .fail
/-- the element is told at each item, the store stays -/
def Each (C : Cfg) (Φ : Nat → DefF) (B S : Sto) (ρ : Loc) (own : List Nat) (t elt : IE) (x v : PV) : Prop := ∃ ρ', tgt t x (wipeL ρ own) = some ρ' ∧ den C Φ elt B ρ' S = .ok v S
theorem lcm_loop {f : PV → PV} : ∀ (xs acc : List PV), (∀ x ∈ xs, Each C Φ B S ρ own t elt x (f x)) → acc.length + xs.length ≤ 1000 → loopV never (lcT C Φ B ρ own t elt) xs acc S = .ok ((xs.map f).reverse ++ acc) S
  | [], acc, _, _ => rfl
  | x :: xs, acc, h, hl => by
    simp only [List.length_cons] at hl
    obtain ⟨ρ', e1, e2⟩ := h x (List.mem_cons_self ..)
    have ht : lcT C Φ B ρ own t elt x acc S = .ok (f x :: acc) S := by
      show (match tgt t x (wipeL ρ own) with
        | some ρ' => (denT C Φ none B ρ' S).bindF fun b S => match b with
          | true => (den C Φ elt B ρ' S).bindF fun v S => accF v acc S
          | false => .ok acc S
        | none => .fail) = _
      rw [e1]
      show (den C Φ elt B ρ' S).bindF (fun v S => accF v acc S) = _
      rw [bndF e2]
      show (match Nat.blt acc.length szL with
        | true => Out.ok (f x :: acc) S
        | false => .fail) = _
      rw [show Nat.blt acc.length szL = true from Nat.ble_eq_true_of_le (by unfold szL; omega)]
    have e := lv_step (halt := never) (xs := xs) ht rfl
    rw [e, lcm_loop xs (f x :: acc) (fun y m => h y (List.mem_cons_of_mem _ m)) (by simp only [List.length_cons]; omega)]
    simp
theorem ev_lcm {src : PV} {xs : List PV} {f : PV → PV} (hit : den C Φ it B ρ S = .ok src S) (hs : src = .lst xs ∨ src = .tup xs) (h : ∀ x ∈ xs, Each C Φ B S ρ own t elt x (f x)) (hl : xs.length ≤ 1000) :
    den C Φ (.lc false own t it none elt) B ρ S = .ok (.lst (xs.map f)) S := by
  show ((den C Φ it B ρ S).bind fun src S => (loop B never (lcT C Φ B ρ own t elt) src [] S).bindF fun ys S => mkLst false B S ys.reverse) = _
  rw [bnd hit]
  have el : loop B never (lcT C Φ B ρ own t elt) src [] S = .ok ((xs.map f).reverse ++ []) S := by
    rcases hs with rfl | rfl
    · exact lcm_loop xs [] h (by simpa using hl)
    · exact lcm_loop xs [] h (by simpa using hl)
  show (loop B never (lcT C Φ B ρ own t elt) src [] S).bindF (fun ys S => mkLst false B S ys.reverse) = _
  rw [bndF el]
  show mkLst false B S ((xs.map f).reverse ++ []).reverse = _
  rw [List.append_nil, List.reverse_reverse]
  unfold mkLst
  rw [show Nat.ble (xs.map f).length szL = true from Nat.ble_eq_true_of_le (by rw [List.length_map]; unfold szL; omega)]
end
end RV
end
section
/-! RVMat: times of tables, plain. -/
namespace RV
open PySem
def mulP : PV → PV
  | .tup [.int a, .int b] => .int (a * b)
  | _ => .non
def smallI : Int → Bool
  | .ofNat n => Nat.blt n 1024
  | .negSucc _ => false
theorem small_mul {a b : Int} (h : smallI b = true) : mulOk a b = true := by
  cases b with
  | negSucc n => cases h
  | ofNat n =>
    have h : n < 1024 := Nat.le_of_ble_eq_true h
    have h1 : -lim < Int.ofNat n := by unfold lim; show _ < (n : Int); omega
    have h2 : Int.ofNat n < lim := by unfold lim; show (n : Int) < _; omega
    unfold mulOk
    rw [decide_eq_true h1, decide_eq_true h2, Bool.and_true, Bool.or_true]
def prodOk : PV → Bool
  | .tup [.int a, .int b] => smallI b
  | _ => false
def dotP : List PV → List PV → Int
  | .int a :: xs, .int b :: ys => a * b + dotP xs ys
  | _, _ => 0
def cellOk : PV → PV → Bool
  | .tup xs, .tup ys => Nat.ble xs.length 100 && (zipP xs ys).all prodOk
  | _, _ => false
def dot : PV → PV → PV
  | .tup xs, .tup ys => .int (dotP xs ys)
  | _, _ => .non
theorem prod_inv {p : PV} (h : prodOk p = true) : ∃ a b, p = .tup [.int a, .int b] ∧ mulOk a b = true := by
  unfold prodOk at h
  split at h
  · exact ⟨_, _, rfl, small_mul h⟩
  · cases h
theorem zip_short : ∀ xs ys : List PV, (zipP xs ys).length ≤ xs.length
  | [], ys => by cases ys <;> exact Nat.le_refl _
  | x :: xs, [] => Nat.zero_le _
  | x :: xs, y :: ys => by
    show (zipP xs ys).length + 1 ≤ xs.length + 1
    have := zip_short xs ys
    omega
theorem dot_sum : ∀ xs ys : List PV, (zipP xs ys).all prodOk = true → ∃ ns, intsOf ((zipP xs ys).map mulP) = some ns ∧ sumI ns = dotP xs ys
  | [], ys, _ => ⟨[], by cases ys <;> rfl, by cases ys <;> rfl⟩
  | x :: xs, [], _ => ⟨[], rfl, by cases x <;> rfl⟩
  | x :: xs, y :: ys, h => by
    have h : (prodOk (.tup [x, y]) && (zipP xs ys).all prodOk) = true := h
    rw [Bool.and_eq_true] at h
    obtain ⟨a, b, e, _⟩ := prod_inv h.1
    cases e
    obtain ⟨ns, e1, e2⟩ := dot_sum xs ys h.2
    refine ⟨a * b :: ns, ?_, ?_⟩
    · show (intsOf ((zipP xs ys).map mulP)).map (a * b :: ·) = _
      rw [e1]
      rfl
    · show a * b + sumI ns = a * b + dotP xs ys
      rw [e2]
abbrev eDot : IE := .bi .sum [(.lc false [5, 6] (.tup [(.var 5), (.var 6)]) (.zip2 (.var 3) (.var 4)) none (.bin .mul (.var 5) (.var 6)))]
section
variable {C : Cfg} {Φ : Nat → DefF} {B S : Sto} {o0 o1 o2 o5 o6 : Option PV}
theorem ev_dot {l c : PV} (ok : cellOk l c = true) : den C Φ eDot B [o0, o1, o2, some l, some c, o5, o6] S = .ok (dot l c) S := by
  unfold cellOk at ok
  split at ok
  · rename_i xs ys
    rw [Bool.and_eq_true] at ok
    obtain ⟨k1, k2⟩ := ok
    have k1 := Nat.le_of_ble_eq_true k1
    have ez : den C Φ (.zip2 (.var 3) (.var 4)) B [o0, o1, o2, some (.tup xs), some (.tup ys), o5, o6] S = .ok (.lst (zipP xs ys)) S := rfl
    have el := ev_lcm (own := [5, 6]) (t := .tup [(.var 5), (.var 6)]) (elt := .bin .mul (.var 5) (.var 6)) (f := mulP) ez (.inl rfl) (fun x hx => by
      obtain ⟨a, b, e, m⟩ := prod_inv (List.all_eq_true.mp k2 x hx)
      subst e
      refine ⟨[o0, o1, o2, some (.tup xs), some (.tup ys), some (.int a), some (.int b)], rfl, ev_bin (ev_var rfl) (ev_var rfl) ?_⟩
      show (match mulOk a b with
        | true => some (PV.int (a * b))
        | false => none) = _
      rw [m]
      rfl) (by have := zip_short xs ys; omega)
    obtain ⟨ns, e1, e2⟩ := dot_sum xs ys k2
    refine ev_bi (evA_cons rfl el evA_nil) ?_
    show Out.of (((intsOf ((zipP xs ys).map mulP)).map sumI).map PV.int) S = _
    rw [e1]
    show Out.ok (PV.int (sumI ns)) S = _
    rw [e2]
    rfl
  · cases ok
abbrev eRow : IE := .bi .tuple [(.lc false [4] (.var 4) (.var 2) none eDot)]
abbrev eTab : IE := .bi .tuple [(.lc false [3] (.var 3) (.var 0) none eRow)]
def rowP (cs : List PV) (l : PV) : PV := .tup (cs.map (dot l))
theorem ev_row {l : PV} {cs : List PV} {o4 : Option PV} (hl : cs.length ≤ 1000) (ok : cs.all (cellOk l) = true) : den C Φ eRow B [o0, o1, some (.lst cs), some l, o4, o5, o6] S = .ok (rowP cs l) S := by
  have el := ev_lcm (C := C) (Φ := Φ) (B := B) (S := S) (ρ := [o0, o1, some (.lst cs), some l, o4, o5, o6]) (own := [4]) (t := .var 4) (it := .var 2) (elt := eDot) (f := dot l) (ev_var rfl) (.inl rfl) (fun x hx => ⟨[o0, o1, some (.lst cs), some l, some x, o5, o6], rfl, ev_dot (List.all_eq_true.mp ok x hx)⟩) hl
  exact ev_bi (evA_cons rfl el evA_nil) rfl
theorem ev_tab {ls cs : List PV} {o3 o4 : Option PV} (h1 : ls.length ≤ 1000) (h2 : cs.length ≤ 1000) (ok : ls.all (fun l => cs.all (cellOk l)) = true) : den C Φ eTab B [some (.tup ls), o1, some (.lst cs), o3, o4, o5, o6] S = .ok (.tup (ls.map (rowP cs))) S := by
  have el := ev_lcm (C := C) (Φ := Φ) (B := B) (S := S) (ρ := [some (.tup ls), o1, some (.lst cs), o3, o4, o5, o6]) (own := [3]) (t := .var 3) (it := .var 0) (elt := eRow) (f := rowP cs) (ev_var rfl) (.inr rfl) (fun x hx => ⟨[some (.tup ls), o1, some (.lst cs), some x, o4, o5, o6], rfl, ev_row h2 (List.all_eq_true.mp ok x hx)⟩) h1
  exact ev_bi (evA_cons rfl el evA_nil) rfl
def dTimes : Def := ⟨7, 2, [.asg (.var 2) (.bi .zipStar [(.var 1)]), .ret eTab]⟩
/-- times, plain -/
def timesF : DefF := fun B vs S => match vs with
  | [.tup ls, m] => match zipF B S m with
    | some cs => match Nat.ble ls.length 1000 && Nat.ble cs.length 1000 && ls.all (fun l => cs.all (cellOk l)) with
      | true => .ok (.tup (ls.map (rowP cs))) S
      | false => .fail
    | none => .fail
  | _ => .fail
theorem times_ok (vs : List PV) : timesF B vs S = .fail ∨ runDef C Φ dTimes B vs S = timesF B vs S := by
  unfold timesF
  split
  · rename_i ls m
    cases ez : zipF B S m with
    | none => exact .inl rfl
    | some cs =>
      show (match Nat.ble ls.length 1000 && Nat.ble cs.length 1000 && ls.all (fun l => cs.all (cellOk l)) with
        | true => Out.ok (PV.tup (ls.map (rowP cs))) S
        | false => .fail) = .fail ∨ _ = (match Nat.ble ls.length 1000 && Nat.ble cs.length 1000 && ls.all (fun l => cs.all (cellOk l)) with
        | true => Out.ok (PV.tup (ls.map (rowP cs))) S
        | false => .fail)
      cases q : Nat.ble ls.length 1000 && Nat.ble cs.length 1000 && ls.all (fun l => cs.all (cellOk l)) with
      | false => exact .inl rfl
      | true =>
        rw [Bool.and_eq_true, Bool.and_eq_true] at q
        refine .inr ?_
        have s1 : denS C Φ (.asg (.var 2) (.bi .zipStar [(.var 1)])) B [some (.tup ls), some m, none, none, none, none, none] S = .ok ([some (.tup ls), some m, some (.lst cs), none, none, none, none], .nx) S :=
          es_set (ev_bi (evA_cons rfl (ev_var rfl) evA_nil) (show Out.of ((zipF B S m).map PV.lst) S = .ok (.lst cs) S by rw [ez]; rfl)) rfl
        have s2 : denS C Φ (.ret eTab) B [some (.tup ls), some m, some (.lst cs), none, none, none, none] S = .ok (_, .ret _) S := es_ret (ev_tab (Nat.le_of_ble_eq_true q.1.1) (Nat.le_of_ble_eq_true q.1.2) q.2)
        exact run_ret (d := dTimes) rfl (eb_nx s1 (eb_ret s2))
  · exact .inl rfl
end
end RV
end
section
namespace K43
open RV PySem
def top (i : Nat) : Stmt := PySem.Challenge.pw_growthkinds_k43_noughts_by_hand_and_refu.main.body.getD i (.Pass ⟨0, 0, 0, 0⟩)
def d__wall : Def := ⟨1, 1, [.whl (.cst (.bl true)) [.pass]]⟩
def t__wall : Dt := ⟨("_wall", none), "_wall", "_wall", L2.defArgs (top 0), L2.defBody (top 0), L2.defScope (top 0), ["k"], ["k"], some d__wall, false⟩
def d_is_number : Def := ⟨1, 1, [.ret (.and [(.isi (.var 0) [.int]), (.not (.isi (.var 0) [.bool]))])]⟩
def t_is_number : Dt := ⟨("is_number", none), "is_number", "is_number", L2.defArgs (top 9), L2.defBody (top 9), L2.defScope (top 9), ["thing"], ["thing"], some d_is_number, false⟩
def d_is_among : Def := ⟨3, 3, [.ret (.and [(.call 1 true [] [(.var 0)]), (.chain .le .le (.var 1) (.var 0) (.var 2))])]⟩
def t_is_among : Dt := ⟨("is_among", none), "is_among", "is_among", L2.defArgs (top 10), L2.defBody (top 10), L2.defScope (top 10), ["thing", "least", "most"], ["thing", "least", "most"], some d_is_among, false⟩
def d_is_line : Def := ⟨3, 2, [.ret (.and [(.isi (.var 0) [.tuple]), (.cmp .eq (.bi .len [(.var 0)]) (.var 1)), (.bi .all [(.lc false [2] (.var 2) (.var 0) none (.call 2 true [] [(.var 2), (.cst (.int (0))), (.glob ⟨#[77, 79, 83, 84, 95, 69, 78, 84, 82, 89]⟩ (.int (9)))]))])])]⟩
def t_is_line : Dt := ⟨("is_line", none), "is_line", "is_line", L2.defArgs (top 11), L2.defBody (top 11), L2.defScope (top 11), ["thing", "many", "one"], ["thing", "many"], some d_is_line, false⟩
def d_is_table : Def := ⟨2, 1, [.ite (.or [(.not (.isi (.var 0) [.tuple])), (.not (.chain .le .le (.cst (.int (1))) (.bi .len [(.var 0)]) (.glob ⟨#[77, 79, 83, 84, 95, 80, 76, 65, 67, 69, 83]⟩ (.int (4)))))]) [.ret (.cst (.bl false))] [],
  .ret (.bi .all [(.lc false [1] (.var 1) (.var 0) none (.call 3 true [] [(.var 1), (.bi .len [(.var 0)])]))])]⟩
def t_is_table : Dt := ⟨("is_table", none), "is_table", "is_table", L2.defArgs (top 12), L2.defBody (top 12), L2.defScope (top 12), ["thing", "one"], ["thing"], some d_is_table, false⟩
def d_Family___init__ : Def := ⟨4, 2, [.ite (.or [(.not (.isi (.var 1) [.list, .tuple])), (.not (.chain .le .le (.cst (.int (1))) (.bi .len [(.var 1)]) (.glob ⟨#[77, 79, 83, 84, 95, 84, 65, 66, 76, 69, 83]⟩ (.int (3)))))]) [.raise 1 (.cst .non)] [],
  .for_ (.tup [(.var 2), (.var 3)]) (.enum 0 (.var 1)) [.ite (.or [(.not (.call 4 true [] [(.var 3)])), (.cmp .ne (.bi .len [(.var 3)]) (.bi .len [(.sub (.var 1) (.cst (.int (0))))]))]) [.raise 1 (.var 2)] []],
  .asg (.attr (.var 0) 0) (.bi .tuple [(.var 1)]),
  .asg (.attr (.var 0) 1) (.bi .len [(.sub (.var 1) (.cst (.int (0))))])]⟩
def t_Family___init__ : Dt := ⟨("Family", some "__init__"), "__init__", "Family.__init__", L2.defArgs (L2.inClass (top 13) 0), L2.defBody (L2.inClass (top 13) 0), L2.defScope (L2.inClass (top 13) 0), ["self", "tables", "number", "table"], ["self", "tables"], some d_Family___init__, false⟩
def d_Family___len__ : Def := ⟨1, 1, [.ret (.bi .len [(.attr (.var 0) 0)])]⟩
def t_Family___len__ : Dt := ⟨("Family", some "__len__"), "__len__", "Family.__len__", L2.defArgs (L2.inClass (top 13) 1), L2.defBody (L2.inClass (top 13) 1), L2.defScope (L2.inClass (top 13) 1), ["self"], ["self"], some d_Family___len__, false⟩
def d_Family___eq__ : Def := ⟨2, 2, [.ret (.and [(.isi (.var 1) [.cls 3]), (.cmp .eq (.attr (.var 0) 0) (.attr (.var 1) 0))])]⟩
def t_Family___eq__ : Dt := ⟨("Family", some "__eq__"), "__eq__", "Family.__eq__", L2.defArgs (L2.inClass (top 13) 2), L2.defBody (L2.inClass (top 13) 2), L2.defScope (L2.inClass (top 13) 2), ["self", "other"], ["self", "other"], some d_Family___eq__, false⟩
def d_Family_with_table : Def := ⟨2, 2, [.expr (.call 0 true [] [(.cst (.int (0)))])]⟩
def t_Family_with_table : Dt := ⟨("Family", some "with_table"), "with_table", "Family.with_table", L2.defArgs (L2.inClass (top 13) 3), L2.defBody (L2.inClass (top 13) 3), L2.defScope (L2.inClass (top 13) 3), ["self", "table"], ["self", "table"], some d_Family_with_table, false⟩
def d_Family_need_number : Def := ⟨2, 2, [.ite (.not (.call 2 true [] [(.var 1), (.cst (.int (0))), (.bin .sub (.bi .len [(.attr (.var 0) 0)]) (.cst (.int (1))))])) [.raise 2 (.var 1)] []]⟩
def t_Family_need_number : Dt := ⟨("Family", some "need_number"), "need_number", "Family.need_number", L2.defArgs (L2.inClass (top 13) 4), L2.defBody (L2.inClass (top 13) 4), L2.defScope (L2.inClass (top 13) 4), ["self", "number"], ["self", "number"], some d_Family_need_number, false⟩
def d_Family_without_table : Def := ⟨2, 2, [.expr (.call 0 true [] [(.cst (.int (1)))])]⟩
def t_Family_without_table : Dt := ⟨("Family", some "without_table"), "without_table", "Family.without_table", L2.defArgs (L2.inClass (top 13) 5), L2.defBody (L2.inClass (top 13) 5), L2.defScope (L2.inClass (top 13) 5), ["self", "number"], ["self", "number"], some d_Family_without_table, false⟩
def d_Family_changed : Def := ⟨5, 5, [.expr (.call 0 true [] [(.cst (.int (2)))])]⟩
def t_Family_changed : Dt := ⟨("Family", some "changed"), "changed", "Family.changed", L2.defArgs (L2.inClass (top 13) 6), L2.defBody (L2.inClass (top 13) 6), L2.defScope (L2.inClass (top 13) 6), ["self", "number", "row", "place", "entry"], ["self", "number", "row", "place", "entry"], some d_Family_changed, false⟩
def d_is_word : Def := ⟨3, 2, [.ite (.or [(.not (.isi (.var 1) [.tuple])), (.cmp .gt (.bi .len [(.var 1)]) (.glob ⟨#[77, 79, 83, 84, 95, 76, 79, 78, 71]⟩ (.int (400))))]) [.ret (.cst (.bl false))] [],
  .ret (.bi .all [(.lc false [2] (.var 2) (.var 1) none (.call 2 true [] [(.var 2), (.cst (.int (0))), (.bin .sub (.bi .len [(.attr (.var 0) 0)]) (.cst (.int (1))))]))])]⟩
def t_is_word : Dt := ⟨("is_word", none), "is_word", "is_word", L2.defArgs (top 16), L2.defBody (top 16), L2.defScope (top 16), ["family", "thing", "one"], ["family", "thing"], some d_is_word, false⟩
def d_ones : Def := ⟨3, 1, [.ret (.bi .tuple [(.lc false [1] (.var 1) (.rng1 (.var 0)) none (.bi .tuple [(.lc false [2] (.var 2) (.rng1 (.var 0)) none (.bi .int [(.cmp .eq (.var 1) (.var 2))]))]))])]⟩
def t_ones : Dt := ⟨("ones", none), "ones", "ones", L2.defArgs (top 17), L2.defBody (top 17), L2.defScope (top 17), ["many", "one", "other"], ["many"], some d_ones, false⟩
def d_times : Def := ⟨7, 2, [.asg (.var 2) (.bi .zipStar [(.var 1)]),
  .ret (.bi .tuple [(.lc false [3] (.var 3) (.var 0) none (.bi .tuple [(.lc false [4] (.var 4) (.var 2) none (.bi .sum [(.lc false [5, 6] (.tup [(.var 5), (.var 6)]) (.zip2 (.var 3) (.var 4)) none (.bin .mul (.var 5) (.var 6)))]))]))])]⟩
def t_times : Dt := ⟨("times", none), "times", "times", L2.defArgs (top 18), L2.defBody (top 18), L2.defScope (top 18), ["one", "other", "columns", "line", "column", "x", "y"], ["one", "other"], some d_times, false⟩
def d_product_of : Def := ⟨4, 2, [.asg (.var 2) (.call 13 true [] [(.attr (.var 0) 1)]),
  .for_ (.var 3) (.var 1) [.asg (.var 2) (.call 14 true [] [(.var 2), (.sub (.attr (.var 0) 0) (.var 3))])],
  .ret (.var 2)]⟩
def t_product_of : Dt := ⟨("product_of", none), "product_of", "product_of", L2.defArgs (top 19), L2.defBody (top 19), L2.defScope (top 19), ["family", "word", "found", "number"], ["family", "word"], some d_product_of, false⟩
def d_sum_of : Def := ⟨2, 1, [.ret (.bi .sum [(.lc false [1] (.var 1) (.var 0) none (.bi .sum [(.var 1)]))])]⟩
def t_sum_of : Dt := ⟨("sum_of", none), "sum_of", "sum_of", L2.defArgs (top 20), L2.defBody (top 20), L2.defScope (top 20), ["table", "line"], ["table"], some d_sum_of, false⟩
def d_is_lot : Def := ⟨4, 2, [.ite (.or [(.not (.isi (.var 1) [.tuple])), (.not (.bi .all [(.lc false [2] (.var 2) (.var 1) none (.call 2 true [] [(.var 2), (.cst (.int (0))), (.bin .sub (.attr (.var 0) 1) (.cst (.int (1))))]))]))]) [.ret (.cst (.bl false))] [],
  .ret (.bi .all [(.lc false [2, 3] (.tup [(.var 2), (.var 3)]) (.zip2 (.var 1) (.slc false (.var 1) (some (.cst (.int (1)))) none)) none (.cmp .lt (.var 2) (.var 3)))])]⟩
def t_is_lot : Dt := ⟨("is_lot", none), "is_lot", "is_lot", L2.defArgs (top 24), L2.defBody (top 24), L2.defScope (top 24), ["family", "thing", "one", "other"], ["family", "thing"], some d_is_lot, false⟩
def d_whole_of : Def := ⟨1, 1, [.ret (.trng (.attr (.var 0) 1))]⟩
def t_whole_of : Dt := ⟨("whole_of", none), "whole_of", "whole_of", L2.defArgs (top 25), L2.defBody (top 25), L2.defScope (top 25), ["family"], ["family"], some d_whole_of, false⟩
def d_made_by : Def := ⟨4, 2, [.ret (.bi .tuple [(.lc false [2] (.var 2) (.rng1 (.bi .len [(.var 0)])) (some (.bi .any [(.lc false [3] (.var 3) (.var 1) none (.cmp .gt (.sub (.sub (.var 0) (.var 3)) (.var 2)) (.cst (.int (0)))))])) (.var 2))])]⟩
def t_made_by : Dt := ⟨("made_by", none), "made_by", "made_by", L2.defArgs (top 26), L2.defBody (top 26), L2.defScope (top 26), ["table", "lot", "place", "one"], ["table", "lot"], some d_made_by, false⟩
def d_made : Def := ⟨3, 3, [.expr (.meth 3 2 9 true [] (.var 0) [(.var 1)]),
  .ite (.not (.call 17 true [] [(.var 0), (.var 2)])) [.raise 2 (.var 2)] [],
  .ret (.call 19 true [] [(.sub (.attr (.var 0) 0) (.var 1)), (.var 2)])]⟩
def t_made : Dt := ⟨("made", none), "made", "made", L2.defArgs (top 27), L2.defBody (top 27), L2.defScope (top 27), ["family", "number", "lot"], ["family", "number", "lot"], some d_made, false⟩
def d_words_to_lots : Def := ⟨9, 1, [.asg (.var 1) (.call 18 true [] [(.var 0)]),
  .par [(.var 2), (.var 3)] [(.dct true [(.var 1), (.tup [])]), (.lst false [(.var 1)])],
  .whl (.cmp .ne (.var 3) (.lst false [])) [.asg (.var 4) (.lst true []),
  .for_ (.var 5) (.var 3) [.for_ (.tup [(.var 6), (.var 7)]) (.enum 0 (.attr (.var 0) 0)) [.asg (.var 8) (.call 19 true [] [(.var 7), (.var 5)]),
  .ite (.cmp .notin (.var 8) (.var 2)) [.asg (.sub (.var 2) (.var 8)) (.tup [(.star (.sub (.var 2) (.var 5))), (.var 6)]),
  .expr (.mth .append (.var 4) [(.var 8)])] []]],
  .asg (.var 3) (.var 4)],
  .ret (.var 2)]⟩
def t_words_to_lots : Dt := ⟨("words_to_lots", none), "words_to_lots", "words_to_lots", L2.defArgs (top 28), L2.defBody (top 28), L2.defScope (top 28), ["family", "begin", "found", "row", "further", "lot", "number", "table", "more"], ["family"], some d_words_to_lots, false⟩
def d_nought_word : Def := ⟨1, 1, [.ret (.dget (.call 21 false [] [(.var 0)]) (.tup []))]⟩
def t_nought_word : Dt := ⟨("nought_word", none), "nought_word", "nought_word", L2.defArgs (top 29), L2.defBody (top 29), L2.defScope (top 29), ["family"], ["family"], some d_nought_word, false⟩
def d_lots_made : Def := ⟨1, 1, [.ret (.bi .tuple [(.bi (.sorted false) [(.bi (.list false) [(.call 21 false [] [(.var 0)])])])])]⟩
def t_lots_made : Dt := ⟨("lots_made", none), "lots_made", "lots_made", L2.defArgs (top 30), L2.defBody (top 30), L2.defScope (top 30), ["family"], ["family"], some d_lots_made, false⟩
def d_nought_paper : Def := ⟨2, 1, [.asg (.var 1) (.call 22 true [] [(.var 0)]),
  .ret (.ite (.cmp .isnot (.var 1) (.cst .non)) (.tup [(.glob ⟨#[87, 79, 82, 68]⟩ (.str ⟨#[119, 111, 114, 100]⟩)), (.var 1)]) (.tup [(.glob ⟨#[67, 76, 79, 83, 69, 68]⟩ (.str ⟨#[99, 108, 111, 115, 101, 100]⟩)), (.call 23 true [] [(.var 0)])]))]⟩
def t_nought_paper : Dt := ⟨("nought_paper", none), "nought_paper", "nought_paper", L2.defArgs (top 31), L2.defBody (top 31), L2.defScope (top 31), ["family", "word"], ["family"], some d_nought_paper, false⟩
def d_is_closed : Def := ⟨6, 2, [.ite (.or [(.not (.isi (.var 1) [.tuple])), (.not (.bi .all [(.lc false [4] (.var 4) (.var 1) none (.and [(.call 17 true [] [(.var 0), (.var 4)]), (.cmp .ne (.var 4) (.tup []))]))]))]) [.ret (.cst (.bl false))] [],
  .ite (.or [(.not (.bi .all [(.lc false [4, 5] (.tup [(.var 4), (.var 5)]) (.zip2 (.var 1) (.slc false (.var 1) (some (.cst (.int (1)))) none)) none (.cmp .lt (.var 4) (.var 5)))])), (.cmp .notin (.call 18 true [] [(.var 0)]) (.var 1))]) [.ret (.cst (.bl false))] [],
  .ret (.bi .all [(.lc2 false [2, 3] [3] (.var 2) (.var 1) (.var 3) (.attr (.var 0) 0) none (.cmp .in_ (.call 19 true [] [(.var 3), (.var 2)]) (.var 1)))])]⟩
def t_is_closed : Dt := ⟨("is_closed", none), "is_closed", "is_closed", L2.defArgs (top 32), L2.defBody (top 32), L2.defScope (top 32), ["family", "thing", "lot", "table", "one", "other"], ["family", "thing"], some d_is_closed, false⟩
def d_is_nought_paper : Def := ⟨2, 2, [.ite (.or [(.not (.isi (.var 1) [.tuple])), (.cmp .ne (.bi .len [(.var 1)]) (.cst (.int (2)))), (.not (.isi (.sub (.var 1) (.cst (.int (0)))) [.str]))]) [.ret (.cst (.bl false))] [],
  .ite (.cmp .eq (.sub (.var 1) (.cst (.int (0)))) (.glob ⟨#[67, 76, 79, 83, 69, 68]⟩ (.str ⟨#[99, 108, 111, 115, 101, 100]⟩))) [.ret (.call 25 true [] [(.var 0), (.sub (.var 1) (.cst (.int (1))))])] [],
  .ite (.or [(.cmp .ne (.sub (.var 1) (.cst (.int (0)))) (.glob ⟨#[87, 79, 82, 68]⟩ (.str ⟨#[119, 111, 114, 100]⟩))), (.not (.call 12 true [] [(.var 0), (.sub (.var 1) (.cst (.int (1))))]))]) [.ret (.cst (.bl false))] [],
  .ret (.cmp .eq (.call 16 true [] [(.call 15 true [] [(.var 0), (.sub (.var 1) (.cst (.int (1))))])]) (.cst (.int (0))))]⟩
def t_is_nought_paper : Dt := ⟨("is_nought_paper", none), "is_nought_paper", "is_nought_paper", L2.defArgs (top 33), L2.defBody (top 33), L2.defScope (top 33), ["family", "thing"], ["family", "thing"], some d_is_nought_paper, false⟩
def d__law_begun : Def := ⟨2, 1, [.ret (.dct false [(.cst (.str ⟨#[99, 101, 108, 108, 115]⟩)), (.bi (.list false) [(.var 0)]), (.cst (.str ⟨#[108, 101, 102, 116]⟩)), (.lc true [1] (.var 1) (.var 0) (some (.cmp .ge (.var 1) (.bin .pow (.cst (.int (10))) (.cst (.int (18)))))) (.var 1)), (.cst (.str ⟨#[97, 116]⟩)), (.cst (.int (0)))])]⟩
def t__law_begun : Dt := ⟨("_law_begun", none), "_law_begun", "_law_begun", L2.defArgs (top 35), L2.defBody (top 35), L2.defScope (top 35), ["script", "cell"], ["script"], some d__law_begun, false⟩
def d__law_next : Def := ⟨7, 2, [.whl (.and [(.cmp .ne (.sub (.var 0) (.cst (.str ⟨#[108, 101, 102, 116]⟩))) (.lst false [])), (.cmp .eq (.sub (.sub (.var 0) (.cst (.str ⟨#[108, 101, 102, 116]⟩))) (.cst (.int (0)))) (.cst (.int (0))))]) [.asg (.sub (.var 0) (.cst (.str ⟨#[108, 101, 102, 116]⟩))) (.slc true (.sub (.var 0) (.cst (.str ⟨#[108, 101, 102, 116]⟩))) (some (.cst (.int (1)))) none)],
  .ite (.cmp .ne (.sub (.var 0) (.cst (.str ⟨#[108, 101, 102, 116]⟩))) (.lst false [])) [.asg (.var 4) (.sub (.sub (.var 0) (.cst (.str ⟨#[108, 101, 102, 116]⟩))) (.cst (.int (0)))),
  .asg (.sub (.sub (.var 0) (.cst (.str ⟨#[108, 101, 102, 116]⟩))) (.cst (.int (0)))) (.bin .fdiv (.var 4) (.var 1)),
  .ret (.bin .mod (.bi .int [(.var 4)]) (.var 1))] [],
  .par [(.var 5), (.var 6)] [(.bin .add (.sub (.var 0) (.cst (.str ⟨#[97, 116]⟩))) (.cst (.int (1)))), (.sub (.var 0) (.cst (.str ⟨#[99, 101, 108, 108, 115]⟩)))],
  .asg (.sub (.var 0) (.cst (.str ⟨#[97, 116]⟩))) (.var 5),
  .asg (.var 2) (.ite (.cmp .ne (.var 6) (.lst false [])) (.bi .int [(.sub (.var 6) (.bin .mod (.bi .int [(.bin .add (.bin .mul (.var 5) (.var 5)) (.bin .fdiv (.var 5) (.cst (.int (2)))))]) (.bi .len [(.var 6)])))]) (.cst (.int (5)))),
  .asg (.var 3) (.bin .mod (.bi .int [(.bin .add (.bin .add (.bin .mul (.var 2) (.cst (.int (40692)))) (.bin .mul (.var 5) (.cst (.int (65539))))) (.bin .mul (.bin .mul (.cst (.int (7001))) (.var 5)) (.var 5)))]) (.cst (.int (2147483399)))),
  .ret (.bin .mod (.bi .int [(.bin .fdiv (.bin .mod (.bi .int [(.bin .add (.bin .mul (.var 3) (.cst (.int (48271)))) (.bin .mul (.cst (.int (1013))) (.var 5)))]) (.cst (.int (2147483647)))) (.cst (.int (13))))]) (.var 1))]⟩
def t__law_next : Dt := ⟨("_law_next", none), "_law_next", "_law_next", L2.defArgs (top 36), L2.defBody (top 36), L2.defScope (top 36), ["m", "many", "cell", "blend", "rest", "at", "bits"], ["m", "many"], some d__law_next, false⟩
/- _law_heard: st try:
    return [call()]
except GrowthError as e:
    return ('number', e.value) if isinstance(e, BadNumber) else ('odd', None) -/
def t__law_heard : Dt := ⟨("_law_heard", none), "_law_heard", "_law_heard", L2.defArgs (top 37), L2.defBody (top 37), L2.defScope (top 37), ["call", "e"], ["call"], none, false⟩
def d__law_hand_right : Def := ⟨12, 1, [.asg (.var 1) (.new 3 [] [(.lst false [(.tup [(.tup [(.cst (.int (0))), (.var 0), (.cst (.int (0)))]), (.tup [(.cst (.int (0))), (.cst (.int (0))), (.cst (.int (1)))]), (.tup [(.cst (.int (1))), (.cst (.int (0))), (.cst (.int (0)))])]), (.tup [(.tup [(.cst (.int (1))), (.cst (.int (0))), (.cst (.int (0)))]), (.tup [(.cst (.int (0))), (.cst (.int (1))), (.cst (.int (0)))]), (.tup [(.cst (.int (0))), (.cst (.int (0))), (.cst (.int (0)))])])])]),
  .ite (.or [(.cmp .ne (.call 22 true [] [(.var 1)]) (.tup [(.cst (.int (1))), (.cst (.int (0))), (.cst (.int (1))), (.cst (.int (0))), (.cst (.int (1)))])), (.cmp .isnot (.call 26 true [] [(.var 1), (.tup [(.cst (.str ⟨#[119, 111, 114, 100]⟩)), (.tup [(.cst (.int (1))), (.cst (.int (0))), (.cst (.int (1))), (.cst (.int (0))), (.cst (.int (1)))])])]) (.cst (.bl true)))]) [.ret (.cst (.bl false))] [],
  .asg (.var 2) (.tup [(.tup []), (.tup [(.cst (.int (0)))]), (.tup [(.cst (.int (0))), (.cst (.int (1)))]), (.tup [(.cst (.int (0))), (.cst (.int (1))), (.cst (.int (2)))]), (.tup [(.cst (.int (0))), (.cst (.int (2)))]), (.tup [(.cst (.int (1)))]), (.tup [(.cst (.int (1))), (.cst (.int (2)))]), (.tup [(.cst (.int (2)))])]),
  .ite (.or [(.cmp .ne (.call 23 true [] [(.var 1)]) (.var 2)), (.cmp .ne (.sub (.call 24 true [] [(.var 1)]) (.cst (.int (0)))) (.cst (.str ⟨#[119, 111, 114, 100]⟩))), (.call 25 true [] [(.var 1), (.slc false (.var 2) (some (.cst (.int (1)))) none)])]) [.ret (.cst (.bl false))] [],
  .asg (.var 3) (.new 3 [] [(.lst false [(.tup [(.tup [(.cst (.int (0))), (.var 0)]), (.tup [(.cst (.int (0))), (.cst (.int (9)))])]), (.tup [(.tup [(.cst (.int (1))), (.cst (.int (0)))]), (.tup [(.cst (.int (0))), (.cst (.int (0)))])])])]),
  .ite (.or [(.cmp .ne (.call 22 true [] [(.var 3)]) (.tup [(.cst (.int (0))), (.cst (.int (1)))])), (.cmp .ne (.call 23 true [] [(.var 3)]) (.tup [(.tup []), (.tup [(.cst (.int (0)))]), (.tup [(.cst (.int (0))), (.cst (.int (1)))]), (.tup [(.cst (.int (1)))])]))]) [.ret (.cst (.bl false))] [],
  .asg (.var 4) (.new 3 [] [(.lst false [(.tup [(.tup [(.cst (.int (1))), (.cst (.int (0)))]), (.tup [(.var 0), (.cst (.int (0)))])]), (.tup [(.tup [(.cst (.int (0))), (.cst (.int (1)))]), (.tup [(.cst (.int (0))), (.cst (.int (1)))])])])]),
  .ite (.or [(.cmp .isnot (.call 22 true [] [(.var 4)]) (.cst .non)), (.cmp .ne (.call 23 true [] [(.var 4)]) (.tup [(.tup [(.cst (.int (0)))]), (.tup [(.cst (.int (0))), (.cst (.int (1)))]), (.tup [(.cst (.int (1)))])]))]) [.ret (.cst (.bl false))] [],
  .ite (.or [(.cmp .ne (.sub (.call 24 true [] [(.var 4)]) (.cst (.int (0)))) (.cst (.str ⟨#[99, 108, 111, 115, 101, 100]⟩))), (.not (.call 25 true [] [(.var 4), (.tup [(.tup [(.cst (.int (0)))]), (.tup [(.cst (.int (0))), (.cst (.int (1)))]), (.tup [(.cst (.int (1)))])])]))]) [.ret (.cst (.bl false))] [],
  .ite (.or [(.call 25 true [] [(.var 4), (.tup [(.tup [(.cst (.int (0)))]), (.tup [(.cst (.int (0))), (.cst (.int (1)))])])]), (.call 25 true [] [(.var 4), (.tup [(.tup []), (.tup [(.cst (.int (0)))]), (.tup [(.cst (.int (0))), (.cst (.int (1)))]), (.tup [(.cst (.int (1)))])])]), (.call 25 true [] [(.var 4), (.tup [(.tup [(.cst (.int (0)))]), (.tup [(.cst (.int (1)))])])])]) [.ret (.cst (.bl false))] [],
  .asg (.var 5) (.new 3 [] [(.lst false [(.tup [(.tup [(.cst (.int (1))), (.cst (.int (0)))]), (.tup [(.cst (.int (0))), (.cst (.int (1)))])])])]),
  .ite (.cmp .ne (.lc false [10] (.var 10) (.tup [(.tup [(.tup [(.cst (.int (0))), (.cst (.int (1)))])]), (.tup [(.tup [(.cst (.int (0)))]), (.tup [(.cst (.int (0))), (.cst (.int (1)))])]), (.tup [(.tup [(.cst (.int (0))), (.cst (.int (1)))]), (.tup [(.cst (.int (0)))])])]) none (.call 25 true [] [(.var 5), (.var 10)])) (.lst false [(.cst (.bl true)), (.cst (.bl true)), (.cst (.bl false))])) [.ret (.cst (.bl false))] [],
  .asg (.var 6) (.new 3 [] [(.lst false [(.tup [(.tup [(.var 0), (.cst (.int (0)))]), (.tup [(.cst (.int (0))), (.cst (.int (0)))])]), (.tup [(.tup [(.cst (.int (0))), (.cst (.int (0)))]), (.tup [(.cst (.int (0))), (.cst (.int (1)))])])])]),
  .ite (.or [(.cmp .ne (.call 22 true [] [(.var 6)]) (.tup [(.cst (.int (0))), (.cst (.int (1)))])), (.cmp .ne (.call 23 true [] [(.var 6)]) (.tup [(.tup []), (.tup [(.cst (.int (0)))]), (.tup [(.cst (.int (0))), (.cst (.int (1)))]), (.tup [(.cst (.int (1)))])]))]) [.ret (.cst (.bl false))] [],
  .asg (.var 7) (.lc false [9] (.var 9) (.tup [(.tup []), (.tup [(.cst (.int (0)))]), (.tup [(.cst (.int (1)))]), (.tup [(.cst (.int (0))), (.cst (.int (1)))]), (.tup [(.cst (.int (1))), (.cst (.int (0)))]), (.tup [(.cst (.int (1))), (.cst (.int (1))), (.cst (.int (0)))])]) none (.call 26 true [] [(.var 6), (.tup [(.cst (.str ⟨#[119, 111, 114, 100]⟩)), (.var 9)])])),
  .ite (.cmp .ne (.var 7) (.lst false [(.cst (.bl false)), (.cst (.bl false)), (.cst (.bl false)), (.cst (.bl true)), (.cst (.bl true)), (.cst (.bl true))])) [.ret (.cst (.bl false))] [],
  .asg (.var 8) (.new 3 [] [(.lst false [(.tup [(.tup [(.cst (.int (0)))])])])]),
  .ite (.cmp .ne (.lc false [11] (.var 11) (.tup [(.cst (.int (400))), (.cst (.int (401)))]) none (.call 26 true [] [(.var 8), (.tup [(.cst (.str ⟨#[119, 111, 114, 100]⟩)), (.bin .mul (.tup [(.cst (.int (0)))]) (.var 11))])])) (.lst false [(.cst (.bl true)), (.cst (.bl false))])) [.ret (.cst (.bl false))] [],
  .ret (.and [(.cmp .eq (.call 22 true [] [(.var 8)]) (.tup [(.cst (.int (0)))])), (.cmp .eq (.call 23 true [] [(.var 8)]) (.tup [(.tup []), (.tup [(.cst (.int (0)))])])), (.cmp .eq (.call 20 true [] [(.var 8), (.cst (.int (0))), (.tup [(.cst (.int (0)))])]) (.tup []))])]⟩
def t__law_hand_right : Dt := ⟨("_law_hand_right", none), "_law_hand_right", "_law_hand_right", L2.defArgs (top 38), L2.defBody (top 38), L2.defScope (top 38), ["high", "ring", "due", "stay", "fine", "wide", "split", "told", "bare", "word", "thing", "long"], ["high"], some d__law_hand_right, false⟩
def d__law_refused_right : Def := ⟨6, 1, [.asg (.var 1) (.new 3 [] [(.lst false [(.tup [(.tup [(.cst (.int (0))), (.var 0), (.cst (.int (0)))]), (.tup [(.cst (.int (0))), (.cst (.int (0))), (.cst (.int (1)))]), (.tup [(.cst (.int (0))), (.cst (.int (0))), (.cst (.int (0)))])]), (.tup [(.tup [(.cst (.int (1))), (.cst (.int (0))), (.cst (.int (0)))]), (.tup [(.cst (.int (1))), (.cst (.int (0))), (.cst (.int (0)))]), (.tup [(.cst (.int (0))), (.cst (.int (0))), (.cst (.int (1)))])])])]),
  .for_ (.var 2) (.tup [(.cst .non), (.neg (.cst (.int (1)))), (.cst (.int (2))), (.cst (.bl true)), (.cst (.str ⟨#[48]⟩)), (.tup [(.cst (.int (0)))]), (.lst false []), (.dct false []), (.bin .pow (.cst (.int (10))) (.cst (.int (30))))]) [.ite (.rne (.hrd 29 [(2, ⟨#[110, 117, 109, 98, 101, 114]⟩)] (.call 20 true [] [(.var 1), (.var 2), (.cst .non)])) (.tup [(.cst (.str ⟨#[110, 117, 109, 98, 101, 114]⟩)), (.var 2)])) [.ret (.cst (.bl false))] []],
  .for_ (.var 2) (.tup [(.cst .non), (.cst (.int (0))), (.lst false [(.cst (.int (0)))]), (.tup [(.cst (.int (0))), (.cst (.int (0)))]), (.tup [(.cst (.int (1))), (.cst (.int (0)))]), (.tup [(.cst (.int (3)))]), (.tup [(.neg (.cst (.int (1))))]), (.tup [(.cst (.bl true))]), (.tup [(.cst (.str ⟨#[48]⟩))]), (.tup [(.tup [(.cst (.int (0)))])]), (.dct false []), (.cst (.str ⟨#[48]⟩))]) [.ite (.rne (.hrd 29 [(2, ⟨#[110, 117, 109, 98, 101, 114]⟩)] (.call 20 true [] [(.var 1), (.cst (.int (1))), (.var 2)])) (.tup [(.cst (.str ⟨#[110, 117, 109, 98, 101, 114]⟩)), (.var 2)])) [.ret (.cst (.bl false))] []],
  .asg (.var 3) (.lst false [(.tup []), (.tup [(.cst (.int (0)))]), (.tup [(.cst (.int (0))), (.cst (.int (1)))]), (.tup [(.cst (.int (2)))]), (.tup [(.cst (.int (0))), (.cst (.int (1))), (.cst (.int (2)))])]),
  .asg (.var 4) (.bin .add (.lc false [5] (.var 5) (.var 3) none (.call 20 true [] [(.var 1), (.cst (.int (0))), (.var 5)])) (.lc false [5] (.var 5) (.var 3) none (.call 20 true [] [(.var 1), (.cst (.int (1))), (.var 5)]))),
  .ret (.cmp .eq (.var 4) (.lst false [(.tup []), (.tup [(.cst (.int (1)))]), (.tup [(.cst (.int (1))), (.cst (.int (2)))]), (.tup []), (.tup [(.cst (.int (1))), (.cst (.int (2)))]), (.tup []), (.tup [(.cst (.int (0)))]), (.tup [(.cst (.int (0)))]), (.tup [(.cst (.int (2)))]), (.tup [(.cst (.int (0))), (.cst (.int (2)))])]))]⟩
def t__law_refused_right : Dt := ⟨("_law_refused_right", none), "_law_refused_right", "_law_refused_right", L2.defArgs (top 39), L2.defBody (top 39), L2.defScope (top 39), ["high", "family", "odd", "some", "told", "lot"], ["high"], some d__law_refused_right, true⟩
def d_law : Def := ⟨4, 1, [.asg (.var 1) (.call 27 false [] [(.var 0)]),
  .for_ (.var 2) (.rng1 (.bin .add (.cst (.int (2))) (.bi .min2 [(.bi .len [(.var 0)]), (.cst (.int (6)))]))) [.asg (.var 3) (.bin .add (.cst (.int (1))) (.call 28 false [] [(.var 1), (.cst (.int (9)))])),
  .ite (.or [(.not (.callG 30 [] [(.var 3)])), (.not (.callG 31 [] [(.var 3)]))]) [.ret (.cst (.bl false))] []],
  .ret (.cst (.bl true))]⟩
def t_law : Dt := ⟨("law", none), "law", "law", L2.defArgs (top 40), L2.defBody (top 40), L2.defScope (top 40), ["script", "m", "turn", "high"], ["script"], some d_law, false⟩
def cls : List Cd := [⟨"GrowthError", none, none, [], [], false, "value", false⟩,
  ⟨"BadTables", none, none, [], [], false, "place", true⟩,
  ⟨"BadNumber", none, none, [], [], false, "value", true⟩,
  ⟨"Family", some 5, some 7, [0, 1], [("with_table", 8), ("need_number", 9), ("without_table", 10), ("changed", 11)], true, "value", false⟩]
def tx : Tx := ⟨PySem.Challenge.pw_growthkinds_k43_noughts_by_hand_and_refu.main.file, [t__wall, t_is_number, t_is_among, t_is_line, t_is_table, t_Family___init__, t_Family___len__, t_Family___eq__, t_Family_with_table, t_Family_need_number, t_Family_without_table, t_Family_changed, t_is_word, t_ones, t_times, t_product_of, t_sum_of, t_is_lot, t_whole_of, t_made_by, t_made, t_words_to_lots, t_nought_word, t_lots_made, t_nought_paper, t_is_closed, t_is_nought_paper, t__law_begun, t__law_next, t__law_heard, t__law_hand_right, t__law_refused_right, t_law], cls, ["tables", "many", "?2"], [("MOST_PLACES", (.int (4))), ("MOST_TABLES", (.int (3))), ("MOST_ENTRY", (.int (9))), ("MOST_LONG", (.int (400))), ("WORD", (.str ⟨#[119, 111, 114, 100]⟩)), ("CLOSED", (.str ⟨#[99, 108, 111, 115, 101, 100]⟩))], [(29, 0, [(2, ⟨#[110, 117, 109, 98, 101, 114]⟩)])]⟩
abbrev f__wall : Nat := 0
abbrev f_is_number : Nat := 1
abbrev f_is_among : Nat := 2
abbrev f_is_line : Nat := 3
abbrev f_is_table : Nat := 4
abbrev f_Family___init__ : Nat := 5
abbrev f_Family___len__ : Nat := 6
abbrev f_Family___eq__ : Nat := 7
abbrev f_Family_with_table : Nat := 8
abbrev f_Family_need_number : Nat := 9
abbrev f_Family_without_table : Nat := 10
abbrev f_Family_changed : Nat := 11
abbrev f_is_word : Nat := 12
abbrev f_ones : Nat := 13
abbrev f_times : Nat := 14
abbrev f_product_of : Nat := 15
abbrev f_sum_of : Nat := 16
abbrev f_is_lot : Nat := 17
abbrev f_whole_of : Nat := 18
abbrev f_made_by : Nat := 19
abbrev f_made : Nat := 20
abbrev f_words_to_lots : Nat := 21
abbrev f_nought_word : Nat := 22
abbrev f_lots_made : Nat := 23
abbrev f_nought_paper : Nat := 24
abbrev f_is_closed : Nat := 25
abbrev f_is_nought_paper : Nat := 26
abbrev f__law_begun : Nat := 27
abbrev f__law_next : Nat := 28
abbrev f__law_heard : Nat := 29
abbrev f__law_hand_right : Nat := 30
abbrev f__law_refused_right : Nat := 31
abbrev f_law : Nat := 32
end K43
end
section
namespace K43
open PySem PySem.W PySem.Calls PyProof.Rows
abbrev R : OpenRow := OpenLaw.row PySem.Challenge.rw_growthkinds_k43_noughts_by_hand_and_refu
abbrev hk : Hook := RV.hookR 6 tx
def ob (s : SharedT) : He.AlD × Bool := RV.obsRG 6 tx (HandSHeadRun.getT s)
theorem ob_eq (s : SharedT) : ob s = hk.obs s.abs := RV.obsRG_eq (HandSHeadRun.getT_eq s)
abbrev qv : Program := view R.prog [40]
def names : List PySem.Str := (["_wall", "GrowthError", "BadTables", "BadNumber", "MOST_PLACES", "MOST_TABLES", "MOST_ENTRY", "is_number", "is_among", "is_line", "is_table", "Family", "MOST_LONG", "is_word", "ones", "times", "product_of", "sum_of", "WORD", "CLOSED", "is_lot", "whole_of", "made_by", "made", "words_to_lots", "nought_word", "lots_made", "nought_paper", "is_closed", "is_nought_paper"] : List PySem.Str) ++ (["_law_begun", "_law_next", "_law_heard", "_law_hand_right", "_law_refused_right"] : List PySem.Str)
theorem run (w : World) : HandSHeadRun.RunEq R qv hk ob 4000 names w := by
  intro os
  kernel_rfl
end K43
end
section
/-! L43: the inner laws run, plain. -/
namespace K43
open RV PySem
def G (f : Nat) : Option DefF := match Nat.beq f f_times with
  | true => some timesF
  | false => none
theorem fastOk : FastOk tx G := ⟨fun f F e => by
  unfold G at e
  cases q : Nat.beq f f_times with
  | false => rw [q] at e; cases e
  | true =>
    rw [q] at e
    cases e
    have ef := Nat.eq_of_beq_eq_true q
    subst ef
    exact ⟨dTimes, rfl, fun Φ B vs S => times_ok vs⟩⟩
abbrev Φ (d : Nat) : Nat → DefF := PhiF tx.cfg tx.tbl G d
end K43
end
section
/-! N43: the inner laws at 1 to 9. -/
namespace K43
open RV PySem
theorem hand_1 : isT (Φ 16 f__law_hand_right [] [.int 1] []) = true := by decide +kernel
theorem refused_1 : isT (Φ 16 f__law_refused_right [] [.int 1] []) = true := by decide +kernel
theorem hand_2 : isT (Φ 16 f__law_hand_right [] [.int 2] []) = true := by decide +kernel
theorem refused_2 : isT (Φ 16 f__law_refused_right [] [.int 2] []) = true := by decide +kernel
theorem hand_3 : isT (Φ 16 f__law_hand_right [] [.int 3] []) = true := by decide +kernel
theorem refused_3 : isT (Φ 16 f__law_refused_right [] [.int 3] []) = true := by decide +kernel
theorem hand_4 : isT (Φ 16 f__law_hand_right [] [.int 4] []) = true := by decide +kernel
theorem refused_4 : isT (Φ 16 f__law_refused_right [] [.int 4] []) = true := by decide +kernel
theorem hand_5 : isT (Φ 16 f__law_hand_right [] [.int 5] []) = true := by decide +kernel
theorem refused_5 : isT (Φ 16 f__law_refused_right [] [.int 5] []) = true := by decide +kernel
theorem hand_6 : isT (Φ 16 f__law_hand_right [] [.int 6] []) = true := by decide +kernel
theorem refused_6 : isT (Φ 16 f__law_refused_right [] [.int 6] []) = true := by decide +kernel
theorem hand_7 : isT (Φ 16 f__law_hand_right [] [.int 7] []) = true := by decide +kernel
theorem refused_7 : isT (Φ 16 f__law_refused_right [] [.int 7] []) = true := by decide +kernel
theorem hand_8 : isT (Φ 16 f__law_hand_right [] [.int 8] []) = true := by decide +kernel
theorem refused_8 : isT (Φ 16 f__law_refused_right [] [.int 8] []) = true := by decide +kernel
theorem hand_9 : isT (Φ 16 f__law_hand_right [] [.int 9] []) = true := by decide +kernel
theorem refused_9 : isT (Φ 16 f__law_refused_right [] [.int 9] []) = true := by decide +kernel
end K43
end
section
/-! M43: the law tells True. -/
namespace K43
open RV PySem
abbrev fm : Fm := ⟨f__law_begun, f__law_next, 9, 1, .bin .add (.cst (.int (1))) (.call f__law_next false [] [(.var 1), (.cst (.int (9)))]), 2, 6, .or [askF f__law_hand_right, askF f__law_refused_right]⟩
theorem in9 {r : Int} (h0 : 0 ≤ r) (h1 : r < 9) : isT (Φ 16 f__law_hand_right [] [.int (1 + r)] []) = true ∧ isT (Φ 16 f__law_refused_right [] [.int (1 + r)] []) = true := by
  have : r = 0 ∨ r = 1 ∨ r = 2 ∨ r = 3 ∨ r = 4 ∨ r = 5 ∨ r = 6 ∨ r = 7 ∨ r = 8 := by omega
  rcases this with rfl | rfl | rfl | rfl | rfl | rfl | rfl | rfl | rfl
  · exact ⟨hand_1, refused_1⟩
  · exact ⟨hand_2, refused_2⟩
  · exact ⟨hand_3, refused_3⟩
  · exact ⟨hand_4, refused_4⟩
  · exact ⟨hand_5, refused_5⟩
  · exact ⟨hand_6, refused_6⟩
  · exact ⟨hand_7, refused_7⟩
  · exact ⟨hand_8, refused_8⟩
  · exact ⟨hand_9, refused_9⟩
theorem fmOk : FmOk tx.cfg (Φ 16) fm where
  bg := fun ns v hn hv => by
    obtain ⟨S1, e1, ⟨left, h1, hl⟩, _⟩ := begun_ok (C := tx.cfg) (Φ := Φ 15) hv hn
    exact ⟨S1, left, e1, h1, by omega⟩
  nx := fun h hl k0 k1 => by
    obtain ⟨r, S1, k', l', left', e1, r0, r1, h1, _, le, k2, k3⟩ := next_ok (C := tx.cfg) (Φ := Φ 15) (many := 9) h hl k0 k1 (by decide) (by decide)
    exact ⟨r, S1, k', l', left', e1, r0, r1, h1, le, k2, k3⟩
  xe := fun {ρ S S1 r} hρ e => ev_bin ev_cst (ev_call (evA_cons rfl (ev_var hρ) (evA_cons rfl ev_cst evA_nil)) rfl e) rfl
  cond := fun {ρ S r} h0 h1 hρ => by
    obtain ⟨a, b⟩ := in9 h0 h1
    exact ev_or (ev_orF (ask_ok (C := tx.cfg) (Φ := Φ 16) (S := S) hρ a) (ev_or1 (ask_ok (C := tx.cfg) (Φ := Φ 16) (S := S) hρ b)))
  r0 := by decide
  rm := by decide
theorem law_true (ns : List Int) (v : PV) (hn : ns.length ≤ 63) (hv : IsScr ns v) : ∃ S', PhiF tx.cfg tx.tbl G 17 f_law [] [v] [] = .ok (.bl true) S' := fm_true fmOk ns v hn hv
end K43
end
section
open PySem PySem.W PySem.Calls PyProof.Rows
theorem K43.txok : RV.txB K43.tx = true := by decide +kernel
theorem PySem.Challenge.cw_growthkinds_k43_noughts_by_hand_and_refu_holds : PySem.Challenge.rw_growthkinds_k43_noughts_by_hand_and_refu.Holds := by
  w_on; o_law
  refine HandSHeadRun.head_any (r := K43.R) (q := K43.qv) (H := K43.hk) (ob := K43.ob) (M := 4000) (loose := K43.names) (d := HandSHeadRun.topDef K43.R.prog 40) (kwd := []) K43.ob_eq
    (by kernel_rfl) (fun s => by kernel_rfl) K43.run (by kernel_rfl) (by kernel_rfl) (by kernel_rfl) (by rfl) (by first | assumption | decide +kernel) (by decide +kernel) ⟨rfl, rfl, rfl, rfl, rfl, by decide +kernel⟩ ?hw ?hc
  case hw => w_witness2
  case hc =>
    have nm : (HandSHeadRun.topDef K43.R.prog 40).name = ("law" : PySem.Str) := by kernel_rfl
    exact RV.walk_R (l := PySem.Challenge.rw_growthkinds_k43_noughts_by_hand_and_refu) (n := 63) (k := 4 * 17) rfl (by decide) (by kernel_rfl) ⟨⟨rfl, by decide, by decide⟩, rfl⟩
      (fun w mg fa h Y G m => RV.law_endF (fa_ := K43.fastOk) (fo := ⟨rfl, by kernel_rfl⟩) (fl := K43.f_law) (dep := 17) (t := K43.t_law) K43.txok rfl rfl rfl K43.law_true w mg fa h Y G (nm ▸ m))
end
