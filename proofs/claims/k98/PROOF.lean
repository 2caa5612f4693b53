import PyProof.Rows.All
import Wide.All
import OpenK.AllK
import Wide.FinOn
import HandS.Text
import KE.SortData
import PyProof.ReprReads
import HandS.ForMost
import HandS.TupAny
import HandS.FStr
import HandS.IsInst
import HandS.Deep
import HandS.Exc
import HandS.Defaults
import HandS.SetKeys
import HandS.DictTup
import HandS.DictComp
import HandS.TupLen
import HandS.Flow
import HandS.HeadEnd
import HandS.ExcInit
import PyProof.Rows.InDataRows
import PyProof.ReprText
import PyProof.CallFns
import HandS.Replace
import HandS.StrMore
import HandS.Small
import HandS.Zip
import HandS.Iter
import HandS.Star
import HandS.ExcIs
import HandS.ExcField
import HandS.TryOnly
import HandS.Ends
import HandS.ClsMeth
import HandS.Words
import HandS.Head0
import HandS.Head1
import HandS.Head2
import HandS.HeadHook1
import HandS.HeadHook2
import PySem.Challenge.RW_takenapart_k98_errors_stand_apart
set_option autoImplicit false
set_option linter.all false
/-! Mp0: a small language (slots, not names), its data, its interpreter. Nothing of the model of Python here but texts. -/
namespace MP

/-! ### data -/
/-- a value: what is never changed is data (texts are lists of code points); what is changed is a place in the store -/
inductive D where
  | non
  | bl (b : Bool)
  | int (i : Int)
  | str (x : List Nat)
  | tup (xs : List D)
  | con (xs : List D)
  | kl (xs : List D)
  | lst (xs : List D)
  | obj (c : Nat) (fs : List D)
  | exc (c : Nat) (w p : D)
  | loc (k : Nat)
  | fn (f : Nat)
  | cls (c : Nat)
  | ty (n : Nat)
instance : Inhabited D := ⟨.non⟩
/-- the built-in classes that isinstance asks for -/
def tyN : Nat → String
  | 0 => "int"
  | 1 => "bool"
  | 2 => "str"
  | 3 => "tuple"
  | _ => "list"

/-- a thing in the store -/
inductive Ob where
  | lst (xs : List D)
  | dct (t : Bool) (kvs : List (D × D))
  | set (xs : List D)
  | ins (c : Nat) (fs : List D)
  | dead

/-- newest first; the place of a thing is the number of things below it -/
abbrev Store := List Ob
def sget {α : Type} : List α → Nat → Option α
  | [], _ => none
  | o :: r, k => if k = r.length then some o else sget r k
def sput {α : Type} : List α → Nat → α → List α
  | [], _, _ => []
  | o :: r, k, x => if k = r.length then x :: r else o :: sput r k x
/-- the oldest n -/
def strunc {α : Type} : List α → Nat → List α
  | [], _ => []
  | o :: r, n => if n ≤ r.length then strunc r n else o :: r

inductive Res (α : Type) where
  | ok (a : α) (st : Store)
  | exc (x : D) (st : Store)
  | bad
def Res.then {α β : Type} (r : Res α) (f : α → Store → Res β) : Res β := match r with
  | .ok a st => f a st
  | .exc x st => .exc x st
  | .bad => .bad
def Res.of {α : Type} (o : Option α) (st : Store) : Res α := match o with
  | some a => .ok a st
  | none => .bad
abbrev Env := List (Option D)

/-- the most that a list or a text may hold here -/
def LINE : Nat := 1000000

/-! ### looking into data -/
def seqOf (st : Store) : D → Option (List D)
  | .tup xs => some xs
  | .con xs => some xs
  | .kl xs => some xs
  | .lst xs => some xs
  | .loc k => match sget st k with
    | some (.lst xs) => some xs
    | _ => none
  | _ => none
def lstOf (st : Store) : D → Option (List D)
  | .lst xs => some xs
  | .loc k => match sget st k with
    | some (.lst xs) => some xs
    | _ => none
  | _ => none
def asInt : D → Option Int
  | .int i => some i
  | _ => none
def asBool : D → Option Bool
  | .bl b => some b
  | _ => none
def asStr : D → Option (List Nat)
  | .str x => some x
  | _ => none
def mapO {α β : Type} (f : α → Option β) : List α → Option (List β)
  | [] => some []
  | x :: r => match f x with
    | some y => (match mapO f r with
      | some ys => some (y :: ys)
      | none => none)
    | none => none
/-- the data that a value is, the places followed, to a depth -/
def deref (st : Store) : Nat → D → Option D
  | 0, d => (match d with
    | .non => some .non
    | .bl b => some (.bl b)
    | .int i => some (.int i)
    | .str x => some (.str x)
    | _ => none)
  | n + 1, d => (match d with
    | .non => some .non
    | .bl b => some (.bl b)
    | .int i => some (.int i)
    | .str x => some (.str x)
    | .tup xs => (mapO (deref st n) xs).map .tup
    | .con xs => (mapO (deref st n) xs).map .tup
    | .kl xs => (mapO (deref st n) xs).map .lst
    | .lst xs => (mapO (deref st n) xs).map .lst
    | .loc k => (match sget st k with
      | some (.lst xs) => (mapO (deref st n) xs).map .lst
      | _ => none)
    | _ => none)
/-- Python's == on data -/
def eqd : Nat → D → D → Bool
  | _, .non, .non => true
  | _, .bl a, .bl b => a == b
  | _, .bl a, .int j => (if a then 1 else 0) == j
  | _, .int i, .bl b => i == (if b then 1 else 0)
  | _, .int i, .int j => decide (i = j)
  | _, .str x, .str y => decide (x = y)
  | n + 1, .lst xs, .lst ys => xs.length == ys.length && (xs.zip ys).all fun p => eqd n p.1 p.2
  | n + 1, .tup xs, .tup ys => xs.length == ys.length && (xs.zip ys).all fun p => eqd n p.1 p.2
  | _, _, _ => false
/-- the depth to which data is followed -/
def DEEP : Nat := 8
def truth (st : Store) : D → Option Bool
  | .non => some false
  | .bl b => some b
  | .int i => some (i != 0)
  | .str x => if x.length ≤ LINE then some (x.length != 0) else none
  | .tup xs => some (!xs.isEmpty)
  | .con xs => some (!xs.isEmpty)
  | .lst xs => some (!xs.isEmpty)
  | .loc k => (match sget st k with
    | some (.lst xs) => some (!xs.isEmpty)
    | _ => none)
  | _ => none
/-- the place of an index -/
def ixn (n : Nat) (i : Int) : Option Nat := if 0 ≤ i then (if i < n then some i.toNat else none) else if -(n : Int) ≤ i then some (i + n).toNat else none
def at? {α : Type} (xs : List α) (i : Int) : Option α := match ixn xs.length i with
  | some j => xs[j]?
  | none => none
/-- a slice's end -/
def six (n d : Nat) : Option Int → Nat
  | none => d
  | some v => if v < 0 then (v + n).toNat else min v.toNat n
def cut {α : Type} (xs : List α) (lo hi : Option Int) : List α := (xs.drop (six xs.length 0 lo)).take (six xs.length xs.length hi - six xs.length 0 lo)
/-- tuples of whole numbers in order -/
def intsOf : List D → Option (List Int) := mapO asInt
def strsOf : List D → Option (List (List Nat)) := mapO asStr
def lexlt : List Int → List Int → Bool
  | [], [] => false
  | [], _ :: _ => true
  | _ :: _, [] => false
  | x :: xs, y :: ys => if x = y then lexlt xs ys else decide (x < y)

/-- data as the library has it -/
def pyd : Nat → D → PySem.PyData
  | _, .bl b => .bool b
  | _, .int i => .int i
  | _, .str x => .str ⟨x.toArray⟩
  | n + 1, .tup xs => .tuple (xs.map (pyd n))
  | n + 1, .lst xs => .list (xs.map (pyd n))
  | _, _ => .none

/-! ### new lists -/
/-- a new list: data, or a new thing in the store -/
def newL (m : Bool) (xs : List D) (st : Store) : Res D := if m then .ok (.loc st.length) (.lst xs :: st) else .ok (.lst xs) st

/-! ### operators -/
inductive BOp where
  | add | sub | mul | fdiv | mod | pow
  deriving DecidableEq
inductive COp where
  | eq | ne | lt | le | gt | ge | isin | notin
  deriving DecidableEq
def binop (o : BOp) (m : Bool) (x y : D) (st : Store) : Res D := match o, x, y with
  | .add, .int i, .int j => .ok (.int (i + j)) st
  | .sub, .int i, .int j => .ok (.int (i - j)) st
  | .mul, .int i, .int j => if (-(2 ^ 64) < i ∧ i < 2 ^ 64) ∨ (-(2 ^ 64) < j ∧ j < 2 ^ 64) then .ok (.int (i * j)) st else .bad
  | .fdiv, .int i, .int j => if 0 < j ∧ j < 1073741824 then .ok (.int (i / j)) st else .bad
  | .mod, .int i, .int j => if 0 < j then .ok (.int (i % j)) st else .bad
  | .pow, .int i, .int j => if 0 ≤ j ∧ j ≤ 100 ∧ i.natAbs < 2 ^ 64 then .ok (.int (i ^ j.toNat)) st else .bad
  | .add, .str a, .str b => if a.length + b.length ≤ LINE then .ok (.str (a ++ b)) st else .bad
  | .add, .tup a, .tup b => if a.length + b.length ≤ LINE then .ok (.tup (a ++ b)) st else .bad
  | .add, a, b => (match lstOf st a, lstOf st b with
    | some xs, some ys => if xs.length + ys.length ≤ LINE then newL m (xs ++ ys) st else .bad
    | _, _ => .bad)
  | _, _, _ => .bad
def keyPart : D → Bool
  | .int _ => true
  | .str _ => true
  | _ => false
/-- a key of a dict: whole numbers and texts, or tuples of these -/
def isKey (t : Bool) : D → Bool
  | .int _ => !t
  | .str _ => !t
  | .tup xs => t && xs.all keyPart
  | _ => false
def dfind (k : D) : List (D × D) → Option D
  | [] => none
  | (a, v) :: r => if eqd DEEP a k then some v else dfind k r
def dput (k v : D) (kvs : List (D × D)) : List (D × D) := if (dfind k kvs).isSome then kvs.map (fun p => if eqd DEEP p.1 k then (p.1, v) else p) else kvs ++ [(k, v)]
def ddrop (k : D) (kvs : List (D × D)) : List (D × D) := kvs.filter fun p => !eqd DEEP p.1 k
/-- a dict at a place -/
def dctOf (st : Store) : D → Option (Bool × List (D × D))
  | .loc k => (match sget st k with
    | some (.dct t kvs) => some (t, kvs)
    | _ => none)
  | _ => none
/-- x in a sequence, a text in a text -/
def isIn (st : Store) (x y : D) : Option Bool := match y with
  | .str t => (match x with
    | .str [c] => some (decide (c ∈ t))
    | _ => none)
  | y => (match dctOf st y with
    | some (t, kvs) => if isKey t x then some (dfind x kvs).isSome else none
    | none => (match deref st DEEP x, seqOf st y with
      | some d, some ys => (match mapO (deref st DEEP) ys with
        | some ds => some (ds.any fun z => eqd DEEP z d)
        | none => none)
      | _, _ => none))
def cmpop (o : COp) (x y : D) (st : Store) : Option Bool := match o with
  | .eq => (match deref st DEEP x, deref st DEEP y with
    | some a, some b => some (eqd DEEP a b)
    | _, _ => none)
  | .ne => (match deref st DEEP x, deref st DEEP y with
    | some a, some b => some (!eqd DEEP a b)
    | _, _ => none)
  | .lt => (match x, y with
    | .int i, .int j => some (decide (i < j))
    | .tup a, .tup b => (match intsOf a, intsOf b with
      | some ns, some ms => some (lexlt ns ms)
      | _, _ => none)
    | _, _ => none)
  | .le => (match x, y with
    | .int i, .int j => some (decide (i ≤ j))
    | _, _ => none)
  | .gt => (match x, y with
    | .int i, .int j => some (decide (j < i))
    | _, _ => none)
  | .ge => (match x, y with
    | .int i, .int j => some (decide (j ≤ i))
    | _, _ => none)
  | .isin => isIn st x y
  | .notin => (isIn st x y).map (!·)

/-! ### places within data -/
/-- every place within is below k -/
def under (k : Nat) : Nat → D → Bool
  | _, .non => true
  | _, .bl _ => true
  | _, .int _ => true
  | _, .str _ => true
  | _, .fn _ => true
  | _, .cls _ => true
  | _, .ty _ => true
  | _, .loc j => decide (j < k)
  | n + 1, .tup xs => xs.all (under k n)
  | n + 1, .con xs => xs.all (under k n)
  | n + 1, .kl xs => xs.all (under k n)
  | n + 1, .lst xs => xs.all (under k n)
  | n + 1, .obj _ fs => fs.all (under k n)
  | n + 1, .exc _ w p => under k n w && under k n p
  | 0, _ => false
/-- places from b on are no more: what they held is data from now on -/
def frz (st : Store) (b : Nat) : Nat → D → Option D
  | _, .non => some .non
  | _, .bl x => some (.bl x)
  | _, .int i => some (.int i)
  | _, .str x => some (.str x)
  | _, .fn f => some (.fn f)
  | _, .cls c => some (.cls c)
  | _, .ty t => some (.ty t)
  | n + 1, .tup xs => (mapO (frz st b n) xs).map .tup
  | n + 1, .con xs => if xs.all (under 0 n) then some (.con xs) else none
  | n + 1, .kl xs => if xs.all (under 0 n) then some (.kl xs) else none
  | n + 1, .lst xs => (mapO (frz st b n) xs).map .lst
  | n + 1, .obj c fs => (mapO (frz st b n) fs).map (.obj c)
  | n + 1, .exc c w p => (match frz st b n w, frz st b n p with
    | some w', some p' => some (.exc c w' p')
    | _, _ => none)
  | n + 1, .loc k => if k < b then some (.loc k) else (match sget st k with
    | some (.lst xs) => (mapO (frz st b n) xs).map .lst
    | some (.ins c fs) => (mapO (frz st b n) fs).map (.obj c)
    | _ => none)
  | 0, .loc k => if k < b then some (.loc k) else none
  | 0, _ => none
/-- the thing at k becomes o; b: where this call's own places begin -/
def stput (b k : Nat) (o : Ob) (d : D) (st : Store) : Option Store := if b ≤ k ∨ under k DEEP d = true then some (sput st k o) else none

/-! ### texts -/
def digitsL (n : Nat) : List Nat := (Nat.toDigits 10 n).map Char.toNat
def intText (i : Int) : List Nat := if i < 0 then 45 :: digitsL i.natAbs else digitsL i.natAbs
/-- split at one sign -/
def splitC (c : Nat) : List Nat → List Nat → List (List Nat)
  | acc, [] => [acc]
  | acc, x :: r => if x = c then acc :: splitC c [] r else splitC c (acc ++ [x]) r
def joinC (s : List Nat) : List (List Nat) → List Nat
  | [] => []
  | [x] => x
  | x :: r => x ++ (s ++ joinC s r)
/-- the number that a text of digits writes, at most so many -/
def textInt (x : List Nat) : Option Int := if x.length ≤ 18 ∧ x ≠ [] ∧ x.all (fun c => decide (48 ≤ c) && decide (c ≤ 57)) = true then some (PySem.NumText.digitsVal x : Nat) else none

/-! ### expressions -/
inductive Bi where
  | len | abs | max1 | min1 | max2 | min2 | sum | sorted | all | any | int | str | repr | tuple | list | isi
  deriving DecidableEq
inductive Bm where
  | append | extend | pop | popAt | index | sindex | join | split | get | setdefault | sfind
  deriving DecidableEq
inductive ME where
  | no
  | cons (a r : ME)
  | star (a r : ME)
  | k (d : D)
  | var (i : Nat)
  | gl (i : Nat)
  | bin (o : BOp) (m : Bool) (a b : ME)
  | neg (a : ME)
  | nt (a : ME)
  | an (a b : ME)
  | or (a b : ME)
  | cmp (o : COp) (a b : ME)
  | cmp2 (o u : COp) (a b c : ME)
  | isn (a : ME)
  | notn (a : ME)
  | ite (c a b : ME)
  | tup (es : ME)
  | lst (m : Bool) (es : ME)
  | dnew (t : Bool)
  | ix (a i : ME)
  | sl (m : Bool) (a lo hi : ME)
  | fld (a : ME) (f : Nat)
  | bi (f : Bi) (m : Bool) (es : ME)
  | bm (f : Bm) (m : Bool) (a es : ME)
  | fc (f : Nat) (keep : Bool) (es : ME)
  | mk (c : Nat) (keep : Bool) (es : ME)
  | mc (x : Nat) (keep : Bool) (a es : ME)
  | vc (keep : Bool) (a es : ME)
  | rng1 (a : ME)
  | rng2 (a b : ME)
  | enm (a : ME)
  | zp (a b : ME)
  | itr (a : ME)
  | lc (m : Bool) (own : List Nat) (t it c e : ME)
  | lc2 (m : Bool) (own own2 : List Nat) (t1 i1 c1 t2 i2 c2 e : ME)
  | dc (k : Bool) (own : List Nat) (t it kx vx : ME)
  | fs (es : ME)
  | frz (a : ME)
  | xw
  | xp
  | xi (c : Nat)
  | xv
  | mx0 (c : Nat)
  | mx1 (c : Nat) (a : ME)
  | my1 (c : Nat) (a : ME)
  | my2 (c : Nat) (a b : ME)
  | ew (a : ME)
  | ep (a : ME)
  | ei (a : ME) (c : Nat)
  | ev (a : ME)

/-- a field's number tells the class and its place: 16 * class + place -/
def getF (o : D) (f : Nat) (st : Store) : Option D := match o with
  | .obj c fs => if c = f / 16 then fs[f % 16]? else none
  | .loc k => match sget st k with
    | some (.ins c fs) => if c = f / 16 then fs[f % 16]? else none
    | _ => none
  | _ => none
/-- the names that a target stores -/
def slots : ME → List Nat
  | .var i => [i]
  | .tup es => slots es
  | .cons t r => slots t ++ slots r
  | _ => []
/-- what a call does: of a def, of a class, of an instance's method -/
structure Cal where
  glob : Nat → Option D
  fn : Nat → Bool → List D → Store → Res D
  make : Nat → Bool → List D → Store → Res D
  meth : Nat → Nat → Option Nat
  isa : Nat → Nat → Bool
  /-- the word of an error's class -/
  word : Nat → Option (List Nat)
  /-- whether a class is an own error's -/
  err : Nat → Bool
  /-- whether it is the one that all own errors' classes are of -/
  bare : Nat → Bool
  /-- the error that is being handled: its class, word and place -/
  cur : Option (Nat × D × D)

/-- names stored, tuples taken apart -/
def asgN (st : Store) : ME → D → Env → Option Env
  | .var i, d, env => some (env.set i (some d))
  | .tup es, d, env => (match seqOf st d with
    | some xs => asgN st es (.lst xs) env
    | none => none)
  | .no, .lst [], env => some env
  | .cons t r, .lst (x :: xs), env => (match asgN st t x env with
    | some env' => asgN st r (.lst xs) env'
    | none => none)
  | _, _, _ => none
def wipeE (env : Env) : List Nat → Env
  | [] => env
  | v :: vs => (wipeE env vs).set v none

/-! ### built-ins by values -/
def maxL : List Int → Int → Int
  | [], m => m
  | x :: r, m => maxL r (if m < x then x else m)
def minL : List Int → Int → Int
  | [], m => m
  | x :: r, m => minL r (if x < m then x else m)
def isTy (isa : Nat → Nat → Bool) (st : Store) : D → D → Option Bool
  | .non, .ty _ => some false
  | .bl _, .ty n => some (n == 1 || n == 0)
  | .int _, .ty n => some (n == 0)
  | .str _, .ty n => some (n == 2)
  | .tup _, .ty n => some (n == 3)
  | .con _, .ty n => some (n == 3)
  | .lst _, .ty n => some (decide (4 ≤ n))
  | .loc k, .ty n => (match sget st k with
    | some (.lst _) => some (decide (4 ≤ n))
    | _ => none)
  | _, _ => none
/-- in order: places followed; equal ones keep their turns -/
def keyD_ (st : Store) (d : D) : PySem.PyData := pyd DEEP ((deref st DEEP d).getD .non)
def sortD (st : Store) (xs : List D) : List D := xs.mergeSort (PySem.W.dataLe false (keyD_ st))
/-- all alike, so that they can be sorted -/
def sortable (ds : List D) : Bool := (ds.all fun a => ds.all fun b => PySem.W.alike (pyd DEEP a) (pyd DEEP b)) && ((ds.all fun a => match a with
  | .tup (_ :: _) => true
  | _ => false) || ds.all fun a => match a with
  | .non => false
  | .tup _ => false
  | _ => true)
def lenD (st : Store) : D → Option Int
  | .str x => if x.length ≤ LINE then some x.length else none
  | .tup xs => some xs.length
  | .con xs => some xs.length
  | .kl xs => some xs.length
  | .lst xs => some xs.length
  | .loc k => (match sget st k with
    | some (.lst xs) => some xs.length
    | some (.dct _ kvs) => some kvs.length
    | _ => none)
  | _ => none
def max1D (st : Store) (x : D) : Option Int := match (lstOf st x).bind intsOf with
  | some (n :: ns) => some (maxL ns n)
  | _ => none
def min1D (st : Store) (x : D) : Option Int := match (lstOf st x).bind intsOf with
  | some (n :: ns) => some (minL ns n)
  | _ => none
def intD : D → Option Int
  | .int i => some i
  | .bl b => some (if b then 1 else 0)
  | .str x => textInt x
  | _ => none
def sortedD (m : Bool) (x : D) (st : Store) : Res D := match lstOf st x with
  | some xs => (match mapO (deref st DEEP) xs with
    | some ds => if sortable ds then newL m (sortD st xs) st else .bad
    | none => .bad)
  | none => .bad
def reprD (st : Store) (x : D) : Option (List Nat) := match deref st DEEP x with
  | some d => if (pyd DEEP d).showable && decide ((pyd DEEP d).shown.length ≤ LINE) then some (pyd DEEP d).shown.cps.toList else none
  | none => none
/-- a built-in of one argument -/
def bfun1 (f : Bi) (m : Bool) (x : D) (st : Store) : Res D := match f with
  | .len => Res.of ((lenD st x).map .int) st
  | .abs => (match x with
    | .int i => .ok (.int (if i < 0 then -i else i)) st
    | _ => .bad)
  | .max1 => Res.of ((max1D st x).map .int) st
  | .min1 => Res.of ((min1D st x).map .int) st
  | .sum => Res.of (((lstOf st x).bind intsOf).map fun ns => .int ns.sum) st
  | .sorted => sortedD m x st
  | .all => Res.of (((lstOf st x).bind (mapO asBool)).map fun bs => .bl (bs.all id)) st
  | .any => Res.of (((lstOf st x).bind (mapO asBool)).map fun bs => .bl (bs.any id)) st
  | .int => Res.of ((intD x).map .int) st
  | .str => (match x with
    | .int i => if i.natAbs < 10 ^ 100 then .ok (.str (intText i)) st else .bad
    | _ => .bad)
  | .repr => Res.of ((reprD st x).map .str) st
  | .tuple => (match x with
    | .con xs => .ok (.con xs) st
    | x => Res.of ((seqOf st x).map .tup) st)
  | .list => (match seqOf st x with
    | some xs => newL m xs st
    | none => .bad)
  | _ => .bad
/-- of two -/
def bfun2 (isa : Nat → Nat → Bool) (f : Bi) (x y : D) (st : Store) : Res D := match f with
  | .max2 => (match x, y with
    | .int i, .int j => .ok (.int (if j > i then j else i)) st
    | _, _ => .bad)
  | .min2 => (match x, y with
    | .int i, .int j => .ok (.int (if j < i then j else i)) st
    | _, _ => .bad)
  | .isi => Res.of ((isTy isa st x y).map .bl) st
  | _ => .bad
def bfun (isa : Nat → Nat → Bool) (f : Bi) (m : Bool) (args : List D) (st : Store) : Res D := match args with
  | [x] => bfun1 f m x st
  | [x, y] => bfun2 isa f x y st
  | _ => .bad
def findIx (p : D → Bool) : Nat → List D → Option Nat
  | _, [] => none
  | i, x :: r => if p x then some i else findIx p (i + 1) r
def findSign (c : Nat) : Nat → List Nat → Option Nat
  | _, [] => none
  | i, x :: r => if x = c then some i else findSign c (i + 1) r
def sumLen : List (List Nat) → Nat
  | [] => 0
  | x :: r => x.length + sumLen r
/-- the receiver's class -/
def rcv : Bm → D → Store → Bool
  | .sindex, .str _, _ => true
  | .join, .str _, _ => true
  | .split, .str _, _ => true
  | .sfind, .str _, _ => true
  | .index, d, st => (lstOf st d).isSome
  | .append, d, st => (lstOf st d).isSome
  | .extend, d, st => (lstOf st d).isSome
  | .pop, d, st => (lstOf st d).isSome
  | .popAt, d, st => (lstOf st d).isSome
  | .get, d, st => (dctOf st d).isSome
  | .setdefault, d, st => (dctOf st d).isSome
  | _, _, _ => false
def bmeth (b : Nat) (f : Bm) (m : Bool) (o : D) (args : List D) (st : Store) : Res D := match f, o, args with
  | .append, .loc k, [d] => (match sget st k with
    | some (.lst xs) => if xs.length < LINE then (match stput b k (.lst (xs ++ [d])) d st with
      | some st' => .ok .non st'
      | none => .bad) else .bad
    | _ => .bad)
  | .extend, .loc k, [d] => (match sget st k, lstOf st d with
    | some (.lst xs), some ys => if xs.length + ys.length ≤ LINE then (match stput b k (.lst (xs ++ ys)) (.lst ys) st with
      | some st' => .ok .non st'
      | none => .bad) else .bad
    | _, _ => .bad)
  | .pop, .loc k, [] => (match sget st k with
    | some (.lst xs) => (match xs.getLast? with
      | some d => .ok d (sput st k (.lst xs.dropLast))
      | none => .bad)
    | _ => .bad)
  | .sindex, .str x, [.str [c]] => (match findSign c 0 x with
    | some i => .ok (.int (i : Nat)) st
    | none => .bad)
  | .sfind, .str x, [.str [c]] => (match findSign c 0 x with
    | some i => .ok (.int (i : Nat)) st
    | none => .ok (.int (-1)) st)
  | .popAt, .loc k, [.int n] => (match sget st k with
    | some (.lst xs) => (match ixn xs.length n with
      | some j => (match xs[j]? with
        | some d => .ok d (sput st k (.lst (xs.eraseIdx j)))
        | none => .bad)
      | none => .bad)
    | _ => .bad)
  | .index, x, [y] => (match lstOf st x, deref st DEEP y with
    | some xs, some d => (match mapO (deref st DEEP) xs with
      | some ds => (match findIx (fun z => eqd DEEP z d) 0 ds with
        | some i => .ok (.int (i : Nat)) st
        | none => .bad)
      | none => .bad)
    | _, _ => .bad)
  | .join, .str s, [x] => (match (seqOf st x).bind strsOf with
    | some ts => if sumLen ts + ts.length * (s.length + 1) ≤ LINE then .ok (.str (joinC s ts)) st else .bad
    | none => .bad)
  | .split, .str x, [.str [c]] => if x.length + 2 ≤ LINE ∧ c < 256 then newL m ((splitC c [] x).map .str) st else .bad
  | .get, .loc k, [key, d] => (match sget st k with
    | some (.dct t kvs) => if isKey t key then .ok ((dfind key kvs).getD d) st else .bad
    | _ => .bad)
  | .setdefault, .loc k, [key, d] => (match sget st k with
    | some (.dct t kvs) => if isKey t key then (match dfind key kvs with
      | some v => .ok v st
      | none => if kvs.length < LINE then (match stput b k (.dct t (dput key d kvs)) d st with
        | some st' => .ok d st'
        | none => .bad) else .bad) else .bad
    | _ => .bad)
  | _, _, _ => .bad

/-! ### the interpreter -/
/-- what a for walks: the items, and the places that must stand as they stood -/
abbrev Src := List (Nat × List D)
def unchanged (st : Store) : Src → Bool
  | [] => true
  | (k, n) :: r => (match sget st k with
    | some (.lst ys) => ys.length == n.length && (ys.zip n).all (fun p => same DEEP p.1 p.2)
    | _ => false) && unchanged st r
where same : Nat → D → D → Bool
  | _, .non, .non => true
  | _, .bl a, .bl b => a == b
  | _, .int a, .int b => decide (a = b)
  | _, .str a, .str b => decide (a = b)
  | _, .loc a, .loc b => decide (a = b)
  | n + 1, .tup xs, .tup ys => xs.length == ys.length && (xs.zip ys).all fun p => same n p.1 p.2
  | n + 1, .lst xs, .lst ys => xs.length == ys.length && (xs.zip ys).all fun p => same n p.1 p.2
  | _, _, _ => false
def srcOf (st : Store) : D → Src
  | .loc k => (match sget st k with
    | some (.lst xs) => [(k, xs)]
    | _ => [])
  | _ => []
def rangeL (lo : Int) : Nat → List D
  | 0 => []
  | n + 1 => .int lo :: rangeL (lo + 1) n
def enumL : Int → List D → List D
  | _, [] => []
  | i, x :: r => .tup [.int i, x] :: enumL (i + 1) r
def zipL : List D → List D → List D
  | x :: xs, y :: ys => .tup [x, y] :: zipL xs ys
  | _, _ => []
def compGo (tg : Store → D → Option Env) (c : Env → Store → Res Bool) (e : Env → Store → Res D) (sr : Src) : List D → Store → Res (List D)
  | [], st => if unchanged st sr then .ok [] st else .bad
  | x :: r, st => if unchanged st sr then (match tg st x with
    | some env => (c env st).then fun b st1 => if b then (e env st1).then fun d st2 => (compGo tg c e sr r st2).then fun ds st3 => .ok (d :: ds) st3 else compGo tg c e sr r st1
    | none => .bad) else .bad
/-- the outer for of two -/
def compGo2 (tg : Store → D → Option Env) (c : Env → Store → Res Bool) (inner : Env → Store → Res (List D)) (sr : Src) : List D → Store → Res (List D)
  | [], st => if unchanged st sr then .ok [] st else .bad
  | x :: r, st => if unchanged st sr then (match tg st x with
    | some env => (c env st).then fun b st1 => if b then (inner env st1).then fun d st2 => (compGo2 tg c inner sr r st2).then fun ds st3 => .ok (d ++ ds) st3 else compGo2 tg c inner sr r st1
    | none => .bad) else .bad
def dictGo (tg : Store → D → Option Env) (kx vx : Env → Store → Res D) (sr : Src) (n : Nat) : List D → Store → Res Unit
  | [], st => if unchanged st sr then .ok () st else .bad
  | x :: r, st => if unchanged st sr then (match tg st x with
    | some env => (kx env st).then fun key st1 => (vx env st1).then fun v st2 => (match sget st2 n with
      | some (.dct t kvs) => if isKey t key ∧ kvs.length < LINE then dictGo tg kx vx sr n r (sput st2 n (.dct t (dput key v kvs))) else .bad
      | _ => .bad)
    | none => .bad) else .bad
/-- no exception comes out of a comprehension here -/
def Res.calm {α : Type} : Res α → Res α
  | .exc _ _ => .bad
  | r => r
def needB (r : Res D) : Res Bool := r.then fun d st => Res.of (truth st d) st
def rngD (u v : D) (st : Store) : Res (List D × Src) := match u, v with
  | .int lo, .int hi => if -(2 ^ 60) ≤ lo ∧ lo ≤ 2 ^ 60 ∧ -(2 ^ 60) ≤ hi ∧ hi ≤ 2 ^ 60 ∧ hi - lo ≤ LINE then .ok (rangeL lo (hi - lo).toNat, []) st else .bad
  | _, _ => .bad
def enmD (u : D) (st : Store) : Res (List D × Src) := match lstOf st u with
  | some xs => .ok (enumL 0 xs, srcOf st u) st
  | none => .bad
def tupOf : D → Option (List D)
  | .tup xs => some xs
  | .con xs => some xs
  | _ => none
def zpT (u v : D) (st : Store) : Res (List D × Src) := match tupOf u, tupOf v with
  | some xs, some ys => .ok (zipL xs ys, []) st
  | _, _ => .bad
def zpD (u v : D) (st : Store) : Res (List D × Src) := match lstOf st u, lstOf st v with
  | some xs, some ys => .ok (zipL xs ys, srcOf st u ++ srcOf st v) st
  | none, none => zpT u v st
  | _, _ => .bad
def itrS (u : D) (st : Store) : Res (List D × Src) := match seqOf st u with
  | some xs => .ok (xs, srcOf st u) st
  | none => .bad
def itrD (u : D) (st : Store) : Res (List D × Src) := match u with
  | .str t => if t.length ≤ LINE then .ok (t.map (fun c => .str [c]), []) st else .bad
  | u => itrS u st
/-- x[i] -/
def ixS (u j : D) (st : Store) : Res D := match dctOf st u with
  | some p => if isKey p.1 j then Res.of (dfind j p.2) st else .bad
  | none => (match j with
    | .int n => (match seqOf st u with
      | some xs => Res.of (at? xs n) st
      | none => .bad)
    | _ => .bad)
def ixD (u j : D) (st : Store) : Res D := match u with
  | .str t => (match j with
    | .int n => if t.length ≤ LINE then Res.of ((at? t n).map fun c => .str [c]) st else .bad
    | _ => .bad)
  | u => ixS u j st
/-- x[l:h] -/
def slS (m : Bool) (u : D) (l h : Option Int) (st : Store) : Res D := match lstOf st u with
  | some xs => newL m (cut xs l h) st
  | none => .bad
def slD (m : Bool) (u : D) (l h : Option Int) (st : Store) : Res D := match u with
  | .str t => if t.length ≤ LINE then .ok (.str (cut t l h)) st else .bad
  | .tup xs => .ok (.tup (cut xs l h)) st
  | .con xs => if six xs.length 0 l = 0 ∧ six xs.length xs.length h = xs.length then .ok (.con xs) st else .ok (.tup (cut xs l h)) st
  | u => slS m u l h st
def noB : ME → Bool
  | .no => true
  | _ => false
def nonB : D → Bool
  | .non => true
  | _ => false
def optI : D → Option (Option Int)
  | .non => some none
  | .int i => some (some i)
  | _ => none

section
variable (C : Cal) (b : Nat)
mutual
/-- an expression; a row of arguments gives a tuple -/
def den : ME → Env → Store → Res D
  | .no, _, st => .ok (.tup []) st
  | .cons a r, env, st => (den a env st).then fun x st1 => (den r env st1).then fun xs st2 => (match xs with
    | .tup ys => .ok (.tup (x :: ys)) st2
    | _ => .bad)
  | .star a r, env, st => (den a env st).then fun x st1 => (match seqOf st1 x with
    | some zs => (den r env st1).then fun xs st2 => (match xs with
      | .tup ys => if zs.length + ys.length ≤ LINE then .ok (.tup (zs ++ ys)) st2 else .bad
      | _ => .bad)
    | none => .bad)
  | .k d, _, st => .ok d st
  | .var i, env, st => (match env[i]? with
    | some (some d) => .ok d st
    | _ => .bad)
  | .gl i, _, st => Res.of (C.glob i) st
  | .bin o m x y, env, st => (den x env st).then fun u st1 => (den y env st1).then fun v st2 => binop o m u v st2
  | .neg x, env, st => (den x env st).then fun u st1 => (match u with
    | .int i => .ok (.int (-i)) st1
    | _ => .bad)
  | .nt x, env, st => (needB (den x env st)).then fun c st1 => .ok (.bl (!c)) st1
  | .an x y, env, st => (den x env st).then fun u st1 => (match truth st1 u with
    | some true => den y env st1
    | some false => .ok u st1
    | none => .bad)
  | .or x y, env, st => (den x env st).then fun u st1 => (match truth st1 u with
    | some true => .ok u st1
    | some false => den y env st1
    | none => .bad)
  | .cmp o x y, env, st => (den x env st).then fun u st1 => (den y env st1).then fun v st2 => Res.of ((cmpop o u v st2).map .bl) st2
  | .cmp2 o p x y z, env, st => (den x env st).then fun u st1 => (den y env st1).then fun v st2 => (match cmpop o u v st2 with
    | some true => (den z env st2).then fun t st3 => Res.of ((cmpop p v t st3).map .bl) st3
    | some false => .ok (.bl false) st2
    | none => .bad)
  | .isn x, env, st => (den x env st).then fun u st1 => .ok (.bl (nonB u)) st1
  | .notn x, env, st => (den x env st).then fun u st1 => .ok (.bl (!nonB u)) st1
  | .ite c x y, env, st => (needB (den c env st)).then fun t st1 => if t then den x env st1 else den y env st1
  | .tup es, env, st => (den es env st).then fun x st1 => (match x with
    | .tup xs => .ok (.tup xs) st1
    | _ => .bad)
  | .lst m es, env, st => (den es env st).then fun x st1 => (match x with
    | .tup xs => newL m xs st1
    | _ => .bad)
  | .dnew t, _, st => .ok (.loc st.length) (.dct t [] :: st)
  | .ix x i, env, st => (den x env st).then fun u st1 => (den i env st1).then fun j st2 => ixD u j st2
  | .sl m x lo hi, env, st => (den x env st).then fun u st1 => (den lo env st1).then fun l st2 => (match optI l with
    | some l' => (den hi env st2).then fun h st3 => (match optI h with
      | some h' => slD m u l' h' st3
      | none => .bad)
    | none => .bad)
  | .fld x f, env, st => (den x env st).then fun u st1 => Res.of (getF u f st1) st1
  | .bi f m es, env, st => (den es env st).then fun x st1 => (match x with
    | .tup xs => bfun C.isa f m xs st1
    | _ => .bad)
  | .bm f m x es, env, st => (den x env st).then fun u st1 => if rcv f u st1 then (den es env st1).then fun y st2 => (match y with
    | .tup xs => bmeth b f m u xs st2
    | _ => .bad) else .bad
  | .fc f keep es, env, st => (den es env st).then fun x st1 => (match x with
    | .tup xs => C.fn f keep xs st1
    | _ => .bad)
  | .mk c keep es, env, st => (den es env st).then fun x st1 => (match x with
    | .tup xs => C.make c keep xs st1
    | _ => .bad)
  | .mc m keep x es, env, st => (den x env st).then fun u st1 => (den es env st1).then fun y st2 => (match y with
    | .tup xs => (match (match u with
      | .obj c _ => C.meth c m
      | .loc k => (match sget st2 k with
        | some (.ins c _) => C.meth c m
        | _ => none)
      | _ => none) with
      | some f => C.fn f keep (u :: xs) st2
      | none => .bad)
    | _ => .bad)
  | .vc keep x es, env, st => (den x env st).then fun u st1 => (den es env st1).then fun y st2 => (match u, y with
    | .fn f, .tup xs => C.fn f keep xs st2
    | _, _ => .bad)
  | .lc m own t it c e, env, st => (denIt it env st).then fun p st1 => (compGo (fun s x => asgN s t x (wipeE env own)) (fun v s => if noB c then .ok true s else (needB (den c v s)).calm) (fun v s => (den e v s).calm) p.2 p.1 st1).then fun ds st2 => newL m ds st2
  | .lc2 m own own2 t1 i1 c1 t2 i2 c2 e, env, st => (denIt i1 env st).then fun p st1 => (compGo2 (fun s x => asgN s t1 x (wipeE env own)) (fun v s => if noB c1 then .ok true s else (needB (den c1 v s)).calm) (fun v s => (denIt i2 v s).calm.then fun q s1 => compGo (fun s x => asgN s t2 x (wipeE v own2)) (fun v s => if noB c2 then .ok true s else (needB (den c2 v s)).calm) (fun v s => (den e v s).calm) q.2 q.1 s1) p.2 p.1 st1).then fun ds st2 => if ds.length ≤ LINE then newL m ds st2 else .bad
  | .dc k own t it kx vx, env, st => (denIt it env st).then fun p st1 => (dictGo (fun s x => asgN s t x (wipeE env own)) (fun v s => (den kx v s).calm) (fun v s => (den vx v s).calm) p.2 st1.length p.1 (.dct k [] :: st1)).then fun _ st2 => .ok (.loc st1.length) st2
  | .fs es, env, st => (den es env st).then fun x st1 => (match x with
    | .tup xs => (match mapO (fun d => match d with
      | .str t => some t
      | .int i => if i.natAbs < 10 ^ 100 then some (intText i) else none
      | _ => none) xs with
      | some ts => if sumLen ts ≤ LINE then .ok (.str ts.flatten) st1 else .bad
      | none => .bad)
    | _ => .bad)
  | .frz x, env, st => (den x env st).then fun u st1 => (match u with
    | .loc k => (match sget st1 k with
      | some (.lst xs) => if b ≤ k then .ok (.lst xs) (sput st1 k .dead) else .bad
      | _ => .bad)
    | u => .ok u st1)
  | .xw, _, st => (match C.cur with
    | some (_, w, _) => .ok w st
    | none => .bad)
  | .xp, _, st => (match C.cur with
    | some (_, _, p) => .ok p st
    | none => .bad)
  | .xi c, _, st => (match C.cur with
    | some (k, _, _) => if C.err c then .ok (.bl (C.isa k c)) st else .bad
    | none => .bad)
  | .xv, _, st => (match C.cur with
    | some _ => .ok (.bl true) st
    | none => .bad)
  | .mx0 c, _, st => (match C.word c with
    | some w => .ok (.exc c (.str w) .non) st
    | none => .bad)
  | .mx1 c x, env, st => (match C.word c with
    | some w => (den x env st).then fun p st1 => .ok (.exc c (.str w) p) st1
    | none => .bad)
  | .my1 c x, env, st => if C.bare c then (den x env st).then fun w st1 => .ok (.exc c w .non) st1 else .bad
  | .my2 c x y, env, st => if C.bare c then (den x env st).then fun w st1 => (den y env st1).then fun p st2 => .ok (.exc c w p) st2 else .bad
  | .ew x, env, st => (den x env st).then fun u st1 => (match u with
    | .exc c w _ => if C.err c then .ok w st1 else .bad
    | _ => .bad)
  | .ep x, env, st => (den x env st).then fun u st1 => (match u with
    | .exc c _ p => if C.err c then .ok p st1 else .bad
    | _ => .bad)
  | .ei x c', env, st => (den x env st).then fun u st1 => (match u with
    | .exc c _ _ => if C.err c && C.err c' then .ok (.bl (C.isa c c')) st1 else .bad
    | _ => .bad)
  | .ev x, env, st => (den x env st).then fun u st1 => (match u with
    | .exc c _ _ => if C.err c then .ok (.bl true) st1 else .bad
    | _ => .bad)
  | _, _, _ => .bad
/-- what is walked -/
def denIt : ME → Env → Store → Res (List D × Src)
  | .rng1 x, env, st => (den x env st).then fun u st1 => rngD (.int 0) u st1
  | .rng2 x y, env, st => (den x env st).then fun u st1 => (den y env st1).then fun v st2 => rngD u v st2
  | .enm x, env, st => (den x env st).then fun u st1 => enmD u st1
  | .zp x y, env, st => (den x env st).then fun u st1 => (den y env st1).then fun v st2 => zpD u v st2
  | .itr e, env, st => (den e env st).then fun u st1 => itrD u st1
  | _, _, _ => .bad
end
end

/-! ### statements -/
inductive MS where
  | skip
  | nev
  | seq (a r : MS)
  | asg (t e : ME)
  | sasg (o i e : ME)
  | fasg (o : ME) (f : Nat) (e : ME)
  | aug (i : Nat) (o : BOp) (e : ME)
  | saug (x i : ME) (o : BOp) (e : ME)
  | faug (x : ME) (f : Nat) (o : BOp) (e : ME)
  | ex (e : ME)
  | ite (c : ME) (a r : MS)
  | wh (c : ME) (r : MS)
  | fr (t it : ME) (r : MS)
  | ret (e : ME)
  | rs (c : Nat) (es : ME)
  | brk
  | del (x i : ME)
  | tr (s : MS) (c i : Nat) (h : MS)
  | tro (s : MS) (c : Nat) (h : MS)
/-- a statement's end -/
inductive Fl where
  | nx (env : Env) (st : Store)
  | rt (d : D) (st : Store)
  | bk (env : Env) (st : Store)
  | exc (x : D) (env : Env) (st : Store)
  | bad
def Fl.next (r : Fl) (f : Env → Store → Fl) : Fl := match r with
  | .nx env st => f env st
  | r => r
def Res.fl {α : Type} (r : Res α) (env : Env) (f : α → Store → Fl) : Fl := match r with
  | .ok a st => f a st
  | .exc x st => .exc x env st
  | .bad => .bad
def Fl.of (o : Option Env) (st : Store) : Fl := match o with
  | some env => .nx env st
  | none => .bad
def forGo (tg : Store → D → Env → Option Env) (body : Env → Store → Fl) (sr : Src) : List D → Env → Store → Fl
  | [], env, st => if unchanged st sr then .nx env st else .bad
  | x :: r, env, st => if unchanged st sr then (match tg st x env with
    | some env1 => (match body env1 st with
      | .nx env2 st2 => forGo tg body sr r env2 st2
      | .bk env2 st2 => .nx env2 st2
      | e => e)
    | none => .bad) else .bad
def whileGo (c : Env → Store → Res Bool) (body : Env → Store → Fl) : Nat → Env → Store → Fl
  | 0, _, _ => .bad
  | n + 1, env, st => (c env st).fl env fun t st1 => if t then (match body env st1 with
    | .nx env2 st2 => whileGo c body n env2 st2
    | .bk env2 st2 => .nx env2 st2
    | e => e) else .nx env st1
/-- the most turns of a while -/
def TURNS : Nat := 1000000
def putL (b k : Nat) (xs : List D) (i d : D) (st : Store) : Option Store := match i with
  | .int n => (match ixn xs.length n with
    | some j => stput b k (.lst (xs.set j d)) d st
    | none => none)
  | _ => none
def putD (b : Nat) (o i d : D) (st : Store) : Option Store := match o with
  | .loc k => (match sget st k with
    | some (.lst xs) => putL b k xs i d st
    | some (.dct t kvs) => if isKey t i = true ∧ kvs.length < LINE then stput b k (.dct t (dput i d kvs)) d st else none
    | _ => none)
  | _ => none
def setF (b : Nat) (o : D) (f : Nat) (d : D) (st : Store) : Option Store := match o with
  | .loc k => (match sget st k with
    | some (.ins c fs) => if c = f / 16 ∧ f % 16 < fs.length then stput b k (.ins c (fs.set (f % 16) d)) d st else if c = f / 16 ∧ f % 16 = fs.length then stput b k (.ins c (fs ++ [d])) d st else none
    | _ => none)
  | _ => none
/-- behind a suite that has named what it handles -/
def Fl.gone (r : Fl) (i : Nat) : Fl := match r with
  | .nx env st => .nx (env.set i none) st
  | .bk env st => .bk (env.set i none) st
  | .rt d st => .rt d st
  | _ => .bad
/-- behind a suite -/
def Fl.calm (r : Fl) : Fl := match r with
  | .exc _ _ _ => .bad
  | r => r
def itemD (o i : D) (st : Store) : Option D := match ixS o i st with
  | .ok d _ => some d
  | _ => none
/-- an error is raised: no argument or one -/
def raiseD (c : Nat) (w : List Nat) (env : Env) : D → Store → Fl
  | .tup [], st => .exc (.exc c (.str w) .non) env st
  | .tup [p], st => .exc (.exc c (.str w) p) env st
  | _, _ => .bad
def exec : Cal → Nat → MS → Env → Store → Fl
  | _, _, .skip, env, st => .nx env st
  | _, _, .nev, _, _ => .bad
  | C, b, .seq a r, env, st => (exec C b a env st).next (exec C b r)
  | C, b, .asg t e, env, st => (den C b e env st).fl env fun d st1 => Fl.of (asgN st1 t d env) st1
  | C, b, .sasg o i e, env, st => (den C b e env st).fl env fun d st1 => (den C b o env st1).fl env fun x st2 => (den C b i env st2).fl env fun j st3 => (match putD b x j d st3 with
    | some st4 => .nx env st4
    | none => .bad)
  | C, b, .fasg o f e, env, st => (den C b e env st).fl env fun d st1 => (den C b o env st1).fl env fun x st2 => (match setF b x f d st2 with
    | some st3 => .nx env st3
    | none => .bad)
  | C, b, .aug i o e, env, st => (match env[i]? with
    | some (some x) => (den C b e env st).fl env fun y st1 => (match x, y with
      | .int _, .int _ => (binop o false x y st1).fl env fun z st2 => .nx (env.set i (some z)) st2
      | _, _ => .bad)
    | _ => .bad)
  | C, b, .saug x i o e, env, st => (den C b x env st).fl env fun u st1 => (den C b i env st1).fl env fun j st2 => (match itemD u j st2 with
    | some v => (den C b e env st2).fl env fun y st3 => (match v, y with
      | .int _, .int _ => (binop o false v y st3).fl env fun z st4 => (match putD b u j z st4 with
        | some st5 => .nx env st5
        | none => .bad)
      | _, _ => .bad)
    | none => .bad)
  | C, b, .faug x f o e, env, st => (den C b x env st).fl env fun u st1 => (match getF u f st1 with
    | some v => (den C b e env st1).fl env fun y st2 => (match v, y with
      | .int _, .int _ => (binop o false v y st2).fl env fun z st3 => (match setF b u f z st3 with
        | some st4 => .nx env st4
        | none => .bad)
      | _, _ => .bad)
    | none => .bad)
  | C, b, .ex e, env, st => (den C b e env st).fl env fun _ st1 => .nx env st1
  | C, b, .ite c a r, env, st => (needB (den C b c env st)).fl env fun t st1 => if t then exec C b a env st1 else exec C b r env st1
  | C, b, .wh c r, env, st => whileGo (fun v s => needB (den C b c v s)) (exec C b r) TURNS env st
  | C, b, .fr t it r, env, st => (denIt C b it env st).fl env fun p st1 => forGo (fun s d v => asgN s t d v) (exec C b r) p.2 p.1 env st1
  | C, b, .ret e, env, st => (den C b e env st).fl env fun d st1 => .rt d st1
  | C, b, .rs c es, env, st => (match C.word c with
    | some w => (den C b es env st).fl env (raiseD c w env)
    | none => .bad)
  | _, _, .brk, env, st => .bk env st
  | C, b, .del x i, env, st => (den C b x env st).fl env fun u st1 => (den C b i env st1).fl env fun j st2 => (match u with
    | .loc k => (match sget st2 k with
      | some (.dct t kvs) => if isKey t j = true ∧ (dfind j kvs).isSome = true then .nx env (sput st2 k (.dct t (ddrop j kvs))) else .bad
      | _ => .bad)
    | _ => .bad)
  | C, b, .tr s c i h, env, st => (match exec C b s env st with
    | .exc (.exc k w p) env1 st1 => if C.err k && C.err c then (if C.isa k c then (if i < env1.length then (exec { C with cur := some (k, w, p) } b h (env1.set i none) st1).gone i else .bad) else .exc (.exc k w p) env1 st1) else .bad
    | .exc _ _ _ => .bad
    | r => r)
  | C, b, .tro s c h, env, st => (match exec C b s env st with
    | .exc (.exc k w p) env1 st1 => if C.err k && C.err c then (if C.isa k c then (exec { C with cur := some (k, w, p) } b h env1 st1).calm else .exc (.exc k w p) env1 st1) else .bad
    | .exc _ _ _ => .bad
    | r => r)

/-! ### calls -/
/-- a def: its names by slot (parameters first), how many parameters, the defaults of the last ones, its body -/
structure Fn where
  n : Nat
  ps : Nat
  dfl : List D
  body : MS
/-- a class: its __init__, its methods -/
structure Cl where
  init : Option Nat
  meths : List (Nat × Nat)
  up : List Nat
  word : Option (List Nat) := none
  err : Bool := false
  bare : Bool := false
structure Tb where
  globs : List D
  fns : List Fn
  cls : List Cl
def leave (keep : Bool) (b : Nat) (d : D) (st : Store) : Res D := if keep then .ok d st else (match frz st b DEEP d with
  | some d' => .ok d' (strunc st b)
  | none => .bad)
def Tb.isa (T : Tb) (c c' : Nat) : Bool := match T.cls[c]? with
  | some cl => cl.up.contains c'
  | none => false
def Tb.meth (T : Tb) (c m : Nat) : Option Nat := match T.cls[c]? with
  | some cl => cl.meths.lookup m
  | none => none
def Tb.word (T : Tb) (c : Nat) : Option (List Nat) := match T.cls[c]? with
  | some cl => cl.word
  | none => none
def Tb.bare (T : Tb) (c : Nat) : Bool := match T.cls[c]? with
  | some cl => cl.bare
  | none => false
def Tb.err (T : Tb) (c : Nat) : Bool := match T.cls[c]? with
  | some cl => cl.err
  | none => false
/-- a def's call: level 0 has no room -/
def calN (T : Tb) : Nat → Cal
  | 0 => ⟨fun i => T.globs[i]?, fun _ _ _ _ => .bad, fun _ _ _ _ => .bad, T.meth, T.isa, T.word, T.err, T.bare, none⟩
  | 1 => ⟨fun i => T.globs[i]?, run ⟨fun i => T.globs[i]?, fun _ _ _ _ => .bad, fun _ _ _ _ => .bad, T.meth, T.isa, T.word, T.err, T.bare, none⟩, fun _ _ _ _ => .bad, T.meth, T.isa, T.word, T.err, T.bare, none⟩
  | n + 2 => ⟨fun i => T.globs[i]?, run (calN T (n + 1)), fun c keep xs st => (match T.cls[c]? with
    | some cl => (match cl.init with
      | some f => ((calN T (n + 1)).fn f true (.loc st.length :: xs) (.ins c [] :: st)).then fun _ st1 => leave keep st.length (.loc st.length) st1
      | none => .bad)
    | none => .bad), T.meth, T.isa, T.word, T.err, T.bare, none⟩
where run (C : Cal) (f : Nat) (keep : Bool) (xs : List D) (st : Store) : Res D := match T.fns[f]? with
  | some F => if xs.length ≤ F.ps ∧ F.ps ≤ xs.length + F.dfl.length then
      (match exec C st.length F.body ((xs ++ F.dfl.drop (xs.length + F.dfl.length - F.ps)).map some ++ List.replicate (F.n - F.ps) none) st with
      | .nx _ st1 => leave keep st.length .non st1
      | .rt d st1 => leave keep st.length d st1
      | .exc x _ st1 => (match frz st1 st.length DEEP x with
        | some x' => .exc x' (strunc st1 st.length)
        | none => .bad)
      | _ => .bad) else .bad
  | none => .bad
end MP

set_option autoImplicit false
set_option linter.all false
set_option maxRecDepth 100000
/-! Mp1: how the small language's data lies in the abstract heap. -/
namespace MP
open PySem PySem.Spec PyProof.Rows L2

/-- a place's address; a dead place has none -/
abbrev Rho := List (Option Addr)
/-- the addresses of things that may be changed -/
def Mu (ρ : Rho) (a : Addr) : Prop := ∃ k, sget ρ k = some (some a)

theorem sget_lt {α : Type} : ∀ {l : List α} {k : Nat} {x : α}, sget l k = some x → k < l.length
  | o :: r, k, x, h => by
    unfold sget at h
    split at h
    · rename_i e; subst e; simp
    · have := sget_lt h; simp only [List.length_cons]; omega
theorem sget_some {α : Type} : ∀ {l : List α} {k : Nat}, k < l.length → ∃ x, sget l k = some x
  | [], _, h => absurd h (Nat.not_lt_zero _)
  | o :: r, k, h => by
    unfold sget
    by_cases e : k = r.length
    · exact ⟨o, by rw [if_pos e]⟩
    · rw [if_neg e]
      exact sget_some (by simp only [List.length_cons] at h; omega)
theorem sget_cons_lt {α : Type} {o : α} {r : List α} {k : Nat} (h : k < r.length) : sget (o :: r) k = sget r k := by
  show (if k = r.length then some o else sget r k) = sget r k
  rw [if_neg (by omega)]
theorem sget_top {α : Type} {o : α} {r : List α} : sget (o :: r) r.length = some o := by
  show (if r.length = r.length then some o else sget r r.length) = some o
  rw [if_pos rfl]
theorem sput_length {α : Type} : ∀ (l : List α) (k : Nat) (x : α), (sput l k x).length = l.length
  | [], _, _ => rfl
  | o :: r, k, x => by
    unfold sput
    split
    · simp
    · simp [sput_length r k x]
theorem sget_sput_same {α : Type} : ∀ {l : List α} {k : Nat} {x : α}, k < l.length → sget (sput l k x) k = some x
  | [], _, _, h => absurd h (Nat.not_lt_zero _)
  | o :: r, k, x, h => by
    unfold sput
    by_cases e : k = r.length
    · rw [if_pos e, e]; exact sget_top
    · have hk : k < r.length := by simp only [List.length_cons] at h; omega
      rw [if_neg e, sget_cons_lt (by rw [sput_length]; exact hk)]
      exact sget_sput_same hk
theorem sget_sput_ne {α : Type} : ∀ {l : List α} {k j : Nat} {x : α}, j ≠ k → sget (sput l k x) j = sget l j
  | [], _, _, _, _ => rfl
  | o :: r, k, j, x, h => by
    unfold sput
    by_cases e : k = r.length
    · rw [if_pos e]
      unfold sget
      rw [if_neg (by omega), if_neg (by omega)]
    · rw [if_neg e]
      unfold sget
      rw [sput_length]
      by_cases ej : j = r.length
      · rw [if_pos ej, if_pos ej]
      · rw [if_neg ej, if_neg ej]
        exact sget_sput_ne h
theorem strunc_length {α : Type} : ∀ (l : List α) (n : Nat), n ≤ l.length → (strunc l n).length = n
  | [], n, h => by simp only [List.length_nil] at h; unfold strunc; simp; omega
  | o :: r, n, h => by
    unfold strunc
    split
    · exact strunc_length r n (by assumption)
    · simp only [List.length_cons] at h ⊢; omega
theorem sget_strunc {α : Type} : ∀ {l : List α} {n k : Nat}, k < n → sget (strunc l n) k = sget l k
  | [], _, _, _ => rfl
  | o :: r, n, k, h => by
    unfold strunc
    split
    · rename_i hn
      rw [sget_strunc h, sget_cons_lt (by omega)]
    · rfl

/-- what the names of defs and classes stand for -/
structure Ad where
  fn : Nat → Option Addr
  cls : Nat → Option Addr
  fld : Nat → List Str
  /-- lists that are being made: nothing speaks of them yet -/
  rs : List Addr
/-- neither a changing place's nor one of a list that is being made -/
def Nm (Z : Ad) (ρ : Rho) (a : Addr) : Prop := ¬ Mu ρ a ∧ a ∉ Z.rs

/-- a list that nobody changes: not a changing place's, or a known one -/
def Fz (Z : Ad) (H : Hp) (ρ : Rho) (a : Addr) (vs : List V) : Prop := (H a = some (.lst vs) ∧ Nm Z ρ a) ∨ ∃ o, H a = some (.frz o (.lst vs)) ∧ Nm Z ρ a
theorem Fz.rd {Z : Ad} {H : Hp} {ρ : Rho} {a : Addr} {vs : List V} (h : Fz Z H ρ a vs) : Rd H a (.lst vs) := by
  rcases h with ⟨h, _⟩ | h
  · exact .inl h
  · obtain ⟨o, h, _⟩ := h
    exact .inr ⟨o, h⟩
theorem Fz.sq {Z : Ad} {K : PySem.W.Frag} {H : Hp} {ρ : Rho} {a : Addr} {vs : List V} (h : Fz Z H ρ a vs) : SqL K H a vs := .inl h.rd

/-- a tuple that was made -/
def Tz (Z : Ad) (H : Hp) (ρ : Rho) (a : Addr) (vs : List V) : Prop := H a = some (.tup vs) ∧ Nm Z ρ a
/-- a tuple of the written part -/
def Cz (K : PySem.W.Frag) (a : Addr) (vs : List V) : Prop := SqT K (fun _ => none) a vs
theorem Tz.sq {Z : Ad} {K : PySem.W.Frag} {H : Hp} {ρ : Rho} {a : Addr} {vs : List V} (h : Tz Z H ρ a vs) : SqT K H a vs := .inl (.inl h.1)
theorem Cz.kt {K : PySem.W.Frag} {a : Addr} {vs : List V} (h : Cz K a vs) : ∃ (o : Obj) (its : Array Value) (n : Nat), K.lookup a = some o ∧ o.cls = .type "tuple" ∧ o.data = .seq its n ∧ its.size ≤ sizeLine ∧ Vals vs its.toList := by
  rcases h with h | h
  · rcases h with h | ⟨o, h⟩
    · cases h
    · cases h
  · exact h
theorem Cz.sq {K : PySem.W.Frag} {H : Hp} {a : Addr} {vs : List V} (h : Cz K a vs) : SqT K H a vs := .inr h.kt

/-- a list that stands for good -/
def Kz (K : PySem.W.Frag) (Z : Ad) (H : Hp) (ρ : Rho) (a : Addr) (vs : List V) : Prop := (∃ o, H a = some (.frz o (.lst vs)) ∧ Nm Z ρ a) ∨ SqL K (fun _ => none) a vs
theorem Kz.sq {K : PySem.W.Frag} {Z : Ad} {H : Hp} {ρ : Rho} {a : Addr} {vs : List V} (h : Kz K Z H ρ a vs) : SqL K H a vs := by
  rcases h with ⟨o, h, _⟩ | h
  · exact .inl (.inr ⟨o, h⟩)
  · rcases h with h | h
    · rcases h with h | ⟨o, h⟩ <;> cases h
    · exact .inr h
def okS (x : List Nat) : Prop := ∀ c ∈ x, c < 1114112

mutual
/-- the data d lies as the value v -/
inductive RD (K : PySem.W.Frag) (Z : Ad) (H : Hp) (ρ : Rho) : D → V → Prop
  | non : RD K Z H ρ .non .non
  | bl (b : Bool) : RD K Z H ρ (.bl b) (.bl b)
  | int (i : Int) : RD K Z H ρ (.int i) (.int i)
  | str (x : List Nat) (h : okS x) : RD K Z H ρ (.str x) (.str ⟨x.toArray⟩)
  | tup {a : Addr} {vs : List V} {ds : List D} (h : Tz Z H ρ a vs) (r : RDs K Z H ρ ds vs) : RD K Z H ρ (.tup ds) (.ref a)
  | con {a : Addr} {vs : List V} {ds : List D} (h : Cz K a vs) (r : RDs K Z H ρ ds vs) : RD K Z H ρ (.con ds) (.ref a)
  | kl {a : Addr} {vs : List V} {ds : List D} (h : Kz K Z H ρ a vs) (r : RDs K Z H ρ ds vs) : RD K Z H ρ (.kl ds) (.ref a)
  | lst {a : Addr} {vs : List V} {ds : List D} (h : Fz Z H ρ a vs) (r : RDs K Z H ρ ds vs) : RD K Z H ρ (.lst ds) (.ref a)
  | obj {a C dx : Addr} {c : Nat} {fs : List (Str × V)} {ds : List D} (h : H a = some (.ins C dx fs)) (hm : Nm Z ρ a) (hc : Z.cls c = some C) (hf : fs.map (·.1) = (Z.fld c).take ds.length) (r : RDs K Z H ρ ds (fs.map (·.2))) : RD K Z H ρ (.obj c ds) (.ref a)
  | loc {k : Nat} {p : Addr} (h : k < ρ.length) (hv : ∀ a, sget ρ k = some (some a) → a = p) : RD K Z H ρ (.loc k) (.ref p)
  | fn {f : Nat} {a : Addr} (h : Z.fn f = some a) : RD K Z H ρ (.fn f) (.ref a)
  | cls {c : Nat} {a : Addr} (h : Z.cls c = some a) : RD K Z H ρ (.cls c) (.ref a)
  | ty (n : Nat) : RD K Z H ρ (.ty n) (.ty (tyN n))
  | exc {a C d : Addr} {c : Nat} {w p : D} {fs : List (Str × V)} {vw vp : V} (hc : Z.cls c = some C) (h : H a = some (exo a C (some d))) (hm : Nm Z ρ a) (h2 : H d = some (exd d fs)) (hm2 : Nm Z ρ d) (e1 : fs.lookup ("word" : Str) = some vw) (e2 : fs.lookup ("place" : Str) = some vp) (rw : RD K Z H ρ w vw) (rp : RD K Z H ρ p vp) : RD K Z H ρ (.exc c w p) (.ref a)
inductive RDs (K : PySem.W.Frag) (Z : Ad) (H : Hp) (ρ : Rho) : List D → List V → Prop
  | nil : RDs K Z H ρ [] []
  | cons {d : D} {v : V} {ds : List D} {vs : List V} (h : RD K Z H ρ d v) (r : RDs K Z H ρ ds vs) : RDs K Z H ρ (d :: ds) (v :: vs)
end

/-- behind something: what may not be changed stands, what is tracked stays tracked, a place keeps its address or is dead, new places are new -/
structure Ext (H : Hp) (ρ : Rho) (H' : Hp) (ρ' : Rho) : Prop where
  keep : ∀ a o, H a = some o → ¬ Mu ρ a → H' a = some o
  there : ∀ a, H' a = none → H a = none
  le : ρ.length ≤ ρ'.length
  old : ∀ k, k < ρ.length → ∀ a, sget ρ' k = some (some a) → sget ρ k = some (some a)
  new : ∀ k a, ρ.length ≤ k → sget ρ' k = some (some a) → H a = none
theorem Ext.refl (H : Hp) (ρ : Rho) : Ext H ρ H ρ := ⟨fun _ _ h _ => h, fun _ h => h, Nat.le_refl _, fun _ _ _ h => h, fun k a h e => absurd (sget_lt e) (by omega)⟩
section
variable {K : PySem.W.Frag} {Z : Ad} {H H' H1 H2 : Hp} {ρ ρ' ρ1 ρ2 : Rho}
theorem Ext.nomu (x : Ext H ρ H' ρ') {a : Addr} {o : HO} (h : H a = some o) (hm : ¬ Mu ρ a) : ¬ Mu ρ' a := by
  rintro ⟨k, e⟩
  by_cases hk : k < ρ.length
  · exact hm ⟨k, x.old k hk a e⟩
  · have := x.new k a (by omega) e
    rw [h] at this; cases this
theorem Ext.trans (x : Ext H ρ H1 ρ1) (y : Ext H1 ρ1 H2 ρ2) : Ext H ρ H2 ρ2 where
  keep := fun a o h hm => y.keep a o (x.keep a o h hm) (x.nomu h hm)
  there := fun a h => x.there a (y.there a h)
  le := Nat.le_trans x.le y.le
  old := fun k hk a e => x.old k hk a (y.old k (Nat.lt_of_lt_of_le hk x.le) a e)
  new := fun k a hk e => by
    by_cases h1 : k < ρ1.length
    · exact x.new k a hk (y.old k h1 a e)
    · exact x.there a (y.new k a (by omega) e)
/-- a new thing that is nobody's place -/
theorem Ext.laid {p : Addr} {o : HO} (hp : H p = none) : Ext H ρ (upd H p o) ρ where
  keep := fun a u h _ => by rw [upd_ne (ne_of_none h hp)]; exact h
  there := fun a h => by
    by_cases e : a = p
    · subst e; exact hp
    · rw [upd_ne e] at h; exact h
  le := Nat.le_refl _
  old := fun _ _ _ h => h
  new := fun k a h e => absurd (sget_lt e) (by omega)
/-- a new thing, a new place -/
theorem Ext.place {p : Addr} {o : HO} (hp : H p = none) : Ext H ρ (upd H p o) (some p :: ρ) where
  keep := fun a u h _ => by rw [upd_ne (ne_of_none h hp)]; exact h
  there := fun a h => by
    by_cases e : a = p
    · subst e; exact hp
    · rw [upd_ne e] at h; exact h
  le := by simp
  old := fun k hk a e => by rw [sget_cons_lt hk] at e; exact e
  new := fun k a hk e => by
    have h1 := sget_lt e
    simp only [List.length_cons] at h1
    have h2 : k = ρ.length := by omega
    subst h2
    rw [sget_top] at e
    cases e
    exact hp
/-- a thing of a place is changed -/
theorem Ext.write {p : Addr} {o : HO} (hp : Mu ρ p) : Ext H ρ (upd H p o) ρ where
  keep := fun a u h hm => by rw [upd_ne (fun e => hm (by rw [e]; exact hp))]; exact h
  there := fun a h => by
    by_cases e : a = p
    · subst e; rw [upd_same] at h; cases h
    · rw [upd_ne e] at h; exact h
  le := Nat.le_refl _
  old := fun _ _ _ h => h
  new := fun k a h e => absurd (sget_lt e) (by omega)
/-- a place dies -/
theorem Ext.kill {k : Nat} : Ext H ρ H (sput ρ k none) where
  keep := fun a u h hm => h
  there := fun a h => h
  le := by rw [sput_length]; exact Nat.le_refl _
  old := fun j hj a e => by
    by_cases h : j = k
    · subst h; rw [sget_sput_same hj] at e; cases e
    · rw [sget_sput_ne h] at e; exact e
  new := fun j a hj e => by
    have := sget_lt e
    rw [sput_length] at this; omega
theorem Rd.ext {a : Addr} {u : HO} (x : Ext H ρ H' ρ') (hm : ¬ Mu ρ a) (h : Rd H a u) : Rd H' a u ∧ ¬ Mu ρ' a := by
  rcases h with h | ⟨o, h⟩
  · exact ⟨.inl (x.keep a _ h hm), x.nomu h hm⟩
  · exact ⟨.inr ⟨o, x.keep a _ h hm⟩, x.nomu h hm⟩
theorem Nm.ext {Z : Ad} {a : Addr} {o : HO} (x : Ext H ρ H' ρ') (h : H a = some o) (hm : Nm Z ρ a) : Nm Z ρ' a := ⟨x.nomu h hm.1, hm.2⟩
theorem Tz.ext {Z : Ad} {a : Addr} {vs : List V} (x : Ext H ρ H' ρ') (h : Tz Z H ρ a vs) : Tz Z H' ρ' a vs := ⟨x.keep _ _ h.1 h.2.1, h.2.ext x h.1⟩
theorem Fz.ext {Z : Ad} {a : Addr} {vs : List V} (x : Ext H ρ H' ρ') (h : Fz Z H ρ a vs) : Fz Z H' ρ' a vs := by
  rcases h with ⟨h, hm⟩ | ⟨o, h, hm⟩
  · exact .inl ⟨x.keep a _ h hm.1, hm.ext x h⟩
  · exact .inr ⟨o, x.keep a _ h hm.1, hm.ext x h⟩
end

/-! ### what holds behind -/
section
variable {K : PySem.W.Frag} {Z : Ad} {H H' : Hp} {ρ ρ' : Rho}
mutual
theorem RD.ext (x : Ext H ρ H' ρ') : ∀ {d : D} {v : V}, RD K Z H ρ d v → RD K Z H' ρ' d v
  | _, _, .non => .non
  | _, _, .bl b => .bl b
  | _, _, .int i => .int i
  | _, _, .str s h => .str s h
  | _, _, .tup h r => .tup (h.ext x) (RDs.ext x r)
  | _, _, .con h r => .con h (RDs.ext x r)
  | _, _, .kl (.inl ⟨o, h, hm⟩) r => .kl (.inl ⟨o, x.keep _ _ h hm.1, hm.ext x h⟩) (RDs.ext x r)
  | _, _, .kl (.inr h) r => .kl (.inr h) (RDs.ext x r)
  | _, _, .lst h r => .lst (h.ext x) (RDs.ext x r)
  | _, _, .obj h hm hc hf r => .obj (x.keep _ _ h hm.1) (hm.ext x h) hc hf (RDs.ext x r)
  | _, _, .exc hc h hm h2 hm2 e1 e2 rw rp => .exc hc (x.keep _ _ h hm.1) (hm.ext x h) (x.keep _ _ h2 hm2.1) (hm2.ext x h2) e1 e2 (RD.ext x rw) (RD.ext x rp)
  | _, _, .loc h hv => .loc (Nat.lt_of_lt_of_le h x.le) fun a e => hv a (x.old _ h a e)
  | _, _, .fn h => .fn h
  | _, _, .cls h => .cls h
  | _, _, .ty n => .ty n
theorem RDs.ext (x : Ext H ρ H' ρ') : ∀ {ds : List D} {vs : List V}, RDs K Z H ρ ds vs → RDs K Z H' ρ' ds vs
  | _, _, .nil => .nil
  | _, _, .cons h r => .cons (RD.ext x h) (RDs.ext x r)
end
theorem RDs.length : ∀ {ds : List D} {vs : List V}, RDs K Z H ρ ds vs → ds.length = vs.length
  | _, _, .nil => rfl
  | _, _, .cons _ r => congrArg Nat.succ (RDs.length r)
theorem RDs.append : ∀ {ds es : List D} {vs us : List V}, RDs K Z H ρ ds vs → RDs K Z H ρ es us → RDs K Z H ρ (ds ++ es) (vs ++ us)
  | _, _, _, _, .nil, q => q
  | _, _, _, _, .cons h r, q => .cons h (RDs.append r q)
theorem RDs.get : ∀ {ds : List D} {vs : List V} {i : Nat} {d : D}, RDs K Z H ρ ds vs → ds[i]? = some d → ∃ v, vs[i]? = some v ∧ RD K Z H ρ d v
  | _, _, _, _, .nil, e => by simp at e
  | _, _, 0, _, .cons h _, e => by simp at e; subst e; exact ⟨_, rfl, h⟩
  | _, _, i + 1, d, .cons _ r, e => by
    obtain ⟨v, h1, h2⟩ := RDs.get (i := i) r (by simpa using e)
    exact ⟨v, by simpa using h1, h2⟩
theorem RDs.get' : ∀ {ds : List D} {vs : List V} {i : Nat} {v : V}, RDs K Z H ρ ds vs → vs[i]? = some v → ∃ d, ds[i]? = some d ∧ RD K Z H ρ d v
  | _, _, _, _, .nil, e => by simp at e
  | _, _, 0, _, .cons h _, e => by simp at e; subst e; exact ⟨_, rfl, h⟩
  | _, _, i + 1, d, .cons _ r, e => by
    obtain ⟨v, h1, h2⟩ := RDs.get' (i := i) r (by simpa using e)
    exact ⟨v, by simpa using h1, h2⟩
theorem RDs.set : ∀ {ds : List D} {vs : List V} {d : D} {v : V}, RDs K Z H ρ ds vs → RD K Z H ρ d v → ∀ i : Nat, RDs K Z H ρ (ds.set i d) (vs.set i v)
  | _, _, _, _, .nil, _, _ => .nil
  | _, _, _, _, .cons _ r, q, 0 => .cons q r
  | _, _, _, _, .cons h r, q, i + 1 => .cons h (RDs.set r q i)
theorem RDs.take : ∀ {ds : List D} {vs : List V}, RDs K Z H ρ ds vs → ∀ n : Nat, RDs K Z H ρ (ds.take n) (vs.take n)
  | _, _, _, 0 => by simp only [List.take_zero]; exact .nil
  | _, _, .nil, _ + 1 => .nil
  | _, _, .cons h r, n + 1 => .cons h (RDs.take r n)
theorem RDs.drop : ∀ {ds : List D} {vs : List V}, RDs K Z H ρ ds vs → ∀ n : Nat, RDs K Z H ρ (ds.drop n) (vs.drop n)
  | _, _, r, 0 => r
  | _, _, .nil, _ + 1 => .nil
  | _, _, .cons _ r, n + 1 => RDs.drop r n
theorem RDs.dropLast {ds : List D} {vs : List V} (r : RDs K Z H ρ ds vs) : RDs K Z H ρ ds.dropLast vs.dropLast := by
  rw [List.dropLast_eq_take, List.dropLast_eq_take, r.length]
  exact r.take _
end

/-! ### the store -/
/-- keys of a dict as the layer has them -/
def keyD : D → Option (List Key)
  | .int i => some [.inl i]
  | .str x => some [.inr ⟨x.toArray⟩]
  | _ => none
def keyT : D → Option (List Key)
  | .tup xs => mapO (fun d => match d with
    | .int i => some (Sum.inl i : Key)
    | .str x => some (Sum.inr ⟨x.toArray⟩)
    | _ => none) xs
  | _ => none
/-- the entries of a dict: all keys are whole numbers and texts, or all are tuples of whole numbers -/
inductive KR (K : PySem.W.Frag) (Z : Ad) (H : Hp) (ρ : Rho) {κ : Type} (ky : D → κ → Prop) : List (D × D) → List (κ × V) → Prop
  | nil : KR K Z H ρ ky [] []
  | cons {d e : D} {k : κ} {v : V} {l : List (D × D)} {m : List (κ × V)} (hk : ky d k) (h : RD K Z H ρ e v) (r : KR K Z H ρ ky l m) : KR K Z H ρ ky ((d, e) :: l) ((k, v) :: m)
def kyK (d : D) (k : Key) : Prop := keyD d = some [k]
def kyT (d : D) (k : List Key) : Prop := keyT d = some k
abbrev KVr (K : PySem.W.Frag) (Z : Ad) (H : Hp) (ρ : Rho) : List (D × D) → List (Key × V) → Prop := KR K Z H ρ kyK
abbrev KTr (K : PySem.W.Frag) (Z : Ad) (H : Hp) (ρ : Rho) : List (D × D) → List (List Key × V) → Prop := KR K Z H ρ kyT
/-- a thing of the store lies at a -/
inductive RO (K : PySem.W.Frag) (Z : Ad) (H : Hp) (ρ : Rho) : Ob → Addr → Prop
  | lst {a : Addr} {ds : List D} {vs : List V} (h : H a = some (.lst vs)) (r : RDs K Z H ρ ds vs) : RO K Z H ρ (.lst ds) a
  | dK {a : Addr} {l : List (D × D)} {m : List (Key × V)} (h : H a = some (.dK m)) (r : KVr K Z H ρ l m) : RO K Z H ρ (.dct false l) a
  | dT {a : Addr} {l : List (D × D)} {m : List (List Key × V)} (h : H a = some (.dT m)) (r : KTr K Z H ρ l m) : RO K Z H ρ (.dct true l) a
  | ins {a C dx : Addr} {c : Nat} {fs : List (Str × V)} {ds : List D} (h : H a = some (.ins C dx fs)) (hc : Z.cls c = some C) (hf : fs.map (·.1) = (Z.fld c).take ds.length) (r : RDs K Z H ρ ds (fs.map (·.2))) : RO K Z H ρ (.ins c ds) a
mutual
/-- all places within are below b -/
inductive Und (b : Nat) : D → Prop
  | non : Und b .non
  | bl (x : Bool) : Und b (.bl x)
  | int (i : Int) : Und b (.int i)
  | str (x : List Nat) : Und b (.str x)
  | tup {xs : List D} (h : Unds b xs) : Und b (.tup xs)
  | con {xs : List D} (h : Unds b xs) : Und b (.con xs)
  | kl {xs : List D} (h : Unds b xs) : Und b (.kl xs)
  | lst {xs : List D} (h : Unds b xs) : Und b (.lst xs)
  | obj {c : Nat} {xs : List D} (h : Unds b xs) : Und b (.obj c xs)
  | exc {c : Nat} {w p : D} (h : Und b w) (h' : Und b p) : Und b (.exc c w p)
  | loc {k : Nat} (h : k < b) : Und b (.loc k)
  | fn (f : Nat) : Und b (.fn f)
  | cls (c : Nat) : Und b (.cls c)
  | ty (n : Nat) : Und b (.ty n)
inductive Unds (b : Nat) : List D → Prop
  | nil : Unds b []
  | cons {d : D} {ds : List D} (h : Und b d) (r : Unds b ds) : Unds b (d :: ds)
end
theorem Unds.of : ∀ {b : Nat} {ds : List D}, (∀ d ∈ ds, Und b d) → Unds b ds
  | _, [], _ => .nil
  | _, d :: ds, h => .cons (h d List.mem_cons_self) (Unds.of fun e he => h e (List.mem_cons_of_mem _ he))
theorem Unds.mem : ∀ {b : Nat} {ds : List D} {d : D}, Unds b ds → d ∈ ds → Und b d
  | _, _ :: _, d, .cons h r, hm => by
    rcases List.mem_cons.mp hm with e | hm
    · rw [e]; exact h
    · exact r.mem hm
theorem under_und {b : Nat} : ∀ (n : Nat) (d : D), under b n d = true → Und b d := by
  intro n
  induction n with
  | zero =>
    intro d h
    cases d <;> simp [under] at h
    all_goals first | exact .loc h | constructor
  | succ n ih =>
    intro d h
    cases d <;> simp only [under, List.all_eq_true, Bool.and_eq_true, decide_eq_true_eq] at h
    all_goals first
      | exact .tup (.of fun d hd => ih d (h d hd))
      | exact .con (.of fun d hd => ih d (h d hd))
      | exact .kl (.of fun d hd => ih d (h d hd))
      | exact .lst (.of fun d hd => ih d (h d hd))
      | exact .obj (.of fun d hd => ih d (h d hd))
      | exact .exc (ih _ h.1) (ih _ h.2)
      | exact .loc h
      | constructor
theorem Und.mono {b c : Nat} (hb : b ≤ c) : ∀ {d : D}, Und b d → Und c d := by
  intro d h
  exact Und.rec (motive_1 := fun d _ => Und c d) (motive_2 := fun ds _ => Unds c ds) .non (fun x => .bl x) (fun x => .int x) (fun x => .str x) (fun _ h => .tup h) (fun _ h => .con h) (fun _ h => .kl h) (fun _ h => .lst h) (fun _ h => .obj h) (fun _ _ h h' => .exc h h')
    (fun h => .loc (Nat.lt_of_lt_of_le h hb)) (fun x => .fn x) (fun x => .cls x) (fun x => .ty x) .nil (fun _ _ h r => .cons h r) h
def UndO (b : Nat) : Ob → Prop
  | .lst xs => Unds b xs
  | .dct _ kvs => Unds b (kvs.map (·.1)) ∧ Unds b (kvs.map (·.2))
  | .set xs => Unds b xs
  | .ins _ fs => Unds b fs
  | .dead => True
/-- B: where the running calls' own places begin -/
structure Sim (K : PySem.W.Frag) (Z : Ad) (B : List Nat) (st : Store) (H : Hp) (ρ : Rho) : Prop where
  len : st.length = ρ.length
  inj : ∀ j k a, sget ρ j = some (some a) → sget ρ k = some (some a) → j = k
  ob : ∀ k o, sget st k = some o → (o = .dead ∧ sget ρ k = some none) ∨ ∃ a, sget ρ k = some (some a) ∧ RO K Z H ρ o a
  rs : ∀ a ∈ Z.rs, ¬ Mu ρ a ∧ ∃ o, H a = some o
  wf : ∀ b ∈ B, b ≤ st.length ∧ ∀ k o, k < b → sget st k = some o → UndO b o
section
variable {K : PySem.W.Frag} {Z : Ad} {H H' : Hp} {ρ ρ' : Rho} {B : List Nat} {st : Store}
theorem KR.ext {κ : Type} {ky : D → κ → Prop} (x : Ext H ρ H' ρ') : ∀ {l : List (D × D)} {m : List (κ × V)}, KR K Z H ρ ky l m → KR K Z H' ρ' ky l m
  | _, _, .nil => .nil
  | _, _, .cons hk h r => .cons hk (h.ext x) (KR.ext x r)
theorem KR.length {κ : Type} {ky : D → κ → Prop} : ∀ {l : List (D × D)} {m : List (κ × V)}, KR K Z H ρ ky l m → l.length = m.length
  | _, _, .nil => rfl
  | _, _, .cons _ _ r => congrArg Nat.succ (KR.length r)
theorem RO.ext {o : Ob} {a : Addr} (x : Ext H ρ H' ρ') (ha : H' a = H a) (h : RO K Z H ρ o a) : RO K Z H' ρ' o a := by
  cases h with
  | lst h r => exact .lst (ha.trans h) (r.ext x)
  | dK h r => exact .dK (ha.trans h) (r.ext x)
  | dT h r => exact .dT (ha.trans h) (r.ext x)
  | ins h hc hf r => exact .ins (ha.trans h) hc hf (r.ext x)
theorem RO.there {o : Ob} {a : Addr} (h : RO K Z H ρ o a) : ∃ u, H a = some u := by
  cases h with
  | lst h _ => exact ⟨_, h⟩
  | dK h _ => exact ⟨_, h⟩
  | dT h _ => exact ⟨_, h⟩
  | ins h _ _ _ => exact ⟨_, h⟩
/-- a new thing that is nobody's place -/
theorem Sim.laid {p : Addr} {o : HO} (S : Sim K Z B st H ρ) (hp : H p = none) : Sim K Z B st (upd H p o) ρ where
  len := S.len
  inj := S.inj
  ob := fun k u e => by
    rcases S.ob k u e with h | ⟨a, h1, h2⟩
    · exact .inl h
    · obtain ⟨w, hw⟩ := h2.there
      exact .inr ⟨a, h1, h2.ext (Ext.laid hp) (by rw [upd_ne (ne_of_none hw hp)])⟩
  rs := fun a ha => by
    obtain ⟨h1, u, h2⟩ := S.rs a ha
    exact ⟨h1, u, by rw [upd_ne (ne_of_none h2 hp)]; exact h2⟩
  wf := S.wf
/-- a new place -/
theorem Sim.place {p : Addr} {o : HO} {ob : Ob} (S : Sim K Z B st H ρ) (hp : H p = none) (r : RO K Z (upd H p o) (some p :: ρ) ob p) (nm : ¬ Mu ρ p) : Sim K Z B (ob :: st) (upd H p o) (some p :: ρ) where
  len := by simp [S.len]
  inj := fun j k a ej ek => by
    have lj := sget_lt ej
    have lk := sget_lt ek
    simp only [List.length_cons] at lj lk
    by_cases hj : j = ρ.length
    · by_cases hk : k = ρ.length
      · rw [hj, hk]
      · rw [hj, sget_top] at ej
        rw [sget_cons_lt (by omega)] at ek
        cases ej
        exact absurd ⟨k, ek⟩ nm
    · rw [sget_cons_lt (by omega)] at ej
      by_cases hk : k = ρ.length
      · rw [hk, sget_top] at ek
        cases ek
        exact absurd ⟨j, ej⟩ nm
      · rw [sget_cons_lt (by omega)] at ek
        exact S.inj j k a ej ek
  ob := fun k u e => by
    have lk := sget_lt e
    simp only [List.length_cons] at lk
    by_cases hk : k = st.length
    · subst hk
      rw [sget_top] at e
      cases e
      exact .inr ⟨p, by rw [S.len]; exact sget_top, r⟩
    · rw [sget_cons_lt (by omega)] at e
      rcases S.ob k u e with ⟨h, h'⟩ | ⟨a, h1, h2⟩
      · exact .inl ⟨h, by rw [sget_cons_lt (by rw [← S.len]; omega)]; exact h'⟩
      · obtain ⟨w, hw⟩ := h2.there
        exact .inr ⟨a, by rw [sget_cons_lt (by rw [← S.len]; omega)]; exact h1, h2.ext (Ext.place hp) (by rw [upd_ne (ne_of_none hw hp)])⟩
  rs := fun a ha => by
    obtain ⟨h1, u, h2⟩ := S.rs a ha
    refine ⟨?_, u, by rw [upd_ne (ne_of_none h2 hp)]; exact h2⟩
    rintro ⟨k, e⟩
    have lk := sget_lt e
    simp only [List.length_cons] at lk
    by_cases hk : k = ρ.length
    · subst hk
      rw [sget_top] at e
      cases e
      rw [hp] at h2; cases h2
    · rw [sget_cons_lt (by omega)] at e
      exact h1 ⟨k, e⟩
  wf := fun b hb => by
    obtain ⟨h1, h2⟩ := S.wf b hb
    refine ⟨by simp only [List.length_cons]; omega, fun k o hk e => ?_⟩
    rw [sget_cons_lt (by omega)] at e
    exact h2 k o hk e
/-- no place has a free address -/
theorem Sim.nomu (S : Sim K Z B st H ρ) {p : Addr} (hp : H p = none) : ¬ Mu ρ p := by
  rintro ⟨k, e⟩
  have hk := sget_lt e
  rw [← S.len] at hk
  obtain ⟨o, ho⟩ := sget_some hk
  rcases S.ob k o ho with ⟨_, h⟩ | ⟨a, h1, h2⟩
  · rw [e] at h; cases h
  · rw [e] at h1; cases h1
    obtain ⟨w, hw⟩ := h2.there
    rw [hp] at hw; cases hw
theorem Sim.nm (S : Sim K Z B st H ρ) {p : Addr} (hp : H p = none) : Nm Z ρ p := ⟨S.nomu hp, fun z => by
  obtain ⟨_, u, h⟩ := S.rs p z
  rw [hp] at h; cases h⟩
/-- a place's thing is changed -/
theorem Sim.write {k : Nat} {a : Addr} {o : HO} {ob : Ob} (S : Sim K Z B st H ρ) (hk : sget ρ k = some (some a)) (r : RO K Z (upd H a o) ρ ob a) (hu : ∀ b ∈ B, k < b → UndO b ob) : Sim K Z B (sput st k ob) (upd H a o) ρ where
  len := by rw [sput_length]; exact S.len
  inj := S.inj
  ob := fun j u e => by
    have lk := sget_lt hk
    rw [← S.len] at lk
    by_cases hj : j = k
    · subst hj
      rw [sget_sput_same lk] at e
      cases e
      exact .inr ⟨a, hk, r⟩
    · rw [sget_sput_ne hj] at e
      rcases S.ob j u e with h | ⟨c, h1, h2⟩
      · exact .inl h
      · have hc : c ≠ a := fun z => hj (S.inj j k c h1 (by rw [z]; exact hk))
        exact .inr ⟨c, h1, h2.ext (Ext.write ⟨k, hk⟩) (by rw [upd_ne hc])⟩
  rs := fun b hb => by
    obtain ⟨h1, u, h2⟩ := S.rs b hb
    exact ⟨h1, u, by rw [upd_ne (fun z => h1 (by rw [z]; exact ⟨k, hk⟩))]; exact h2⟩
  wf := fun b hb => by
    obtain ⟨h1, h2⟩ := S.wf b hb
    refine ⟨by rw [sput_length]; exact h1, fun j u hj e => ?_⟩
    by_cases hjk : j = k
    · subst hjk
      rw [sget_sput_same (by omega)] at e
      cases e
      exact hu b hb hj
    · rw [sget_sput_ne hjk] at e
      exact h2 j u hj e
/-- a place dies -/
theorem Sim.kill {k : Nat} (S : Sim K Z B st H ρ) (hk : k < st.length) : Sim K Z B (sput st k .dead) H (sput ρ k none) where
  len := by rw [sput_length, sput_length]; exact S.len
  inj := fun i j a ei ej => by
    have hi : i ≠ k := fun z => by rw [z, sget_sput_same (by rw [← S.len]; exact hk)] at ei; cases ei
    have hj : j ≠ k := fun z => by rw [z, sget_sput_same (by rw [← S.len]; exact hk)] at ej; cases ej
    rw [sget_sput_ne hi] at ei
    rw [sget_sput_ne hj] at ej
    exact S.inj i j a ei ej
  ob := fun j u e => by
    by_cases hj : j = k
    · subst hj
      rw [sget_sput_same hk] at e
      cases e
      exact .inl ⟨rfl, sget_sput_same (by rw [← S.len]; exact hk)⟩
    · rw [sget_sput_ne hj] at e
      rcases S.ob j u e with ⟨h, h'⟩ | ⟨c, h1, h2⟩
      · exact .inl ⟨h, by rw [sget_sput_ne hj]; exact h'⟩
      · exact .inr ⟨c, by rw [sget_sput_ne hj]; exact h1, h2.ext Ext.kill rfl⟩
  rs := fun b hb => by
    obtain ⟨h1, u, h2⟩ := S.rs b hb
    refine ⟨?_, u, h2⟩
    rintro ⟨j, e⟩
    by_cases hj : j = k
    · subst hj
      rw [sget_sput_same (by rw [← S.len]; exact hk)] at e; cases e
    · rw [sget_sput_ne hj] at e
      exact h1 ⟨j, e⟩
  wf := fun b hb => by
    obtain ⟨h1, h2⟩ := S.wf b hb
    refine ⟨by rw [sput_length]; exact h1, fun j u hj e => ?_⟩
    by_cases hjk : j = k
    · subst hjk
      rw [sget_sput_same hk] at e
      cases e
      exact trivial
    · rw [sget_sput_ne hjk] at e
      exact h2 j u hj e
theorem Sim.at (S : Sim K Z B st H ρ) {k : Nat} {o : Ob} (e : sget st k = some o) (hd : o ≠ .dead) : ∃ a, sget ρ k = some (some a) ∧ RO K Z H ρ o a := by
  rcases S.ob k o e with ⟨h, _⟩ | h
  · exact absurd h hd
  · exact h
/-- a list at a place -/
theorem Sim.lst (S : Sim K Z B st H ρ) {k : Nat} {ds : List D} (e : sget st k = some (.lst ds)) : ∃ a vs, sget ρ k = some (some a) ∧ H a = some (.lst vs) ∧ RDs K Z H ρ ds vs := by
  obtain ⟨a, h1, h2⟩ := S.at e (by intro z; cases z)
  cases h2 with
  | lst h r => exact ⟨a, _, h1, h, r⟩
/-- a place's value -/
theorem RD.loc_ref {k : Nat} {v : V} {a : Addr} (h : RD K Z H ρ (.loc k) v) (e : sget ρ k = some (some a)) : v = .ref a := by
  cases h with
  | loc _ hv => rw [hv a e]

/-! ### lists that are being made -/
/-- what speaks not of D may have it changed -/
theorem nm_upd {a p : Addr} {o u : HO} (hm : Nm Z ρ a) (hp : p ∈ Z.rs) (h : H a = some u) : upd H p o a = some u := by
  rw [upd_ne (fun z => hm.2 (by rw [z]; exact hp))]; exact h
mutual
theorem RD.own {p : Addr} {o : HO} (hp : p ∈ Z.rs) : ∀ {d : D} {v : V}, RD K Z H ρ d v → RD K Z (upd H p o) ρ d v
  | _, _, .non => .non
  | _, _, .bl b => .bl b
  | _, _, .int i => .int i
  | _, _, .str s h => .str s h
  | _, _, .tup h r => .tup ⟨nm_upd h.2 hp h.1, h.2⟩ (RDs.own hp r)
  | _, _, .con h r => .con h (RDs.own hp r)
  | _, _, .kl (.inl ⟨o, h, hm⟩) r => .kl (.inl ⟨o, nm_upd hm hp h, hm⟩) (RDs.own hp r)
  | _, _, .kl (.inr h) r => .kl (.inr h) (RDs.own hp r)
  | _, _, .lst (.inl ⟨h, hm⟩) r => .lst (.inl ⟨nm_upd hm hp h, hm⟩) (RDs.own hp r)
  | _, _, .lst (.inr ⟨u, h, hm⟩) r => .lst (.inr ⟨u, nm_upd hm hp h, hm⟩) (RDs.own hp r)
  | _, _, .obj h hm hc hf r => .obj (nm_upd hm hp h) hm hc hf (RDs.own hp r)
  | _, _, .exc hc h hm h2 hm2 e1 e2 rw rp => .exc hc (nm_upd hm hp h) hm (nm_upd hm2 hp h2) hm2 e1 e2 (RD.own hp rw) (RD.own hp rp)
  | _, _, .loc h hv => .loc h hv
  | _, _, .fn h => .fn h
  | _, _, .cls h => .cls h
  | _, _, .ty n => .ty n
theorem RDs.own {p : Addr} {o : HO} (hp : p ∈ Z.rs) : ∀ {ds : List D} {vs : List V}, RDs K Z H ρ ds vs → RDs K Z (upd H p o) ρ ds vs
  | _, _, .nil => .nil
  | _, _, .cons h r => .cons (RD.own hp h) (RDs.own hp r)
end
theorem KR.own {κ : Type} {ky : D → κ → Prop} {p : Addr} {o : HO} (hp : p ∈ Z.rs) : ∀ {l : List (D × D)} {m : List (κ × V)}, KR K Z H ρ ky l m → KR K Z (upd H p o) ρ ky l m
  | _, _, .nil => .nil
  | _, _, .cons hk h r => .cons hk (h.own hp) (KR.own hp r)
theorem RO.own {p : Addr} {o : HO} {ob : Ob} {a : Addr} (hp : p ∈ Z.rs) (ha : a ≠ p) (h : RO K Z H ρ ob a) : RO K Z (upd H p o) ρ ob a := by
  cases h with
  | lst h r => exact .lst (by rw [upd_ne ha]; exact h) (r.own hp)
  | dK h r => exact .dK (by rw [upd_ne ha]; exact h) (r.own hp)
  | dT h r => exact .dT (by rw [upd_ne ha]; exact h) (r.own hp)
  | ins h hc hf r => exact .ins (by rw [upd_ne ha]; exact h) hc hf (r.own hp)
theorem Sim.own {p : Addr} {o : HO} (S : Sim K Z B st H ρ) (hp : p ∈ Z.rs) : Sim K Z B st (upd H p o) ρ where
  len := S.len
  inj := S.inj
  ob := fun k u e => by
    rcases S.ob k u e with h | ⟨a, h1, h2⟩
    · exact .inl h
    · exact .inr ⟨a, h1, h2.own hp fun z => (S.rs p hp).1 ⟨k, by rw [← z]; exact h1⟩⟩
  rs := fun a ha => by
    obtain ⟨h1, u, h2⟩ := S.rs a ha
    refine ⟨h1, ?_⟩
    by_cases z : a = p
    · exact ⟨o, by rw [z]; exact upd_same⟩
    · exact ⟨u, by rw [upd_ne z]; exact h2⟩
  wf := S.wf
/-- from here on p is being made -/
def Ad.res (Z : Ad) (p : Addr) : Ad := { Z with rs := p :: Z.rs }
theorem nm_res {a p : Addr} {u : HO} (hm : Nm Z ρ a) (hp : H p = none) (h : H a = some u) : Nm (Z.res p) ρ a := ⟨hm.1, fun z => by
  rcases List.mem_cons.mp z with e | z
  · rw [e, hp] at h; cases h
  · exact hm.2 z⟩
theorem nm_laid {a p : Addr} {o u : HO} (hp : H p = none) (h : H a = some u) : upd H p o a = some u := by
  rw [upd_ne (ne_of_none h hp)]; exact h
mutual
theorem RD.res {p : Addr} {o : HO} (hp : H p = none) : ∀ {d : D} {v : V}, RD K Z H ρ d v → RD K (Z.res p) (upd H p o) ρ d v
  | _, _, .non => .non
  | _, _, .bl b => .bl b
  | _, _, .int i => .int i
  | _, _, .str s h => .str s h
  | _, _, .tup h r => .tup ⟨nm_laid hp h.1, nm_res h.2 hp h.1⟩ (RDs.res hp r)
  | _, _, .con h r => .con h (RDs.res hp r)
  | _, _, .kl (.inl ⟨o, h, hm⟩) r => .kl (.inl ⟨o, nm_laid hp h, nm_res hm hp h⟩) (RDs.res hp r)
  | _, _, .kl (.inr h) r => .kl (.inr h) (RDs.res hp r)
  | _, _, .lst (.inl ⟨h, hm⟩) r => .lst (.inl ⟨nm_laid hp h, nm_res hm hp h⟩) (RDs.res hp r)
  | _, _, .lst (.inr ⟨u, h, hm⟩) r => .lst (.inr ⟨u, nm_laid hp h, nm_res hm hp h⟩) (RDs.res hp r)
  | _, _, .obj h hm hc hf r => .obj (nm_laid hp h) (nm_res hm hp h) hc hf (RDs.res hp r)
  | _, _, .exc hc h hm h2 hm2 e1 e2 rw rp => .exc hc (nm_laid hp h) (nm_res hm hp h) (nm_laid hp h2) (nm_res hm2 hp h2) e1 e2 (RD.res hp rw) (RD.res hp rp)
  | _, _, .loc h hv => .loc h hv
  | _, _, .fn h => .fn h
  | _, _, .cls h => .cls h
  | _, _, .ty n => .ty n
theorem RDs.res {p : Addr} {o : HO} (hp : H p = none) : ∀ {ds : List D} {vs : List V}, RDs K Z H ρ ds vs → RDs K (Z.res p) (upd H p o) ρ ds vs
  | _, _, .nil => .nil
  | _, _, .cons h r => .cons (RD.res hp h) (RDs.res hp r)
end
theorem KR.res {κ : Type} {ky : D → κ → Prop} {p : Addr} {o : HO} (hp : H p = none) : ∀ {l : List (D × D)} {m : List (κ × V)}, KR K Z H ρ ky l m → KR K (Z.res p) (upd H p o) ρ ky l m
  | _, _, .nil => .nil
  | _, _, .cons hk h r => .cons hk (h.res hp) (KR.res hp r)
theorem RO.res {p : Addr} {o : HO} {ob : Ob} {a : Addr} (hp : H p = none) (h : RO K Z H ρ ob a) : RO K (Z.res p) (upd H p o) ρ ob a := by
  cases h with
  | lst h r => exact .lst (nm_laid hp h) (r.res hp)
  | dK h r => exact .dK (nm_laid hp h) (r.res hp)
  | dT h r => exact .dT (nm_laid hp h) (r.res hp)
  | ins h hc hf r => exact .ins (nm_laid hp h) hc hf (r.res hp)
theorem Sim.res {p : Addr} {o : HO} (S : Sim K Z B st H ρ) (hp : H p = none) : Sim K (Z.res p) B st (upd H p o) ρ where
  len := S.len
  inj := S.inj
  ob := fun k u e => by
    rcases S.ob k u e with h | ⟨a, h1, h2⟩
    · exact .inl h
    · exact .inr ⟨a, h1, h2.res hp⟩
  rs := fun a ha => by
    rcases List.mem_cons.mp ha with e | ha
    · subst e
      exact ⟨S.nomu hp, o, upd_same⟩
    · obtain ⟨h1, u, h2⟩ := S.rs a ha
      exact ⟨h1, u, nm_laid hp h2⟩
  wf := S.wf
/-- it is made -/
theorem nm_fre {a p : Addr} (hm : Nm (Z.res p) ρ a) : Nm Z ρ a := ⟨hm.1, fun z => hm.2 (List.mem_cons_of_mem _ z)⟩
mutual
theorem RD.fre {p : Addr} : ∀ {d : D} {v : V}, RD K (Z.res p) H ρ d v → RD K Z H ρ d v
  | _, _, .non => .non
  | _, _, .bl b => .bl b
  | _, _, .int i => .int i
  | _, _, .str s h => .str s h
  | _, _, .tup h r => .tup ⟨h.1, nm_fre h.2⟩ (RDs.fre r)
  | _, _, .con h r => .con h (RDs.fre r)
  | _, _, .kl (.inl ⟨o, h, hm⟩) r => .kl (.inl ⟨o, h, nm_fre hm⟩) (RDs.fre r)
  | _, _, .kl (.inr h) r => .kl (.inr h) (RDs.fre r)
  | _, _, .lst (.inl ⟨h, hm⟩) r => .lst (.inl ⟨h, nm_fre hm⟩) (RDs.fre r)
  | _, _, .lst (.inr ⟨u, h, hm⟩) r => .lst (.inr ⟨u, h, nm_fre hm⟩) (RDs.fre r)
  | _, _, .obj h hm hc hf r => .obj h (nm_fre hm) hc hf (RDs.fre r)
  | _, _, .exc hc h hm h2 hm2 e1 e2 rw rp => .exc hc h (nm_fre hm) h2 (nm_fre hm2) e1 e2 (RD.fre rw) (RD.fre rp)
  | _, _, .loc h hv => .loc h hv
  | _, _, .fn h => .fn h
  | _, _, .cls h => .cls h
  | _, _, .ty n => .ty n
theorem RDs.fre {p : Addr} : ∀ {ds : List D} {vs : List V}, RDs K (Z.res p) H ρ ds vs → RDs K Z H ρ ds vs
  | _, _, .nil => .nil
  | _, _, .cons h r => .cons (RD.fre h) (RDs.fre r)
end
theorem KR.fre {κ : Type} {ky : D → κ → Prop} {p : Addr} : ∀ {l : List (D × D)} {m : List (κ × V)}, KR K (Z.res p) H ρ ky l m → KR K Z H ρ ky l m
  | _, _, .nil => .nil
  | _, _, .cons hk h r => .cons hk h.fre (KR.fre r)
theorem RO.fre {p : Addr} {ob : Ob} {a : Addr} (h : RO K (Z.res p) H ρ ob a) : RO K Z H ρ ob a := by
  cases h with
  | lst h r => exact .lst h r.fre
  | dK h r => exact .dK h r.fre
  | dT h r => exact .dT h r.fre
  | ins h hc hf r => exact .ins h hc hf r.fre
theorem Sim.fre {p : Addr} (S : Sim K (Z.res p) B st H ρ) : Sim K Z B st H ρ where
  len := S.len
  inj := S.inj
  ob := fun k u e => by
    rcases S.ob k u e with h | ⟨a, h1, h2⟩
    · exact .inl h
    · exact .inr ⟨a, h1, h2.fre⟩
  rs := fun a ha => S.rs a (List.mem_cons_of_mem _ ha)
  wf := S.wf
/-- what is made gets a place -/
theorem Ext.adopt {p : Addr} {H' : Hp} (x : Ext H ρ H' ρ') (hp : H p = none) (hp' : ∃ u, H' p = some u) : Ext H ρ H' (some p :: ρ') where
  keep := x.keep
  there := x.there
  le := by have := x.le; simp only [List.length_cons]; omega
  old := fun k hk a e => by
    have h1 := x.le
    rw [sget_cons_lt (by omega)] at e
    exact x.old k hk a e
  new := fun k a hk e => by
    have lk := sget_lt e
    simp only [List.length_cons] at lk
    by_cases h : k = ρ'.length
    · subst h
      rw [sget_top] at e
      cases e
      exact hp
    · rw [sget_cons_lt (by omega)] at e
      exact x.new k a hk e
theorem nm_adopt {a p : Addr} (hm : Nm (Z.res p) ρ a) : Nm Z (some p :: ρ) a := ⟨by
  rintro ⟨k, e⟩
  have lk := sget_lt e
  simp only [List.length_cons] at lk
  by_cases h : k = ρ.length
  · subst h
    rw [sget_top] at e
    cases e
    exact hm.2 List.mem_cons_self
  · rw [sget_cons_lt (by omega)] at e
    exact hm.1 ⟨k, e⟩, fun z => hm.2 (List.mem_cons_of_mem _ z)⟩
mutual
theorem RD.adopt {p : Addr} : ∀ {d : D} {v : V}, RD K (Z.res p) H ρ d v → RD K Z H (some p :: ρ) d v
  | _, _, .non => .non
  | _, _, .bl b => .bl b
  | _, _, .int i => .int i
  | _, _, .str s h => .str s h
  | _, _, .tup h r => .tup ⟨h.1, nm_adopt h.2⟩ (RDs.adopt r)
  | _, _, .con h r => .con h (RDs.adopt r)
  | _, _, .kl (.inl ⟨o, h, hm⟩) r => .kl (.inl ⟨o, h, nm_adopt hm⟩) (RDs.adopt r)
  | _, _, .kl (.inr h) r => .kl (.inr h) (RDs.adopt r)
  | _, _, .lst (.inl ⟨h, hm⟩) r => .lst (.inl ⟨h, nm_adopt hm⟩) (RDs.adopt r)
  | _, _, .lst (.inr ⟨u, h, hm⟩) r => .lst (.inr ⟨u, h, nm_adopt hm⟩) (RDs.adopt r)
  | _, _, .obj h hm hc hf r => .obj h (nm_adopt hm) hc hf (RDs.adopt r)
  | _, _, .exc hc h hm h2 hm2 e1 e2 rw rp => .exc hc h (nm_adopt hm) h2 (nm_adopt hm2) e1 e2 (RD.adopt rw) (RD.adopt rp)
  | _, _, .loc h hv => .loc (by simp only [List.length_cons]; omega) fun a e => hv a (by rw [sget_cons_lt h] at e; exact e)
  | _, _, .fn h => .fn h
  | _, _, .cls h => .cls h
  | _, _, .ty n => .ty n
theorem RDs.adopt {p : Addr} : ∀ {ds : List D} {vs : List V}, RDs K (Z.res p) H ρ ds vs → RDs K Z H (some p :: ρ) ds vs
  | _, _, .nil => .nil
  | _, _, .cons h r => .cons (RD.adopt h) (RDs.adopt r)
end
theorem KR.adopt {κ : Type} {ky : D → κ → Prop} {p : Addr} : ∀ {l : List (D × D)} {m : List (κ × V)}, KR K (Z.res p) H ρ ky l m → KR K Z H (some p :: ρ) ky l m
  | _, _, .nil => .nil
  | _, _, .cons hk h r => .cons hk h.adopt (KR.adopt r)
theorem RO.adopt {p : Addr} {ob : Ob} {a : Addr} (h : RO K (Z.res p) H ρ ob a) : RO K Z H (some p :: ρ) ob a := by
  cases h with
  | lst h r => exact .lst h r.adopt
  | dK h r => exact .dK h r.adopt
  | dT h r => exact .dT h r.adopt
  | ins h hc hf r => exact .ins h hc hf r.adopt
theorem Sim.adopt {p : Addr} {ob : Ob} (S : Sim K (Z.res p) B st H ρ) (hn : p ∉ Z.rs) (r : RO K Z H (some p :: ρ) ob p) : Sim K Z B (ob :: st) H (some p :: ρ) where
  len := by simp [S.len]
  inj := fun j k a ej ek => by
    have nm := (S.rs p List.mem_cons_self).1
    have lj := sget_lt ej
    have lk := sget_lt ek
    simp only [List.length_cons] at lj lk
    by_cases hj : j = ρ.length
    · by_cases hk : k = ρ.length
      · rw [hj, hk]
      · rw [hj, sget_top] at ej
        rw [sget_cons_lt (by omega)] at ek
        cases ej
        exact absurd ⟨k, ek⟩ nm
    · rw [sget_cons_lt (by omega)] at ej
      by_cases hk : k = ρ.length
      · rw [hk, sget_top] at ek
        cases ek
        exact absurd ⟨j, ej⟩ nm
      · rw [sget_cons_lt (by omega)] at ek
        exact S.inj j k a ej ek
  ob := fun k u e => by
    have lk := sget_lt e
    simp only [List.length_cons] at lk
    by_cases hk : k = st.length
    · subst hk
      rw [sget_top] at e
      cases e
      exact .inr ⟨p, by rw [S.len]; exact sget_top, r⟩
    · rw [sget_cons_lt (by omega)] at e
      rcases S.ob k u e with ⟨h, h'⟩ | ⟨a, h1, h2⟩
      · exact .inl ⟨h, by rw [sget_cons_lt (by rw [← S.len]; omega)]; exact h'⟩
      · exact .inr ⟨a, by rw [sget_cons_lt (by rw [← S.len]; omega)]; exact h1, h2.adopt⟩
  rs := fun a ha => by
    obtain ⟨h1, u, h2⟩ := S.rs a (List.mem_cons_of_mem _ ha)
    refine ⟨?_, u, h2⟩
    rintro ⟨k, e⟩
    have lk := sget_lt e
    simp only [List.length_cons] at lk
    by_cases h : k = ρ.length
    · subst h
      rw [sget_top] at e
      cases e
      exact hn ha
    · rw [sget_cons_lt (by omega)] at e
      exact h1 ⟨k, e⟩
  wf := fun b hb => by
    obtain ⟨h1, h2⟩ := S.wf b hb
    refine ⟨by simp only [List.length_cons]; omega, fun k o hk e => ?_⟩
    rw [sget_cons_lt (by omega)] at e
    exact h2 k o hk e

/-- other lists are being made -/
def Ad.rsv (Z : Ad) (l : List Addr) : Ad := { Z with rs := l }
/-- these are new ones -/
def RsOk (Z : Ad) (H : Hp) (l : List Addr) : Prop := ∀ a ∈ l, a ∈ Z.rs ∨ H a = none
theorem RsOk.same (Z : Ad) (H : Hp) : RsOk Z H Z.rs := fun a h => .inl h
theorem nm_rs {l : List Addr} {a : Addr} {u : HO} (hl : RsOk Z H l) (x : Ext H ρ H' ρ') (h : H a = some u) (hm : Nm Z ρ a) : Nm (Z.rsv l) ρ' a := ⟨x.nomu h hm.1, fun z => by
  rcases hl a z with e | e
  · exact hm.2 e
  · rw [h] at e; cases e⟩
mutual
theorem RD.extR {l : List Addr} (hl : RsOk Z H l) (x : Ext H ρ H' ρ') : ∀ {d : D} {v : V}, RD K Z H ρ d v → RD K (Z.rsv l) H' ρ' d v
  | _, _, .non => .non
  | _, _, .bl b => .bl b
  | _, _, .int i => .int i
  | _, _, .str s h => .str s h
  | _, _, .tup h r => .tup ⟨x.keep _ _ h.1 h.2.1, nm_rs hl x h.1 h.2⟩ (RDs.extR hl x r)
  | _, _, .con h r => .con h (RDs.extR hl x r)
  | _, _, .kl (.inl ⟨o, h, hm⟩) r => .kl (.inl ⟨o, x.keep _ _ h hm.1, nm_rs hl x h hm⟩) (RDs.extR hl x r)
  | _, _, .kl (.inr h) r => .kl (.inr h) (RDs.extR hl x r)
  | _, _, .lst (.inl ⟨h, hm⟩) r => .lst (.inl ⟨x.keep _ _ h hm.1, nm_rs hl x h hm⟩) (RDs.extR hl x r)
  | _, _, .lst (.inr ⟨u, h, hm⟩) r => .lst (.inr ⟨u, x.keep _ _ h hm.1, nm_rs hl x h hm⟩) (RDs.extR hl x r)
  | _, _, .obj h hm hc hf r => .obj (x.keep _ _ h hm.1) (nm_rs hl x h hm) hc hf (RDs.extR hl x r)
  | _, _, .exc hc h hm h2 hm2 e1 e2 rw rp => .exc hc (x.keep _ _ h hm.1) (nm_rs hl x h hm) (x.keep _ _ h2 hm2.1) (nm_rs hl x h2 hm2) e1 e2 (RD.extR hl x rw) (RD.extR hl x rp)
  | _, _, .loc h hv => .loc (Nat.lt_of_lt_of_le h x.le) fun a e => hv a (x.old _ h a e)
  | _, _, .fn h => .fn h
  | _, _, .cls h => .cls h
  | _, _, .ty n => .ty n
theorem RDs.extR {l : List Addr} (hl : RsOk Z H l) (x : Ext H ρ H' ρ') : ∀ {ds : List D} {vs : List V}, RDs K Z H ρ ds vs → RDs K (Z.rsv l) H' ρ' ds vs
  | _, _, .nil => .nil
  | _, _, .cons h r => .cons (RD.extR hl x h) (RDs.extR hl x r)
end
end
end MP

set_option autoImplicit false
set_option linter.all false
set_option maxRecDepth 100000
/-! Mp2: the small language's operations on values are the model's. -/
namespace MP
open PySem PySem.Spec PyProof.Rows L2

theorem line_le : LINE ≤ sizeLine := by rw [sizeLine_eq]; decide

/-- how a raised thing lies -/
inductive RX (K : PySem.W.Frag) (Z : Ad) (H : Hp) (ρ : Rho) : D → Value → Option Addr → Prop
  | mk {c : Nat} {w p : D} {C d : Addr} {fs : List (Str × V)} {vw vp : V} (hc : Z.cls c = some C) (h : H d = some (.xd fs)) (hm : Nm Z ρ d) (hw : fs.lookup ("word" : Str) = some vw) (hp : fs.lookup ("place" : Str) = some vp) (rw : RD K Z H ρ w vw) (rp : RD K Z H ρ p vp) : RX K Z H ρ (.exc c w p) (.ref C) (some d)

section
variable (K : PySem.W.Frag) (Z : Ad) (B : List Nat)
/-- what a result must bring -/
def Fin (W : XK) (H : Hp) (ρ : Rho) (r : Res D) (Q : VK) : Prop := match r with
  | .ok d st => ∀ v H' ρ', Ext H ρ H' ρ' → Sim K Z B st H' ρ' → RD K Z H' ρ' d v → Q v H'
  | .exc x st => ∀ c dx H' ρ', Ext H ρ H' ρ' → Sim K Z B st H' ρ' → RX K Z H' ρ' x c dx → W c dx H'
  | .bad => False
end
section
variable {K : PySem.W.Frag} {Z : Ad} {B : List Nat} {W : XK} {H H' : Hp} {ρ ρ' : Rho} {st : Store} {Q : VK}
theorem Fin.ext {r : Res D} (x : Ext H ρ H' ρ') (h : Fin K Z B W H ρ r Q) : Fin K Z B W H' ρ' r Q := by
  cases r with
  | ok d st => exact fun v H2 ρ2 y => h v H2 ρ2 (x.trans y)
  | exc e st => exact fun c dx H2 ρ2 y => h c dx H2 ρ2 (x.trans y)
  | bad => exact h
/-- done, nothing changed -/
theorem Fin.here {d : D} {v : V} (S : Sim K Z B st H ρ) (r : RD K Z H ρ d v) (h : Fin K Z B W H ρ (.ok d st) Q) : Q v H := h v H ρ (Ext.refl _ _) S r
theorem Fin.of {d : D} {o : Option D} (h : Fin K Z B W H ρ (Res.of o st) Q) : ∃ d, o = some d ∧ Fin K Z B W H ρ (.ok d st) Q := by
  cases o with
  | none => exact h.elim
  | some d => exact ⟨d, rfl, h⟩
/-- a new list -/
theorem Fin.newL {m : Bool} {ds : List D} {vs : List V} {p : Addr} (S : Sim K Z B st H ρ) (hp : H p = none) (r : RDs K Z H ρ ds vs) (h : Fin K Z B W H ρ (newL m ds st) Q) : Q (.ref p) (upd H p (.lst vs)) := by
  have nm := S.nm hp
  cases m with
  | false =>
    have h1 : Fin K Z B W H ρ (.ok (.lst ds) st) Q := h
    exact h1 _ _ ρ (Ext.laid hp) (S.laid hp) (.lst (.inl ⟨upd_same, nm⟩) (r.ext (Ext.laid hp)))
  | true =>
    have h1 : Fin K Z B W H ρ (.ok (.loc st.length) (.lst ds :: st)) Q := h
    refine h1 _ _ (some p :: ρ) (Ext.place hp) (S.place hp (.lst upd_same (r.ext (Ext.place hp))) nm.1) (.loc (by simp [S.len]) fun a e => ?_)
    rw [S.len, sget_top] at e
    cases e
    rfl
/-- a new tuple -/
theorem Fin.newT {ds : List D} {vs : List V} {p : Addr} (S : Sim K Z B st H ρ) (hp : H p = none) (r : RDs K Z H ρ ds vs) (h : Fin K Z B W H ρ (.ok (.tup ds) st) Q) : Q (.ref p) (upd H p (.tup vs)) :=
  h _ _ ρ (Ext.laid hp) (S.laid hp) (.tup ⟨upd_same, S.nm hp⟩ (r.ext (Ext.laid hp)))
/-- a new error -/
theorem Fin.newE {c : Nat} {w p : D} {vw vp : V} {a C d : Addr} {fs : List (Str × V)} (S : Sim K Z B st H ρ) (ha : H a = none) (hd : H d = none) (hne : d ≠ a) (hc : Z.cls c = some C) (e1 : fs.lookup ("word" : Str) = some vw) (e2 : fs.lookup ("place" : Str) = some vp) (rw' : RD K Z H ρ w vw) (rp : RD K Z H ρ p vp) (h : Fin K Z B W H ρ (.ok (.exc c w p) st) Q) : Q (.ref a) (upd (upd H d (exd d fs)) a (exo a C (some d))) := by
  have ha' : upd H d (exd d fs) a = none := by rw [upd_ne (Ne.symm hne)]; exact ha
  have x1 : Ext H ρ (upd H d (exd d fs)) ρ := Ext.laid hd
  have x2 : Ext (upd H d (exd d fs)) ρ (upd (upd H d (exd d fs)) a (exo a C (some d))) ρ := Ext.laid ha'
  have S1 := S.laid (o := exd d fs) hd
  exact h _ _ ρ (x1.trans x2) (S1.laid ha') (.exc hc upd_same (S1.nm ha') (by rw [upd_ne hne]; exact upd_same) (S.nm hd) e1 e2 ((rw'.ext x1).ext x2) ((rp.ext x1).ext x2))

/-! ### looking into values -/
theorem loc_lst (S : Sim K Z B st H ρ) {k : Nat} {v : V} {ds : List D} (r : RD K Z H ρ (.loc k) v) (e : sget st k = some (.lst ds)) : ∃ a vs, v = .ref a ∧ sget ρ k = some (some a) ∧ H a = some (.lst vs) ∧ RDs K Z H ρ ds vs := by
  obtain ⟨a, vs, h1, h2, h3⟩ := S.lst e
  exact ⟨a, vs, r.loc_ref h1, h1, h2, h3⟩
theorem lstOf_rd (S : Sim K Z B st H ρ) {d : D} {v : V} {ds : List D} (r : RD K Z H ρ d v) (e : lstOf st d = some ds) : ∃ a vs, v = .ref a ∧ Rd H a (.lst vs) ∧ RDs K Z H ρ ds vs := by
  cases d with
  | lst xs =>
    cases e
    cases r with
    | lst h r => exact ⟨_, _, rfl, h.rd, r⟩
  | loc k =>
    have e2 : (match sget st k with
      | some (.lst xs) => some xs
      | _ => none) = some ds := e
    split at e2
    · rename_i xs hk
      cases e2
      obtain ⟨a, vs, h1, h2, h3, h4⟩ := loc_lst S r hk
      exact ⟨a, vs, h1, .inl h3, h4⟩
    · cases e2
  | _ => cases e
theorem seqOf_rd (S : Sim K Z B st H ρ) {d : D} {v : V} {ds : List D} (r : RD K Z H ρ d v) (e : seqOf st d = some ds) : ∃ a vs, v = .ref a ∧ (SqL K H a vs ∨ SqT K H a vs) ∧ RDs K Z H ρ ds vs := by
  cases d with
  | tup xs =>
    cases e
    cases r with
    | tup h r => exact ⟨_, _, rfl, .inr h.sq, r⟩
  | con xs =>
    cases e
    cases r with
    | con h r => exact ⟨_, _, rfl, .inr h.sq, r⟩
  | kl xs =>
    cases e
    cases r with
    | kl h r => exact ⟨_, _, rfl, .inl h.sq, r⟩
  | lst xs =>
    obtain ⟨a, vs, h1, h2, h3⟩ := lstOf_rd S r (ds := ds) e
    exact ⟨a, vs, h1, .inl (.inl h2), h3⟩
  | loc k =>
    obtain ⟨a, vs, h1, h2, h3⟩ := lstOf_rd S r (ds := ds) e
    exact ⟨a, vs, h1, .inl (.inl h2), h3⟩
  | _ => cases e
theorem mapO_some {α β : Type} {f : α → Option β} : ∀ {xs : List α} {ys : List β}, mapO f xs = some ys → xs.length = ys.length ∧ ∀ (i : Nat) x, xs[i]? = some x → ∃ y, ys[i]? = some y ∧ f x = some y
  | [], ys, h => by cases h; exact ⟨rfl, fun i x e => by simp at e⟩
  | x :: r, ys, h => by
    unfold mapO at h
    cases hf : f x with
    | none => rw [hf] at h; cases h
    | some y =>
      rw [hf] at h
      cases hr : mapO f r with
      | none => rw [hr] at h; cases h
      | some zs =>
        rw [hr] at h
        cases h
        obtain ⟨h1, h2⟩ := mapO_some hr
        refine ⟨by simp [h1], fun i z e => ?_⟩
        cases i with
        | zero => simp at e; subst e; exact ⟨y, rfl, hf⟩
        | succ i => simpa using h2 i z (by simpa using e)
theorem mapO_cons {α β : Type} {f : α → Option β} {x : α} {xs : List α} {zs : List β} (h : mapO f (x :: xs) = some zs) : ∃ y ys, zs = y :: ys ∧ f x = some y ∧ mapO f xs = some ys := by
  unfold mapO at h
  cases hf : f x with
  | none => rw [hf] at h; cases h
  | some y =>
    rw [hf] at h
    cases hr : mapO f xs with
    | none => rw [hr] at h; cases h
    | some ys =>
      rw [hr] at h
      cases h
      exact ⟨y, ys, rfl, rfl, rfl⟩
/-- whole numbers in a row -/
theorem ints_rd : ∀ {ds : List D} {vs : List V} {ns : List Int}, RDs K Z H ρ ds vs → intsOf ds = some ns → vs = ns.map V.int
  | [], vs, ns, r, e => by cases r; cases e; rfl
  | d :: ds, vs, ns, r, e => by
    obtain ⟨n, ms, rfl, h1, h2⟩ := mapO_cons e
    cases r with
    | cons h r =>
      cases d with
      | int i =>
        cases h1
        cases h
        rw [ints_rd r h2]; rfl
      | _ => cases h1
theorem bools_rd : ∀ {ds : List D} {vs : List V} {ns : List Bool}, RDs K Z H ρ ds vs → mapO asBool ds = some ns → vs = ns.map V.bl
  | [], vs, ns, r, e => by cases r; cases e; rfl
  | d :: ds, vs, ns, r, e => by
    obtain ⟨n, ms, rfl, h1, h2⟩ := mapO_cons e
    cases r with
    | cons h r =>
      cases d with
      | bl i =>
        cases h1
        cases h
        rw [bools_rd r h2]; rfl
      | _ => cases h1
theorem strs_rd : ∀ {ds : List D} {vs : List V} {ns : List (List Nat)}, RDs K Z H ρ ds vs → strsOf ds = some ns → vs = (ns.map fun x => (⟨x.toArray⟩ : Str)).map V.str ∧ ∀ x ∈ ns, okS x
  | [], vs, ns, r, e => by cases r; cases e; exact ⟨rfl, fun x hx => by cases hx⟩
  | d :: ds, vs, ns, r, e => by
    obtain ⟨n, ms, rfl, h1, h2⟩ := mapO_cons e
    cases r with
    | cons h r =>
      cases d with
      | str i =>
        cases h1
        cases h with
        | str _ hs =>
        obtain ⟨h3, h4⟩ := strs_rd r h2
        rw [h3]
        refine ⟨rfl, fun x hx => ?_⟩
        rcases List.mem_cons.mp hx with e | hx
        · rw [e]; exact hs
        · exact h4 x hx
      | _ => cases h1

/-! ### operators -/
section
variable {X : Cx} {pins : List (Addr × Obj)} {σ : L2.St} {s : Shared}
theorem rd_list (I : Inv X pins σ H s) {a : Addr} {vs : List V} (h : Rd H a (.lst vs)) : ∃ (its : List Value) (n : Nat), Vals vs its ∧ vs.length ≤ sizeLine ∧ s.heap.get? a = some { cls := .type "list", data := .seq its.toArray n } := by
  obtain ⟨z, its, n, r, e⟩ := h.ok I.hok
  exact ⟨its, n, r, z, e⟩
/-- what an operation is asked of two values of the small language -/
def rOp (K : PySem.W.Frag) (Z : Ad) (B : List Nat) (W : XK) (f : D → D → Store → Res D) : R2 := fun x y H Q => ∃ st ρ d e, Sim K Z B st H ρ ∧ RD K Z H ρ d x ∧ RD K Z H ρ e y ∧ Fin K Z B W H ρ (f d e st) Q
theorem cat_lists (hK : X.K = K) {m : Bool} {d e : D} {xs ys : List D} {x y : V} {v u : Value} (I : Inv X pins σ H s) (rx : RelV x v) (ry : RelV y u) (S : Sim K Z B st H ρ) (hd : RD K Z H ρ d x) (he : RD K Z H ρ e y)
    (e1 : lstOf st d = some xs) (e2 : lstOf st e = some ys) (hl : xs.length + ys.length ≤ LINE) (h : Fin K Z B W H ρ (newL m (xs ++ ys) st) Q) : wpAny (model X.prog X.w) X.A (binaryOp .Add v u) (EP X pins σ Q) X.xe s := by
  obtain ⟨a, vs, rfl, h1, r1⟩ := lstOf_rd S hd e1
  obtain ⟨b, us, rfl, h2, r2⟩ := lstOf_rd S he e2
  cases rx
  cases ry
  obtain ⟨i1, n1, q1, z1, g1⟩ := rd_list I h1
  obtain ⟨i2, n2, q2, z2, g2⟩ := rd_list I h2
  have l1 := q1.length
  have l2 := q2.length
  have l3 := r1.length
  have l4 := r2.length
  have hz := line_le
  refine PySem.P.add_list g1 g2 ?_ (by rw [List.size_toArray, List.size_toArray]; omega)
  have ea : i1.toArray ++ i2.toArray = (i1 ++ i2).toArray := by simp
  rw [ea]
  exact ⟨.ref _, _, I.lnew (t' := s.toks) (q1.append q2) (by rw [List.length_append]; omega), rfl, Fin.newL S I.fresh (r1.append r2) h⟩
theorem op_addD (hK : X.K = K) (m : Bool) : OpR X (binaryOp .Add) (rOp K Z B W (binop .add m)) := by
  intro pins s σ H x y v u Q I rx ry h
  obtain ⟨st, ρ, d, e, S, hd, he, h⟩ := h
  have catL : (match lstOf st d, lstOf st e with
    | some xs, some ys => if xs.length + ys.length ≤ LINE then Fin K Z B W H ρ (newL m (xs ++ ys) st) Q else False
    | _, _ => False) → wpAny (model X.prog X.w) X.A (binaryOp .Add v u) (EP X pins σ Q) X.xe s := fun q => by
    split at q
    · rename_i xs ys e1 e2
      split at q
      · exact cat_lists hK I rx ry S hd he e1 e2 (by assumption) q
      · exact q.elim
    · exact q.elim
  have catL' : Fin K Z B W H ρ (match lstOf st d, lstOf st e with
    | some xs, some ys => if xs.length + ys.length ≤ LINE then newL m (xs ++ ys) st else .bad
    | _, _ => .bad) Q → wpAny (model X.prog X.w) X.A (binaryOp .Add v u) (EP X pins σ Q) X.xe s := fun q => by
    refine catL ?_
    split
    · rename_i xs ys e1 e2
      rw [e1, e2] at q
      simp only at q
      split
      · rw [if_pos (by assumption)] at q; exact q
      · rw [if_neg (by assumption)] at q; exact q
    · rename_i hn
      split at q
      · rename_i xs ys e1 e2
        exact absurd e2 (hn xs ys e1)
      · exact q
  cases d with
  | int i =>
    cases e with
    | int j =>
      cases hd; cases he
      exact op_add pins s σ H _ _ v u Q I rx ry ⟨i, j, rfl, rfl, Fin.here S (.int _) h⟩
    | _ => exact h.elim
  | str a =>
    cases e with
    | str b =>
      cases hd with
      | str _ h1 =>
      cases he with
      | str _ h2 =>
      have h3 : Fin K Z B W H ρ (if a.length + b.length ≤ LINE then .ok (.str (a ++ b)) st else .bad) Q := h
      split at h3
      · have hz := line_le
        refine op_add_str pins s σ H _ _ v u Q I rx ry ⟨_, _, rfl, rfl, by simp only [Str.length, List.size_toArray]; omega, ?_⟩
        have e : (⟨a.toArray⟩ : Str) ++ (⟨b.toArray⟩ : Str) = ⟨(a ++ b).toArray⟩ := by
          show (⟨a.toArray ++ b.toArray⟩ : Str) = _
          simp
        rw [e]
        exact Fin.here S (.str _ fun c hc => (List.mem_append.mp hc).elim (h1 c) (h2 c)) h3
      · exact h3.elim
    | _ => exact h.elim
  | tup a =>
    cases e with
    | tup b =>
      cases hd with
      | tup t1 r1 =>
      cases he with
      | tup t2 r2 =>
      have h3 : Fin K Z B W H ρ (if a.length + b.length ≤ LINE then .ok (.tup (a ++ b)) st else .bad) Q := h
      split at h3
      · have hz := line_le
        have l1 := r1.length
        have l2 := r2.length
        subst hK
        refine op_catA pins s σ H _ _ v u Q I rx ry ⟨_, _, _, _, rfl, rfl, t1.sq, t2.sq, by omega, fun z => ?_, fun _ z => ?_, fun _ _ p hp => Fin.newT S hp (r1.append r2) h3⟩
        · subst z
          have : a = [] := List.eq_nil_of_length_eq_zero (by simpa using l1)
          subst this
          exact Fin.here S (.tup t2 r2) h3
        · subst z
          have : b = [] := List.eq_nil_of_length_eq_zero (by simpa using l2)
          subst this
          rw [List.append_nil] at h3
          exact Fin.here S (.tup t1 r1) h3
      · exact h3.elim
    | _ => exact h.elim
  | lst a => exact catL' h
  | loc k => exact catL' h
  | _ => exact h.elim
theorem op_subD (m : Bool) : OpR X (binaryOp .Sub) (rOp K Z B W (binop .sub m)) := by
  intro pins s σ H x y v u Q I rx ry h
  obtain ⟨st, ρ, d, e, S, hd, he, h⟩ := h
  cases d with
  | int i =>
    cases e with
    | int j =>
      cases hd; cases he
      exact op_sub pins s σ H _ _ v u Q I rx ry ⟨i, j, rfl, rfl, Fin.here S (.int _) h⟩
    | _ => exact h.elim
  | _ => exact h.elim
theorem op_mulD (m : Bool) : OpR X (binaryOp .Mult) (rOp K Z B W (binop .mul m)) := by
  intro pins s σ H x y v u Q I rx ry h
  obtain ⟨st, ρ, d, e, S, hd, he, h⟩ := h
  cases d with
  | int i =>
    cases e with
    | int j =>
      cases hd; cases he
      have h3 : Fin K Z B W H ρ (if (-(2 ^ 64) < i ∧ i < 2 ^ 64) ∨ (-(2 ^ 64) < j ∧ j < 2 ^ 64) then .ok (.int (i * j)) st else .bad) Q := h
      split at h3
      · exact op_mul pins s σ H _ _ v u Q I rx ry ⟨i, j, rfl, rfl, by assumption, Fin.here S (.int _) h3⟩
      · exact h3.elim
    | _ => exact h.elim
  | _ => exact h.elim
theorem op_fdivD (m : Bool) : OpR X (binaryOp .FloorDiv) (rOp K Z B W (binop .fdiv m)) := by
  intro pins s σ H x y v u Q I rx ry h
  obtain ⟨st, ρ, d, e, S, hd, he, h⟩ := h
  cases d with
  | int i =>
    cases e with
    | int j =>
      cases hd; cases he
      have h3 : Fin K Z B W H ρ (if 0 < j ∧ j < 1073741824 then .ok (.int (i / j)) st else .bad) Q := h
      split at h3
      · exact op_fdiv pins s σ H _ _ v u Q I rx ry ⟨i, j, rfl, rfl, by assumption, Fin.here S (.int _) h3⟩
      · exact h3.elim
    | _ => exact h.elim
  | _ => exact h.elim
theorem op_modD (m : Bool) : OpR X (binaryOp .Mod) (rOp K Z B W (binop .mod m)) := by
  intro pins s σ H x y v u Q I rx ry h
  obtain ⟨st, ρ, d, e, S, hd, he, h⟩ := h
  cases d with
  | int i =>
    cases e with
    | int j =>
      cases hd; cases he
      have h3 : Fin K Z B W H ρ (if 0 < j then .ok (.int (i % j)) st else .bad) Q := h
      split at h3
      · exact op_mod pins s σ H _ _ v u Q I rx ry ⟨i, j, rfl, rfl, by assumption, Fin.here S (.int _) h3⟩
      · exact h3.elim
    | _ => exact h.elim
  | _ => exact h.elim
theorem op_powD (m : Bool) : OpR X (binaryOp .Pow) (rOp K Z B W (binop .pow m)) := by
  intro pins s σ H x y v u Q I rx ry h
  obtain ⟨st, ρ, d, e, S, hd, he, h⟩ := h
  cases d with
  | int i =>
    cases e with
    | int j =>
      cases hd; cases he
      have h3 : Fin K Z B W H ρ (if 0 ≤ j ∧ j ≤ 100 ∧ i.natAbs < 2 ^ 64 then .ok (.int (i ^ j.toNat)) st else .bad) Q := h
      split at h3
      · rename_i hc
        exact op_pow pins s σ H _ _ v u Q I rx ry ⟨i, j, rfl, rfl, ⟨hc.1, by omega, hc.2.2⟩, Fin.here S (.int _) h3⟩
      · exact h3.elim
    | _ => exact h.elim
  | _ => exact h.elim
def opOf : BOp → Operator
  | .add => .Add
  | .sub => .Sub
  | .mul => .Mult
  | .fdiv => .FloorDiv
  | .mod => .Mod
  | .pow => .Pow
theorem op_binD (hK : X.K = K) (o : BOp) (m : Bool) : OpR X (binaryOp (opOf o)) (rOp K Z B W (binop o m)) := by
  cases o
  · exact op_addD hK m
  · exact op_subD m
  · exact op_mulD m
  · exact op_fdivD m
  · exact op_modD m
  · exact op_powD m
end
end
end MP

set_option autoImplicit false
set_option linter.all false
set_option maxRecDepth 100000
/-! Mp3: comparisons, truth. -/
namespace MP
open PySem PySem.Spec PyProof.Rows L2

/-- data without places, to a depth -/
def flat : Nat → D → Bool
  | _, .non => true
  | _, .bl _ => true
  | _, .int _ => true
  | _, .str _ => true
  | n + 1, .tup xs => xs.all (flat n)
  | n + 1, .lst xs => xs.all (flat n)
  | _, _ => false
theorem mapO_flat {f : D → Option D} {n : Nat} (hf : ∀ d e, f d = some e → flat n e = true) : ∀ {xs ys : List D}, mapO f xs = some ys → ys.all (flat n) = true
  | [], ys, h => by cases h; rfl
  | x :: r, ys, h => by
    obtain ⟨y, zs, rfl, h1, h2⟩ := mapO_cons h
    rw [List.all_cons, hf x y h1, mapO_flat hf h2]; rfl
theorem deref_flat {st : Store} : ∀ (n : Nat) (d e : D), deref st n d = some e → flat n e = true := by
  intro n
  induction n with
  | zero =>
    intro d e h
    cases d <;> simp [deref] at h <;> subst h <;> rfl
  | succ n ih =>
    intro d e h
    cases d with
    | tup xs =>
      have h2 : (mapO (deref st n) xs).map D.tup = some e := h
      cases q : mapO (deref st n) xs with
      | none => rw [q] at h2; cases h2
      | some ys => rw [q] at h2; cases h2; exact mapO_flat ih q
    | con xs =>
      have h2 : (mapO (deref st n) xs).map D.tup = some e := h
      cases q : mapO (deref st n) xs with
      | none => rw [q] at h2; cases h2
      | some ys => rw [q] at h2; cases h2; exact mapO_flat ih q
    | kl xs =>
      have h2 : (mapO (deref st n) xs).map D.lst = some e := h
      cases q : mapO (deref st n) xs with
      | none => rw [q] at h2; cases h2
      | some ys => rw [q] at h2; cases h2; exact mapO_flat ih q
    | lst xs =>
      have h2 : (mapO (deref st n) xs).map D.lst = some e := h
      cases q : mapO (deref st n) xs with
      | none => rw [q] at h2; cases h2
      | some ys => rw [q] at h2; cases h2; exact mapO_flat ih q
    | loc k =>
      have h2 : (match sget st k with
        | some (.lst xs) => (mapO (deref st n) xs).map D.lst
        | _ => none) = some e := h
      split at h2
      · rename_i xs _
        cases q : mapO (deref st n) xs with
        | none => rw [q] at h2; cases h2
        | some ys => rw [q] at h2; cases h2; exact mapO_flat ih q
      · cases h2
    | non => cases h; rfl
    | bl _ => cases h; rfl
    | int _ => cases h; rfl
    | str _ => cases h; rfl
    | _ => cases h
section
variable {K : PySem.W.Frag} {Z : Ad} {B : List Nat} {W : XK} {H : Hp} {ρ : Rho} {st : Store} {Q : VK}
/-- what is followed is the library's data there -/
theorem deref_dp (S : Sim K Z B st H ρ) : ∀ (n : Nat) (d e : D) (v : V), deref st n d = some e → RD K Z H ρ d v → Dp K H v (pyd n e) ∧ (pyd n e).canLay0 = true ∧ (pyd n e).depth ≤ n := by
  intro n
  have strOk_ : ∀ x : List Nat, okS x → PyData.canLay0 (.str ⟨x.toArray⟩) = true := fun x h => by
    simp only [PyData.canLay0, PyData.strOk, Array.all_eq_true_iff_forall_mem]
    intro c hc
    exact decide_eq_true (h c (by simpa using hc))
  induction n with
  | zero =>
    intro d e v h r
    cases d <;> simp [deref] at h <;> subst h
    · cases r; exact ⟨.non, by simp [pyd, PyData.canLay0], by simp [pyd, PyData.depth]⟩
    · cases r; exact ⟨.bl _, by simp [pyd, PyData.canLay0], by simp [pyd, PyData.depth]⟩
    · cases r; exact ⟨.int _, by simp [pyd, PyData.canLay0], by simp [pyd, PyData.depth]⟩
    · cases r with
      | str _ hs => exact ⟨.str _, strOk_ _ hs, by simp [pyd, PyData.depth]⟩
  | succ n ih =>
    have rows : ∀ (xs ys : List D) (vs : List V), mapO (deref st n) xs = some ys → RDs K Z H ρ xs vs → DpAll K H vs (ys.map (pyd n)) ∧ PyData.canLayAll0 (ys.map (pyd n)) = true ∧ PyData.depthAll (ys.map (pyd n)) ≤ n := by
      intro xs
      induction xs with
      | nil => intro ys vs h r; cases h; cases r; exact ⟨.nil, rfl, by simp [PyData.depthAll]⟩
      | cons x xs ihx =>
        intro ys vs h r
        obtain ⟨y, zs, rfl, h1, h2⟩ := mapO_cons h
        cases r with
        | cons rh rr =>
          obtain ⟨a1, a2, a3⟩ := ih x y _ h1 rh
          obtain ⟨b1, b2, b3⟩ := ihx zs _ h2 rr
          refine ⟨.cons a1 b1, ?_, ?_⟩
          · simp only [List.map_cons, PyData.canLayAll0, a2, b2, Bool.and_self]
          · simp only [List.map_cons, PyData.depthAll]; omega
    intro d e v h r
    cases d with
    | tup xs =>
      have h2 : (mapO (deref st n) xs).map D.tup = some e := h
      cases q : mapO (deref st n) xs with
      | none => rw [q] at h2; cases h2
      | some ys =>
        rw [q] at h2; cases h2
        cases r with
        | tup ht rr =>
          obtain ⟨b1, b2, b3⟩ := rows xs ys _ q rr
          exact ⟨.tup ht.sq b1, by simpa [pyd, PyData.canLay0] using b2, by simp only [pyd, PyData.depth]; omega⟩
    | con xs =>
      have h2 : (mapO (deref st n) xs).map D.tup = some e := h
      cases q : mapO (deref st n) xs with
      | none => rw [q] at h2; cases h2
      | some ys =>
        rw [q] at h2; cases h2
        cases r with
        | con ht rr =>
          obtain ⟨b1, b2, b3⟩ := rows xs ys _ q rr
          exact ⟨.tup ht.sq b1, by simpa [pyd, PyData.canLay0] using b2, by simp only [pyd, PyData.depth]; omega⟩
    | kl xs =>
      have h2 : (mapO (deref st n) xs).map D.lst = some e := h
      cases q : mapO (deref st n) xs with
      | none => rw [q] at h2; cases h2
      | some ys =>
        rw [q] at h2; cases h2
        cases r with
        | kl ht rr =>
          obtain ⟨b1, b2, b3⟩ := rows xs ys _ q rr
          exact ⟨.lst ht.sq b1, by simpa [pyd, PyData.canLay0] using b2, by simp only [pyd, PyData.depth]; omega⟩
    | lst xs =>
      have h2 : (mapO (deref st n) xs).map D.lst = some e := h
      cases q : mapO (deref st n) xs with
      | none => rw [q] at h2; cases h2
      | some ys =>
        rw [q] at h2; cases h2
        cases r with
        | lst ht rr =>
          obtain ⟨b1, b2, b3⟩ := rows xs ys _ q rr
          exact ⟨.lst ht.sq b1, by simpa [pyd, PyData.canLay0] using b2, by simp only [pyd, PyData.depth]; omega⟩
    | loc k =>
      have h2 : (match sget st k with
        | some (.lst xs) => (mapO (deref st n) xs).map D.lst
        | _ => none) = some e := h
      split at h2
      · rename_i xs hk
        cases q : mapO (deref st n) xs with
        | none => rw [q] at h2; cases h2
        | some ys =>
          rw [q] at h2; cases h2
          obtain ⟨a, vs, rfl, h3, h4, h5⟩ := loc_lst S r hk
          obtain ⟨b1, b2, b3⟩ := rows xs ys _ q h5
          exact ⟨.lst (SqL.of h4) b1, by simpa [pyd, PyData.canLay0] using b2, by simp only [pyd, PyData.depth]; omega⟩
      · cases h2
    | non => cases h; cases r; exact ⟨.non, by simp [pyd, PyData.canLay0], by simp [pyd, PyData.depth]⟩
    | bl _ => cases h; cases r; exact ⟨.bl _, by simp [pyd, PyData.canLay0], by simp [pyd, PyData.depth]⟩
    | int _ => cases h; cases r; exact ⟨.int _, by simp [pyd, PyData.canLay0], by simp [pyd, PyData.depth]⟩
    | str _ =>
      cases h
      cases r with
      | str _ hs => exact ⟨.str _, strOk_ _ hs, by simp [pyd, PyData.depth]⟩
    | _ => cases h
theorem deref_shaped (S : Sim K Z B st H ρ) {d e : D} {v : V} (h : deref st DEEP d = some e) (r : RD K Z H ρ d v) : Dp K H v (pyd DEEP e) ∧ SeqAt.shaped (pyd DEEP e) = true := by
  obtain ⟨h1, h2, h3⟩ := deref_dp S DEEP d e v h r
  exact ⟨h1, by unfold SeqAt.shaped; rw [h2, Bool.true_and]; exact decide_eq_true (Nat.le_trans h3 (by decide))⟩
end
theorem str_beq (x y : List Nat) : ((⟨x.toArray⟩ : Str) == ⟨y.toArray⟩) = decide (x = y) := by
  by_cases h : x = y
  · subst h; simp
  · rw [decide_eq_false h]
    refine beq_eq_false_iff_ne.mpr fun z => h ?_
    have : x.toArray = y.toArray := by simpa using z
    simpa using congrArg Array.toList this
/-- == of the small language's data is the library's -/
theorem eqd_eqv : ∀ (n : Nat) (a b : D), flat n a = true → flat n b = true → PyData.eqv (pyd n a) (pyd n b) = eqd n a b := by
  intro n
  induction n with
  | zero =>
    intro a b ha hb
    cases a <;> (try (simp [flat] at ha; done)) <;> cases b <;> (try (simp [flat] at hb; done)) <;> simp only [pyd, PyData.eqv, eqd, str_beq] <;> first | rfl | exact (Bool.beq_eq_decide_eq _ _)
  | succ n ih =>
    have rows : ∀ xs ys : List D, xs.all (flat n) = true → ys.all (flat n) = true → PyData.eqvAll (xs.map (pyd n)) (ys.map (pyd n)) = (xs.length == ys.length && (xs.zip ys).all fun p => eqd n p.1 p.2) := by
      intro xs
      induction xs with
      | nil => intro ys _ _; cases ys <;> simp [PyData.eqvAll]
      | cons x xs ihx =>
        intro ys h1 h2
        cases ys with
        | nil => simp [PyData.eqvAll]
        | cons y ys =>
          rw [List.all_cons, Bool.and_eq_true] at h1 h2
          simp only [List.map_cons, PyData.eqvAll, ih x y h1.1 h2.1, ihx ys h1.2 h2.2, List.length_cons, List.zip_cons_cons, List.all_cons]
          cases eqd n x y <;> cases hl : (xs.length == ys.length) <;> simp_all
    intro a b ha hb
    cases a <;> (try (simp [flat] at ha; done)) <;> cases b <;> (try (simp [flat] at hb; done)) <;> simp only [pyd, PyData.eqv, eqd, str_beq] <;> first | rfl | exact (Bool.beq_eq_decide_eq _ _) | exact rows _ _ ha hb
end MP

set_option autoImplicit false
set_option linter.all false
set_option maxRecDepth 100000
/-! Mp4: comparisons and truth, as the model's. -/
namespace MP
open PySem PySem.Spec PyProof.Rows L2
section
variable {K : PySem.W.Frag} {Z : Ad} {B : List Nat} {W : XK} {H : Hp} {ρ : Rho} {st : Store} {Q : VK} {X : Cx}
/-- a comparison's reading -/
def rCmp (K : PySem.W.Frag) (Z : Ad) (B : List Nat) (f : D → D → Store → Option Bool) : R2 := fun x y H Q => ∃ st ρ d e, Sim K Z B st H ρ ∧ RD K Z H ρ d x ∧ RD K Z H ρ e y ∧ ∃ b, f d e st = some b ∧ Q (.bl b) H
def copOf : COp → CmpOp
  | .eq => .Eq
  | .ne => .NotEq
  | .lt => .Lt
  | .le => .LtE
  | .gt => .Gt
  | .ge => .GtE
  | .isin => .In
  | .notin => .NotIn
theorem fin_b {pins : List (Addr × Obj)} {σ : L2.St} {s : Shared} {b : Bool} {t : Nat} (I : Inv X pins σ H s) (q : Q (.bl b) H) : EP X pins σ Q (.bool b) s := ⟨.bl b, H, I, rfl, q⟩
theorem op_eqq (hK : X.K = K) (hu : X.A.units + 64 < cLine) : OpR X (compareOp .Eq) (rCmp K Z B (cmpop .eq)) := by
  intro pins s σ H x y v u Q I rx ry h
  obtain ⟨st, ρ, d, e, S, hd, he, b, hb, q⟩ := h
  have h2 : (match deref st DEEP d, deref st DEEP e with
    | some a, some b => some (eqd DEEP a b)
    | _, _ => none) = some b := hb
  split at h2
  · rename_i a c e1 e2
    cases h2
    subst hK
    obtain ⟨a1, a2⟩ := deref_shaped S e1 hd
    obtain ⟨b1, b2⟩ := deref_shaped S e2 he
    refine op_eqD hu pins s σ H x y v u Q I rx ry ⟨_, _, a1, b1, a2, b2, ?_⟩
    rw [eqd_eqv DEEP _ _ (deref_flat _ _ _ e1) (deref_flat _ _ _ e2)]
    exact q
  · cases h2
theorem op_neq (hK : X.K = K) (hu : X.A.units + 64 < cLine) : OpR X (compareOp .NotEq) (rCmp K Z B (cmpop .ne)) := by
  intro pins s σ H x y v u Q I rx ry h
  obtain ⟨st, ρ, d, e, S, hd, he, b, hb, q⟩ := h
  have h2 : (match deref st DEEP d, deref st DEEP e with
    | some a, some b => some (!eqd DEEP a b)
    | _, _ => none) = some b := hb
  split at h2
  · rename_i a c e1 e2
    cases h2
    subst hK
    obtain ⟨a1, a2⟩ := deref_shaped S e1 hd
    obtain ⟨b1, b2⟩ := deref_shaped S e2 he
    refine op_neD hu pins s σ H x y v u Q I rx ry ⟨_, _, a1, b1, a2, b2, ?_⟩
    rw [eqd_eqv DEEP _ _ (deref_flat _ _ _ e1) (deref_flat _ _ _ e2)]
    exact q
  · cases h2
theorem lexlt_eq : ∀ xs ys : List Int, lexlt xs ys = HT.lexLt xs ys
  | [], [] => rfl
  | [], _ :: _ => rfl
  | _ :: _, [] => rfl
  | x :: xs, y :: ys => by
    show (if x = y then lexlt xs ys else decide (x < y)) = (if x = y then HT.lexLt xs ys else decide (x < y))
    rw [lexlt_eq xs ys]
theorem op_ltt (hK : X.K = K) (hu : X.A.units < cLine) : OpR X (compareOp .Lt) (rCmp K Z B (cmpop .lt)) := by
  intro pins s σ H x y v u Q I rx ry h
  obtain ⟨st, ρ, d, e, S, hd, he, b, hb, q⟩ := h
  cases d with
  | int i =>
    cases e with
    | int j =>
      cases hb
      cases hd; cases he
      exact op_lt pins s σ H _ _ v u Q I rx ry ⟨i, j, rfl, rfl, q⟩
    | _ => cases hb
  | tup a =>
    cases e with
    | tup c =>
      have h2 : (match intsOf a, intsOf c with
        | some ns, some ms => some (lexlt ns ms)
        | _, _ => none) = some b := hb
      split at h2
      · rename_i ns ms e1 e2
        cases h2
        cases hd with
        | tup t1 r1 =>
        cases he with
        | tup t2 r2 =>
        subst hK
        have g1 := ints_rd r1 e1
        have g2 := ints_rd r2 e2
        subst g1 g2
        refine op_ltT hu pins s σ H _ _ v u Q I rx ry ⟨_, _, ns, ms, rfl, rfl, t1.sq, t2.sq, ?_⟩
        rw [← lexlt_eq]
        exact q
      · cases h2
    | _ => cases hb
  | _ => cases hb
theorem op_lee : OpR X (compareOp .LtE) (rCmp K Z B (cmpop .le)) := by
  intro pins s σ H x y v u Q I rx ry h
  obtain ⟨st, ρ, d, e, S, hd, he, b, hb, q⟩ := h
  cases d with
  | int i =>
    cases e with
    | int j =>
      cases hb
      cases hd; cases he
      exact op_le pins s σ H _ _ v u Q I rx ry ⟨i, j, rfl, rfl, q⟩
    | _ => cases hb
  | _ => cases hb
theorem op_gtt : OpR X (compareOp .Gt) (rCmp K Z B (cmpop .gt)) := by
  intro pins s σ H x y v u Q I rx ry h
  obtain ⟨st, ρ, d, e, S, hd, he, b, hb, q⟩ := h
  cases d with
  | int i =>
    cases e with
    | int j =>
      cases hb
      cases hd; cases he
      exact op_gt pins s σ H _ _ v u Q I rx ry ⟨i, j, rfl, rfl, q⟩
    | _ => cases hb
  | _ => cases hb
theorem op_gee : OpR X (compareOp .GtE) (rCmp K Z B (cmpop .ge)) := by
  intro pins s σ H x y v u Q I rx ry h
  obtain ⟨st, ρ, d, e, S, hd, he, b, hb, q⟩ := h
  cases d with
  | int i =>
    cases e with
    | int j =>
      cases hb
      cases hd; cases he
      exact op_ge pins s σ H _ _ v u Q I rx ry ⟨i, j, rfl, rfl, q⟩
    | _ => cases hb
  | _ => cases hb
/-- a sequence's items, followed -/
theorem items_dp (S : Sim K Z B st H ρ) {e : D} {y : V} {ys ds : List D} (he : RD K Z H ρ e y) (e1 : seqOf st e = some ys) (e2 : mapO (deref st DEEP) ys = some ds) :
    (Dp K H y (.list (ds.map (pyd DEEP))) ∨ Dp K H y (.tuple (ds.map (pyd DEEP)))) ∧ PyData.canLayAll0 (ds.map (pyd DEEP)) = true := by
  have rows : ∀ (xs ys : List D) (vs : List V), mapO (deref st DEEP) xs = some ys → RDs K Z H ρ xs vs → DpAll K H vs (ys.map (pyd DEEP)) ∧ PyData.canLayAll0 (ys.map (pyd DEEP)) = true := by
    intro xs
    induction xs with
    | nil => intro ys vs h r; cases h; cases r; exact ⟨.nil, rfl⟩
    | cons x xs ihx =>
      intro ys vs h r
      obtain ⟨y, zs, rfl, h1, h2⟩ := mapO_cons h
      cases r with
      | cons rh rr =>
        obtain ⟨a1, a2, a3⟩ := deref_dp S DEEP x y _ h1 rh
        obtain ⟨b1, b2⟩ := ihx zs _ h2 rr
        exact ⟨.cons a1 b1, by simp only [List.map_cons, PyData.canLayAll0, a2, b2, Bool.and_self]⟩
  obtain ⟨a, vs, rfl, hs, r⟩ := seqOf_rd S he e1
  obtain ⟨h1, h2⟩ := rows ys ds vs e2 r
  refine ⟨?_, h2⟩
  rcases hs with hs | hs
  · exact .inl (.lst hs h1)
  · exact .inr (.tup hs h1)
theorem any_eqd {ds : List D} {d : D} (h : ds.all (flat DEEP) = true) (hd : flat DEEP d = true) : ((ds.map (pyd DEEP)).any fun z => PyData.eqv z (pyd DEEP d)) = ds.any fun z => eqd DEEP z d := by
  induction ds with
  | nil => rfl
  | cons x xs ih =>
    rw [List.all_cons, Bool.and_eq_true] at h
    simp only [List.map_cons, List.any_cons, ih h.2, eqd_eqv DEEP x d h.1 hd]
theorem isIn_seq (hK : X.K = K) (hu : X.A.units + 65 < cLine) {pins : List (Addr × Obj)} {σ : L2.St} {s : Shared} {d e : D} {x y : V} {v u : Value} {b : Bool} (I : Inv X pins σ H s) (rx : RelV x v) (ry : RelV y u) (S : Sim K Z B st H ρ) (hd : RD K Z H ρ d x) (he : RD K Z H ρ e y)
    (hb : (match deref st DEEP d, seqOf st e with
      | some d, some ys => (match mapO (deref st DEEP) ys with
        | some ds => some (ds.any fun z => eqd DEEP z d)
        | none => none)
      | _, _ => none) = some b) (neg : Bool) (q : Q (.bl (if neg then !b else b)) H) : wpAny (model X.prog X.w) X.A (compareOp (if neg then .NotIn else .In) v u) (EP X pins σ Q) X.xe s := by
  split at hb
  · rename_i d' ys e1 e2
    split at hb
    · rename_i ds e3
      cases hb
      subst hK
      obtain ⟨a1, a2⟩ := deref_shaped S e1 hd
      obtain ⟨b1, b2⟩ := items_dp S he e2 e3
      obtain ⟨as, r1⟩ := Dp.reads I _ x v a1 rx
      have hf := mapO_flat (deref_flat (st := st) DEEP) e3
      have hn := any_eqd hf (deref_flat _ _ _ e1)
      have room := room_in_shaped (xs := ds.map (pyd DEEP)) a2 hu
      rcases b1 with b1 | b1
      · obtain ⟨bs, r2⟩ := Dp.reads I _ y u b1 ry
        cases neg with
        | false => exact SeqAt.in_list_reads r2 r1 b2 (SeqAt.canLay_of_shaped a2) room (by rw [hn]; exact ⟨.bl _, H, I, rfl, q⟩)
        | true => exact SeqAt.notIn_list_reads r2 r1 b2 (SeqAt.canLay_of_shaped a2) room (by rw [hn]; exact ⟨.bl _, H, I, rfl, q⟩)
      · obtain ⟨bs, r2⟩ := Dp.reads I _ y u b1 ry
        cases neg with
        | false => exact SeqAt.in_tuple_reads r2 r1 b2 (SeqAt.canLay_of_shaped a2) room (by rw [hn]; exact ⟨.bl _, H, I, rfl, q⟩)
        | true => exact SeqAt.notIn_tuple_reads r2 r1 b2 (SeqAt.canLay_of_shaped a2) room (by rw [hn]; exact ⟨.bl _, H, I, rfl, q⟩)
    · cases hb
  · cases hb
/-! ### dicts -/
theorem keyI_of {i : Int} : keyD (.int i) = some [.inl i] := rfl
theorem eqd_key {a b : D} {k l : Key} (h : kyK a k) (h' : kyK b l) : eqd DEEP a b = decide (k = l) := by
  unfold kyK keyD at h h'
  cases a <;> simp at h <;> cases b <;> simp at h' <;> subst h <;> subst h' <;> simp [eqd]
theorem keys_eq : ∀ {xs ys : List D} {ks ls : List Key}, mapO (fun d => match d with
    | .int i => some (Sum.inl i : Key)
    | .str x => some (Sum.inr ⟨x.toArray⟩)
    | _ => none) xs = some ks → mapO (fun d => match d with
    | .int i => some (Sum.inl i : Key)
    | .str x => some (Sum.inr ⟨x.toArray⟩)
    | _ => none) ys = some ls → (xs.length == ys.length && (xs.zip ys).all fun p => eqd 7 p.1 p.2) = decide (ks = ls)
  | [], [], _, _, h, h' => by cases h; cases h'; rfl
  | [], y :: ys, _, _, h, h' => by
    obtain ⟨b, bs, rfl, _, _⟩ := mapO_cons h'
    cases h; rfl
  | x :: xs, [], _, _, h, h' => by
    obtain ⟨b, bs, rfl, _, _⟩ := mapO_cons h
    cases h'; rfl
  | x :: xs, y :: ys, _, _, h, h' => by
    obtain ⟨a, as, rfl, h1, h2⟩ := mapO_cons h
    obtain ⟨b, bs, rfl, h3, h4⟩ := mapO_cons h'
    have ih := keys_eq h2 h4
    have e : eqd 7 x y = decide (a = b) := by
      cases x <;> simp at h1 <;> cases y <;> simp at h3 <;> subst h1 <;> subst h3 <;> simp [eqd]
    simp only [List.length_cons, List.zip_cons_cons, List.all_cons, e]
    by_cases hab : a = b
    · subst hab
      simp only [decide_true, Bool.true_and, List.cons.injEq, true_and]
      rw [← ih]
      cases hl : (xs.length == ys.length) <;> simp_all
    · rw [decide_eq_false hab, decide_eq_false (by simp [hab])]
      simp
theorem eqd_keyT {a b : D} {k l : List Key} (h : kyT a k) (h' : kyT b l) : eqd DEEP a b = decide (k = l) := by
  unfold kyT keyT at h h'
  cases a <;> simp at h <;> cases b <;> simp at h'
  exact keys_eq h h'
theorem KR.find {κ : Type} [DecidableEq κ] {ky : D → κ → Prop} (hq : ∀ a b k l, ky a k → ky b l → eqd DEEP a b = decide (k = l)) {key : D} {k : κ} (hk : ky key k) : ∀ {l : List (D × D)} {m : List (κ × V)}, KR K Z H ρ ky l m →
    (dfind key l = none ∧ valV m k = none) ∨ ∃ v w, dfind key l = some v ∧ valV m k = some w ∧ RD K Z H ρ v w
  | _, _, .nil => .inl ⟨rfl, rfl⟩
  | _, _, .cons (d := d) (e := e) (k := k') (l := l) ha h r => by
    have e1 := hq d key k' k ha hk
    by_cases hkk : k' = k
    · subst hkk
      rw [decide_eq_true rfl] at e1
      refine .inr ⟨e, _, ?_, valV_pos rfl, h⟩
      show (if eqd DEEP d key then some e else dfind key l) = _
      rw [if_pos e1]
    · rw [decide_eq_false hkk] at e1
      have e2 : dfind key ((d, e) :: l) = dfind key l := by
        show (if eqd DEEP d key then some e else dfind key l) = _
        rw [if_neg (by rw [e1]; decide)]
      rw [e2, valV_neg (p := (k', _)) hkk]
      exact KR.find hq hk r
theorem KR.put {κ : Type} [DecidableEq κ] {ky : D → κ → Prop} (hq : ∀ a b k l, ky a k → ky b l → eqd DEEP a b = decide (k = l)) {key e : D} {k : κ} {w : V} (hk : ky key k) (he : RD K Z H ρ e w) {l : List (D × D)} {m : List (κ × V)} (r : KR K Z H ρ ky l m) :
    KR K Z H ρ ky (dput key e l) (putK m k w) := by
  have snoc : ∀ {l : List (D × D)} {m : List (κ × V)}, KR K Z H ρ ky l m → KR K Z H ρ ky (l ++ [(key, e)]) (m ++ [(k, w)]) := by
    intro l m r
    induction r with
    | nil => exact .cons hk he .nil
    | cons h1 h2 _ ih => exact .cons h1 h2 ih
  have repl : ∀ {l : List (D × D)} {m : List (κ × V)}, KR K Z H ρ ky l m → KR K Z H ρ ky (l.map fun p => if eqd DEEP p.1 key then (p.1, e) else p) (m.map fun kv => if kv.1 = k then (kv.1, w) else kv) := by
    intro l m r
    induction r with
    | nil => exact .nil
    | cons h1 h2 _ ih =>
      rename_i d0 e0 k0 v0 l0 m0 _
      simp only [List.map_cons, hq _ _ _ _ h1 hk]
      by_cases z : k0 = k
      · rw [if_pos (decide_eq_true z), if_pos z]
        exact .cons h1 he ih
      · rw [if_neg (by simp [z]), if_neg z]
        exact .cons h1 h2 ih
  unfold dput putK
  rw [valV_any]
  rcases r.find hq hk with ⟨h1, h2⟩ | ⟨v, u, h1, h2, _⟩
  · rw [h1, h2]
    exact snoc r
  · rw [h1, h2]
    exact repl r
theorem KR.drop {κ : Type} [DecidableEq κ] {ky : D → κ → Prop} (hq : ∀ a b k l, ky a k → ky b l → eqd DEEP a b = decide (k = l)) {key : D} {k : κ} (hk : ky key k) : ∀ {l : List (D × D)} {m : List (κ × V)}, KR K Z H ρ ky l m → KR K Z H ρ ky (ddrop key l) (dropK m k) := by
  intro l m r
  induction r with
  | nil => exact .nil
  | cons h1 h2 _ ih =>
    rename_i d0 e0 k0 v0 l0 m0 _
    unfold ddrop dropK at ih ⊢
    by_cases z : k0 = k
    · rw [List.filter_cons_of_neg (by simp [hq _ _ _ _ h1 hk, z]), List.filter_cons_of_neg (by simp [z])]
      exact ih
    · rw [List.filter_cons_of_pos (by simp [hq _ _ _ _ h1 hk, z]), List.filter_cons_of_pos (by simp [z])]
      exact .cons h1 h2 ih
/-- a key -/
theorem key_k {d : D} {y : V} (r : RD K Z H ρ d y) (h : isKey false d = true) : ∃ k, kyK d k ∧ y = kV k := by
  cases d with
  | int i => cases r; exact ⟨.inl i, rfl, rfl⟩
  | str x => cases r; exact ⟨.inr ⟨x.toArray⟩, rfl, rfl⟩
  | _ => simp [isKey] at h
theorem key_items : ∀ {xs : List D} {vs : List V}, RDs K Z H ρ xs vs → xs.all keyPart = true → ∃ ks : List Key, mapO (fun d => match d with
    | .int i => some (Sum.inl i : Key)
    | .str x => some (Sum.inr ⟨x.toArray⟩)
    | _ => none) xs = some ks ∧ vs = ks.map kV
  | [], _, .nil, _ => ⟨[], rfl, rfl⟩
  | x :: xs, _, .cons h r, ha => by
    rw [List.all_cons, Bool.and_eq_true] at ha
    obtain ⟨ks, h1, h2⟩ := key_items r ha.2
    cases x with
    | int i => cases h; exact ⟨.inl i :: ks, by simp [mapO, h1], by rw [h2]; rfl⟩
    | str z => cases h; exact ⟨.inr ⟨z.toArray⟩ :: ks, by simp [mapO, h1], by rw [h2]; rfl⟩
    | _ => simp [keyPart] at ha
theorem key_t {d : D} {y : V} (r : RD K Z H ρ d y) (h : isKey true d = true) : ∃ k b, kyT d k ∧ y = .ref b ∧ H b = some (.tup (k.map kV)) := by
  cases d with
  | tup xs =>
    cases r with
    | tup t r =>
      obtain ⟨ks, h1, h2⟩ := key_items r (by simpa [isKey] using h)
      subst h2
      exact ⟨ks, _, h1, rfl, t.1⟩
  | _ => simp [isKey] at h
theorem dctOf_some {d : D} {t : Bool} {kvs : List (D × D)} (h : dctOf st d = some (t, kvs)) : ∃ k, d = .loc k ∧ sget st k = some (.dct t kvs) := by
  cases d with
  | loc k =>
    refine ⟨k, rfl, ?_⟩
    have h2 : (match sget st k with
      | some (.dct t kvs) => some (t, kvs)
      | _ => none) = some (t, kvs) := h
    split at h2
    · rename_i hk; cases h2; exact hk
    · cases h2
  | _ => cases h
/-- a dict of the store at its address -/
theorem dct_at (S : Sim K Z B st H ρ) {d : D} {v : V} {t : Bool} {kvs : List (D × D)} (r : RD K Z H ρ d v) (h : dctOf st d = some (t, kvs)) : ∃ k a, d = .loc k ∧ v = .ref a ∧ sget st k = some (.dct t kvs) ∧ sget ρ k = some (some a) ∧
    ((t = false ∧ ∃ m, H a = some (.dK m) ∧ KVr K Z H ρ kvs m) ∨ (t = true ∧ ∃ m, H a = some (.dT m) ∧ KTr K Z H ρ kvs m)) := by
  obtain ⟨k, rfl, hk⟩ := dctOf_some h
  obtain ⟨a, h1, h2⟩ := S.at hk (by intro z; cases z)
  refine ⟨k, a, rfl, r.loc_ref h1, hk, h1, ?_⟩
  cases h2 with
  | dK h3 h4 => exact .inl ⟨rfl, _, h3, h4⟩
  | dT h3 h4 => exact .inr ⟨rfl, _, h3, h4⟩
/-- what a dict holds at a key -/
theorem dct_get (S : Sim K Z B st H ρ) {d key : D} {v y : V} {t : Bool} {kvs : List (D × D)} (r : RD K Z H ρ d v) (h : dctOf st d = some (t, kvs)) (rk : RD K Z H ρ key y) (hk : isKey t key = true) : ∃ a o, v = .ref a ∧ DGet H a y o ∧
    ((dfind key kvs = none ∧ o = none) ∨ ∃ e w, dfind key kvs = some e ∧ o = some w ∧ RD K Z H ρ e w) := by
  obtain ⟨k, a, rfl, rfl, _, _, hh⟩ := dct_at S r h
  rcases hh with ⟨rfl, m, h1, h2⟩ | ⟨rfl, m, h1, h2⟩
  · obtain ⟨k, hk, rfl⟩ := key_k rk hk
    exact ⟨a, _, rfl, DGet.k h1, h2.find (fun _ _ _ _ => eqd_key) hk⟩
  · obtain ⟨k, b, hk, rfl, hb⟩ := key_t rk hk
    exact ⟨a, _, rfl, DGet.t h1 hb, h2.find (fun _ _ _ _ => eqd_keyT) hk⟩
theorem isIn_loc (hK : X.K = K) (hu : X.A.units + 65 < cLine) {pins : List (Addr × Obj)} {σ : L2.St} {s : Shared} {d e : D} {x y : V} {v u : Value} {b : Bool} (I : Inv X pins σ H s) (rx : RelV x v) (ry : RelV y u) (S : Sim K Z B st H ρ) (hd : RD K Z H ρ d x) (he : RD K Z H ρ e y)
    (hb : (match dctOf st e with
      | some (t, kvs) => if isKey t d then some (dfind d kvs).isSome else none
      | none => (match deref st DEEP d, seqOf st e with
        | some d, some ys => (match mapO (deref st DEEP) ys with
          | some ds => some (ds.any fun z => eqd DEEP z d)
          | none => none)
        | _, _ => none)) = some b) (neg : Bool) (q : Q (.bl (if neg then !b else b)) H) : wpAny (model X.prog X.w) X.A (compareOp (if neg then .NotIn else .In) v u) (EP X pins σ Q) X.xe s := by
  cases hc : dctOf st e with
  | none => rw [hc] at hb; exact isIn_seq hK hu I rx ry S hd he hb neg q
  | some p =>
    obtain ⟨t, kvs⟩ := p
    rw [hc] at hb
    simp only at hb
    by_cases hk : isKey t d = true
    · rw [if_pos hk] at hb
      cases hb
      obtain ⟨a, o, rfl, g, ho⟩ := dct_get S he hc hd hk
      obtain rfl : u = Value.ref a := ry
      have eo : o.isSome = (dfind d kvs).isSome := by
        rcases ho with ⟨h1, h2⟩ | ⟨_, _, h1, h2, _⟩ <;> (rw [h1, h2]; rfl)
      cases neg with
      | false => exact d_in (by omega) I g rx fun s' I' => ⟨.bl _, H, I', rfl, by rw [eo]; exact q⟩
      | true => exact d_notIn (by omega) I g rx fun s' I' => ⟨.bl _, H, I', rfl, by rw [eo]; exact q⟩
    · rw [if_neg hk] at hb; cases hb
theorem op_inn (hK : X.K = K) (hu : X.A.units + 65 < cLine) (neg : Bool) : OpR X (compareOp (if neg then .NotIn else .In)) (rCmp K Z B (cmpop (if neg then .notin else .isin))) := by
  intro pins s σ H x y v u Q I rx ry h
  obtain ⟨st, ρ, d, e, S, hd, he, b, hb, q⟩ := h
  have key : ∃ c, isIn st d e = some c ∧ b = (if neg then !c else c) := by
    cases neg with
    | false => exact ⟨b, hb, rfl⟩
    | true =>
      have h2 : (isIn st d e).map (!·) = some b := hb
      cases hc : isIn st d e with
      | none => rw [hc] at h2; cases h2
      | some c => rw [hc] at h2; cases h2; exact ⟨c, rfl, rfl⟩
  obtain ⟨c, hc, rfl⟩ := key
  cases e with
  | str t =>
    cases d with
    | str a =>
      have h2 : (match (D.str a) with
        | .str [c] => some (decide (c ∈ t))
        | _ => none) = some c := hc
      split at h2
      · rename_i z ez
        cases ez
        cases h2
        cases hd; cases he
        cases neg with
        | false => exact op_in_sign pins s σ H _ _ v u Q I rx ry ⟨z, _, rfl, rfl, q⟩
        | true => exact op_notIn_sign pins s σ H _ _ v u Q I rx ry ⟨z, _, rfl, rfl, q⟩
      · cases h2
    | _ => cases hc
  | tup t => exact isIn_seq hK hu I rx ry S hd he hc neg q
  | lst t => exact isIn_seq hK hu I rx ry S hd he hc neg q
  | loc t => exact isIn_loc hK hu I rx ry S hd he hc neg q
  | con t => exact isIn_seq hK hu I rx ry S hd he hc neg q
  | kl t => exact isIn_seq hK hu I rx ry S hd he hc neg q
  | non => exact isIn_seq hK hu I rx ry S hd he hc neg q
  | bl t => exact isIn_seq hK hu I rx ry S hd he hc neg q
  | int t => exact isIn_seq hK hu I rx ry S hd he hc neg q
  | obj _ t => exact isIn_seq hK hu I rx ry S hd he hc neg q
  | exc _ _ t => exact isIn_seq hK hu I rx ry S hd he hc neg q
  | fn t => exact isIn_seq hK hu I rx ry S hd he hc neg q
  | cls t => exact isIn_seq hK hu I rx ry S hd he hc neg q
  | ty t => exact isIn_seq hK hu I rx ry S hd he hc neg q
theorem op_cmpD (hK : X.K = K) (hu : X.A.units + 65 < cLine) (o : COp) : OpR X (compareOp (copOf o)) (rCmp K Z B (cmpop o)) := by
  cases o
  · exact op_eqq hK (by omega)
  · exact op_neq hK (by omega)
  · exact op_ltt hK (by omega)
  · exact op_lee
  · exact op_gtt
  · exact op_gee
  · exact op_inn hK hu false
  · exact op_inn hK hu true
/-- truth -/
theorem truth_rd (S : Sim K Z B st H ρ) {d : D} {v : V} {b : Bool} (r : RD K Z H ρ d v) (h : truth st d = some b) : TruV K v H b := by
  cases d with
  | non => cases h; cases r; exact rfl
  | bl x => cases h; cases r; exact rfl
  | int i => cases h; cases r; exact rfl
  | str x =>
    have h2 : (if x.length ≤ LINE then some (x.length != 0) else none) = some b := h
    split at h2
    · cases h2
      cases r
      have := line_le
      refine ⟨by simp only [Str.length, List.size_toArray]; omega, ?_⟩
      simp only [Str.length, List.size_toArray]
      cases x with
      | nil => rfl
      | cons c x =>
        simp only [List.length_cons]
        rw [bne_iff_ne.mpr (by omega), bne_iff_ne.mpr (by omega)]
    · cases h2
  | tup xs =>
    cases h
    cases r with
    | tup t r =>
      refine .inr (.inl ⟨_, t.sq, ?_⟩)
      cases r <;> rfl
  | con xs =>
    cases h
    cases r with
    | con t r =>
      refine .inr (.inl ⟨_, t.sq, ?_⟩)
      cases r <;> rfl
  | lst xs =>
    cases h
    cases r with
    | lst t r =>
      refine .inl ⟨_, t.sq, ?_⟩
      cases r <;> rfl
  | loc k =>
    have h2 : (match sget st k with
      | some (.lst xs) => some (!xs.isEmpty)
      | _ => none) = some b := h
    split at h2
    · rename_i xs hk
      cases h2
      obtain ⟨a, vs, rfl, h3, h4, h5⟩ := loc_lst S r hk
      refine .inl ⟨_, SqL.of h4, ?_⟩
      cases h5 <;> rfl
    · cases h2
  | _ => cases h
end
end MP

set_option autoImplicit false
set_option linter.all false
set_option maxRecDepth 100000
/-! Mp5: built-in functions. -/
namespace MP
open PySem PySem.Spec PyProof.Rows L2

/-! ### texts that are shown have good signs -/
theorem okS_ofString (s : String) : okS (Str.ofString s).cps.toList := by
  intro c hc
  rw [signs_ofString] at hc
  obtain ⟨ch, _, rfl⟩ := List.mem_map.mp hc
  have h := ch.valid
  show ch.val.toNat < 1114112
  simp only [UInt32.isValidChar, Nat.isValidChar] at h
  omega
theorem okS_append {x y : Str} (h1 : okS x.cps.toList) (h2 : okS y.cps.toList) : okS (x ++ y).cps.toList := by
  intro c hc
  have e : (x ++ y).cps.toList = x.cps.toList ++ y.cps.toList := by
    show (x.cps ++ y.cps).toList = _
    simp
  rw [e] at hc
  rcases List.mem_append.mp hc with h | h
  · exact h1 c h
  · exact h2 c h
theorem okS_join {s : Str} (hs : okS s.cps.toList) : ∀ {l : List Str}, (∀ x ∈ l, okS x.cps.toList) → okS (Str.join s l).cps.toList
  | [], _ => fun c hc => by simp [Str.join, Str.empty] at hc
  | [x], h => h x List.mem_cons_self
  | x :: y :: r, h => okS_append (okS_append (h x List.mem_cons_self) hs) (okS_join (l := y :: r) hs fun z hz => h z (List.mem_cons_of_mem _ hz))
theorem digits_small (b n : Nat) : ∀ c ∈ (Nat.toDigits b n).map Char.toNat, c < 1114112 := by
  intro c hc
  obtain ⟨ch, _, rfl⟩ := List.mem_map.mp hc
  have h := ch.valid
  show ch.val.toNat < 1114112
  simp only [UInt32.isValidChar, Nat.isValidChar] at h
  omega
theorem reprChar_ok (q c : Nat) (hc : c < 1114112) : ∀ x ∈ Builtin.Str.reprChar q c, x < 1114112 := by
  intro x hx
  have hex : ∀ width, ∀ x ∈ List.replicate (width - ((Nat.toDigits 16 c).map Char.toNat).length) 48 ++ (Nat.toDigits 16 c).map Char.toNat, x < 1114112 := fun width x hx => by
    rcases List.mem_append.mp hx with h | h
    · rw [List.eq_of_mem_replicate h]; omega
    · exact digits_small 16 c x h
  unfold Builtin.Str.reprChar at hx
  simp only at hx
  split at hx
  · simp at hx; omega
  split at hx
  · simp at hx; omega
  split at hx
  · simp at hx; omega
  split at hx
  · simp at hx; omega
  split at hx
  · simp at hx; omega
  split at hx
  · rcases List.mem_append.mp hx with h | h
    · simp at h; omega
    · exact hex 2 x h
  split at hx
  · rcases List.mem_append.mp hx with h | h
    · simp at h; omega
    · exact hex 4 x h
  · rcases List.mem_append.mp hx with h | h
    · simp at h; omega
    · exact hex 8 x h
theorem fold_ok (q : Nat) : ∀ (l : List Nat) (acc : Array Nat), (∀ c ∈ l, c < 1114112) → (∀ c ∈ acc.toList, c < 1114112) → ∀ c ∈ (l.foldl (fun out c => out ++ (Builtin.Str.reprChar q c).toArray) acc).toList, c < 1114112
  | [], acc, _, ha => ha
  | x :: r, acc, hl, ha => by
    rw [List.foldl_cons]
    refine fold_ok q r _ (fun c hc => hl c (List.mem_cons_of_mem _ hc)) fun c hc => ?_
    rw [Array.toList_append] at hc
    rcases List.mem_append.mp hc with h | h
    · exact ha c h
    · exact reprChar_ok q x (hl x List.mem_cons_self) c (by simpa using h)
theorem repr_ok {x : Str} (h : okS x.cps.toList) : okS (reprText x).cps.toList := by
  intro c hc
  have hq : reprQuote x < 1114112 := by unfold reprQuote; split <;> omega
  unfold reprText at hc
  rw [Array.toList_push, ← Array.foldl_toList] at hc
  rcases List.mem_append.mp hc with h1 | h1
  · exact fold_ok (reprQuote x) _ _ h (fun c hc => by simp at hc; omega) c h1
  · simp at h1; omega
mutual
theorem shown_ok : ∀ d : PyData, d.canLay0 = true → okS d.shown.cps.toList
  | .none, _ => by rw [PyData.shown_none]; exact okS_ofString _
  | .bool b, _ => by
    rw [PyData.shown_bool]
    cases b <;> exact okS_ofString _
  | .int i, _ => by rw [PyData.shown_int]; exact okS_ofString _
  | .str x, h => by
    rw [PyData.shown_str]
    refine repr_ok fun c hc => ?_
    simp only [PyData.canLay0, PyData.strOk, Array.all_eq_true_iff_forall_mem] at h
    exact of_decide_eq_true (h c (by simpa using hc))
  | .list xs, h => by
    rw [PyData.shown_list]
    refine okS_append (okS_append (okS_ofString _) (okS_join (okS_ofString _) (shownAll_ok xs (by simpa [PyData.canLay0] using h)))) (okS_ofString _)
  | .tuple xs, h => by
    rw [PyData.shown_tuple]
    refine okS_append (okS_append (okS_ofString _) (okS_join (okS_ofString _) (shownAll_ok xs (by simpa [PyData.canLay0] using h)))) (okS_ofString _)
  | .dict _, h => by simp [PyData.canLay0] at h
theorem shownAll_ok : ∀ ds : List PyData, PyData.canLayAll0 ds = true → ∀ x ∈ PyData.shownAll ds, okS x.cps.toList
  | [], _, x, hx => by rw [PyData.shownAll_nil] at hx; cases hx
  | d :: ds, h, x, hx => by
    rw [PyData.shownAll_cons] at hx
    have h' : d.canLay0 = true ∧ PyData.canLayAll0 ds = true := by simpa [PyData.canLayAll0] using h
    rcases List.mem_cons.mp hx with e | hx
    · rw [e]; exact shown_ok d h'.1
    · exact shownAll_ok ds h'.2 x hx
end

section
variable {K : PySem.W.Frag} {Z : Ad} {B : List Nat} {W : XK} {H : Hp} {ρ : Rho} {st : Store} {Q : VK} {X : Cx}
/-- a built-in's call of data -/
def rFn (K : PySem.W.Frag) (Z : Ad) (B : List Nat) (W : XK) (f : List D → Store → Res D) : List V → Hp → VK → Prop := fun xs H Q => ∃ st ρ ds, Sim K Z B st H ρ ∧ RDs K Z H ρ ds xs ∧ Fin K Z B W H ρ (f ds st) Q
theorem one_of {ds : List D} {vs : List V} (r : RDs K Z H ρ ds vs) {d : D} (e : ds = [d]) : ∃ v, vs = [v] ∧ RD K Z H ρ d v := by
  subst e
  cases r with
  | cons h r => cases r; exact ⟨_, rfl, h⟩
theorem two_of {ds : List D} {vs : List V} (r : RDs K Z H ρ ds vs) {d e : D} (eq : ds = [d, e]) : ∃ v w, vs = [v, w] ∧ RD K Z H ρ d v ∧ RD K Z H ρ e w := by
  subst eq
  cases r with
  | cons h r =>
    cases r with
    | cons h2 r => cases r; exact ⟨_, _, rfl, h, h2⟩
theorem fin_if {c : Prop} [Decidable c] {r : Res D} (h : Fin K Z B W H ρ (if c then r else .bad) Q) : c ∧ Fin K Z B W H ρ r Q := by
  by_cases e : c
  · rw [if_pos e] at h; exact ⟨e, h⟩
  · rw [if_neg e] at h; exact h.elim
theorem intTextS (i : Int) : (Str.ofString (toString i)) = (⟨(intText i).toArray⟩ : Str) := by
  refine TL.ext_tl ?_
  show TL.tl (Str.ofString (toString i)) = intText i
  unfold intText
  by_cases h : i < 0
  · rw [if_pos h]
    obtain ⟨n, rfl⟩ : ∃ n : Nat, i = -((n : Nat) : Int) := ⟨i.natAbs, by omega⟩
    have hn : n ≠ 0 := by omega
    obtain ⟨m, rfl⟩ : ∃ m, n = m + 1 := ⟨n - 1, by omega⟩
    have e1 : toString (-((m + 1 : Nat) : Int)) = "-" ++ toString (((m + 1 : Nat)) : Int) := rfl
    rw [e1, TL.tl_ofString, String.toList_append, List.map_append]
    have e2 : (toString ((m + 1 : Nat) : Int)).toList.map Char.toNat = (Nat.toDigits 10 (m + 1)).map Char.toNat := by
      have := TL.tl_num (m + 1)
      rw [TL.tl_ofString] at this
      exact this
    rw [e2]
    have e3 : (-((m + 1 : Nat) : Int)).natAbs = m + 1 := by omega
    rw [e3]
    rfl
  · rw [if_neg h]
    obtain ⟨n, rfl⟩ := Int.eq_ofNat_of_zero_le (show 0 ≤ i by omega)
    exact TL.tl_num n
theorem okS_intText (i : Int) : okS (intText i) := by
  have h := okS_ofString (toString i)
  rw [intTextS i] at h
  exact h
theorem log_small {i : Int} (h : i.natAbs < 10 ^ 100) : i.natAbs.log2 < 1920 := by
  by_cases h0 : i.natAbs = 0
  · rw [h0]; decide
  · refine (Nat.log2_lt h0).mpr (Nat.lt_of_lt_of_le h ?_)
    decide
/-- greatest, least -/
theorem maxL_spec : ∀ (r : List Int) (m : Int), maxL r m ∈ m :: r ∧ ∀ y ∈ m :: r, y ≤ maxL r m
  | [], m => ⟨List.mem_cons_self, fun y hy => by simp at hy; rw [hy]; exact Int.le_refl _⟩
  | x :: r, m => by
    obtain ⟨h1, h2⟩ := maxL_spec r (if m < x then x else m)
    show maxL r (if m < x then x else m) ∈ m :: x :: r ∧ ∀ y ∈ m :: x :: r, y ≤ maxL r (if m < x then x else m)
    have h3 := h2 (if m < x then x else m) List.mem_cons_self
    refine ⟨?_, fun y hy => ?_⟩
    · rcases List.mem_cons.mp h1 with e | e
      · rw [e]; split <;> simp
      · exact List.mem_cons_of_mem _ (List.mem_cons_of_mem _ e)
    · rcases List.mem_cons.mp hy with e | hy
      · subst e; split at h3 <;> split <;> omega
      · rcases List.mem_cons.mp hy with e | hy
        · subst e; split at h3 <;> split <;> omega
        · exact h2 y (List.mem_cons_of_mem _ hy)
theorem minL_spec : ∀ (r : List Int) (m : Int), minL r m ∈ m :: r ∧ ∀ y ∈ m :: r, minL r m ≤ y
  | [], m => ⟨List.mem_cons_self, fun y hy => by simp at hy; rw [hy]; exact Int.le_refl _⟩
  | x :: r, m => by
    obtain ⟨h1, h2⟩ := minL_spec r (if x < m then x else m)
    show minL r (if x < m then x else m) ∈ m :: x :: r ∧ ∀ y ∈ m :: x :: r, minL r (if x < m then x else m) ≤ y
    have h3 := h2 (if x < m then x else m) List.mem_cons_self
    refine ⟨?_, fun y hy => ?_⟩
    · rcases List.mem_cons.mp h1 with e | e
      · rw [e]; split <;> simp
      · exact List.mem_cons_of_mem _ (List.mem_cons_of_mem _ e)
    · rcases List.mem_cons.mp hy with e | hy
      · subst e; split at h3 <;> split <;> omega
      · rcases List.mem_cons.mp hy with e | hy
        · subst e; split at h3 <;> split <;> omega
        · exact h2 y (List.mem_cons_of_mem _ hy)
theorem lst_ints (S : Sim K Z B st H ρ) {d : D} {v : V} {ns : List Int} (r : RD K Z H ρ d v) (e : (lstOf st d).bind intsOf = some ns) : ∃ a, v = .ref a ∧ SqL K H a (ns.map V.int) := by
  cases h : lstOf st d with
  | none => rw [h] at e; cases e
  | some xs =>
    rw [h] at e
    obtain ⟨a, vs, rfl, h1, h2⟩ := lstOf_rd S r h
    rw [ints_rd h2 e] at h1
    exact ⟨a, rfl, .inl h1⟩
theorem lst_bools (S : Sim K Z B st H ρ) {d : D} {v : V} {ns : List Bool} (r : RD K Z H ρ d v) (e : (lstOf st d).bind (mapO asBool) = some ns) : ∃ a, v = .ref a ∧ SqL K H a (ns.map V.bl) := by
  cases h : lstOf st d with
  | none => rw [h] at e; cases e
  | some xs =>
    rw [h] at e
    obtain ⟨a, vs, rfl, h1, h2⟩ := lstOf_rd S r h
    rw [bools_rd h2 e] at h1
    exact ⟨a, rfl, .inl h1⟩

theorem call1 {F : Value} {g : D → Store → Res D} (h : ∀ (pins : List (Addr × Obj)) (s : Shared) (σ : L2.St) (H : Hp) (x : V) (u : Value) (Q : VK) (st : Store) (ρ : Rho) (d : D), Inv X pins σ H s → RelV x u → Sim K Z B st H ρ → RD K Z H ρ d x → Fin K Z B W H ρ (g d st) Q →
    wpAny (model X.prog X.w) X.A (call F [u]) (EP X pins σ Q) X.xe s) : CallR X F (rFn K Z B W fun ds st => match ds with
    | [x] => g x st
    | _ => .bad) := by
  intro pins s σ H xs us Q I r q
  obtain ⟨st, ρ, ds, S, rd, q⟩ := q
  match ds, rd, q with
  | [], _, q => exact q.elim
  | x :: y :: t, _, q => exact q.elim
  | [x], rd, q =>
    obtain ⟨v, rfl, r1⟩ := one_of rd rfl
    obtain ⟨u, rfl, ru⟩ := vals1 r
    exact h pins s σ H v u Q st ρ x I ru S r1 q
theorem call2 {F : Value} {g : D → D → Store → Res D} (h : ∀ (pins : List (Addr × Obj)) (s : Shared) (σ : L2.St) (H : Hp) (x y : V) (u w : Value) (Q : VK) (st : Store) (ρ : Rho) (d e : D), Inv X pins σ H s → RelV x u → RelV y w → Sim K Z B st H ρ → RD K Z H ρ d x → RD K Z H ρ e y → Fin K Z B W H ρ (g d e st) Q →
    wpAny (model X.prog X.w) X.A (call F [u, w]) (EP X pins σ Q) X.xe s) : CallR X F (rFn K Z B W fun ds st => match ds with
    | [x, y] => g x y st
    | _ => .bad) := by
  intro pins s σ H xs us Q I r q
  obtain ⟨st, ρ, ds, S, rd, q⟩ := q
  match ds, rd, q with
  | [], _, q => exact q.elim
  | [x], _, q => exact q.elim
  | x :: y :: z :: t, _, q => exact q.elim
  | [x, y], rd, q =>
    obtain ⟨v, w, rfl, r1, r2⟩ := two_of rd rfl
    obtain ⟨u, u', rfl, ru, ru'⟩ := vals2 r
    exact h pins s σ H v w u u' Q st ρ x y I ru ru' S r1 r2 q
theorem Fin.map {α : Type} {o : Option α} {g : α → D} (h : Fin K Z B W H ρ (Res.of (o.map g) st) Q) : ∃ a, o = some a ∧ Fin K Z B W H ρ (.ok (g a) st) Q := by
  cases o with
  | none => exact h.elim
  | some a => exact ⟨a, rfl, h⟩
theorem vals_one {x : V} {u : Value} (r : RelV x u) : Vals [x] [u] := .cons r .nil
def biV : Bi → Value
  | .len => .builtin "len"
  | .abs => .builtin "abs"
  | .max1 => .builtin "max"
  | .max2 => .builtin "max"
  | .min1 => .builtin "min"
  | .min2 => .builtin "min"
  | .sum => .builtin "sum"
  | .sorted => .builtin "sorted"
  | .all => .builtin "all"
  | .any => .builtin "any"
  | .int => .type "int"
  | .str => .type "str"
  | .repr => .builtin "repr"
  | .tuple => .type "tuple"
  | .list => .type "list"
  | .isi => .builtin "isinstance"
theorem fn_len (hK : X.K = K) (m : Bool) : CallR X (biV .len) (rFn K Z B W fun ds st => match ds with
    | [x] => bfun1 .len m x st
    | _ => .bad) := call1 fun pins s σ H x u Q st ρ d I ru S rd q => by
  obtain ⟨n, hn, q⟩ := Fin.map q
  subst hK
  have seq : ∀ {xs : List D} {a : Addr} {vs : List V}, x = .ref a → (SqL X.K H a vs ∨ SqT X.K H a vs) → RDs X.K Z H ρ xs vs → n = xs.length → wpAny (model X.prog X.w) X.A (call (biV .len) [u]) (EP X pins σ Q) X.xe s := fun {xs a vs} e h1 h2 hl => by
    subst e
    refine call_len_seq pins s σ H _ [u] Q I (vals_one ru) ⟨a, vs, rfl, h1, ?_⟩
    rw [← h2.length, ← hl]
    exact Fin.here S (.int _) q
  cases d with
  | str a =>
    have h2 : (if a.length ≤ LINE then some (a.length : Int) else none) = some n := hn
    split at h2
    · cases h2
      cases rd
      have hs : (⟨a.toArray⟩ : Str).length = a.length := by simp [Str.length]
      refine call_len_str pins s σ H _ [u] Q I (vals_one ru) ⟨_, rfl, by rw [hs]; exact Nat.le_trans (by assumption) line_le, ?_⟩
      rw [hs]
      exact Fin.here S (.int _) q
    · cases h2
  | tup xs => cases hn; cases rd with | tup t r => exact seq rfl (.inr t.sq) r rfl
  | con xs => cases hn; cases rd with | con t r => exact seq rfl (.inr t.sq) r rfl
  | kl xs => cases hn; cases rd with | kl t r => exact seq rfl (.inl t.sq) r rfl
  | lst xs => cases hn; cases rd with | lst t r => exact seq rfl (.inl t.sq) r rfl
  | loc k =>
    have h2 : (match sget st k with
      | some (.lst xs) => some (xs.length : Int)
      | some (.dct _ kvs) => some (kvs.length : Int)
      | _ => none) = some n := hn
    split at h2
    · rename_i xs hk
      cases h2
      obtain ⟨a, vs, rfl, h3, h4, h5⟩ := loc_lst S rd hk
      exact seq rfl (.inl (SqL.of h4)) h5 rfl
    · rename_i kvs hk
      cases h2
      obtain ⟨a, h1, h2⟩ := S.at hk (by intro z; cases z)
      have e := rd.loc_ref h1
      subst e
      cases h2 with
      | dK h3 h4 =>
        refine call_lenD pins s σ H _ [u] Q I (vals_one ru) ⟨a, _, rfl, h3, ?_⟩
        rw [← h4.length]
        exact Fin.here S (.int _) q
      | dT h3 h4 =>
        refine call_len_dT pins s σ H _ [u] Q I (vals_one ru) ⟨a, _, rfl, h3, ?_⟩
        rw [← h4.length]
        exact Fin.here S (.int _) q
    · cases h2
  | _ => cases hn
theorem fn_abs (m : Bool) : CallR X (biV .abs) (rFn K Z B W fun ds st => match ds with
    | [x] => bfun1 .abs m x st
    | _ => .bad) := call1 fun pins s σ H x u Q st ρ d I ru S rd q => by
  cases d with
  | int i =>
    cases rd
    exact call_abs pins s σ H _ [u] Q I (vals_one ru) ⟨i, rfl, Fin.here S (.int _) q⟩
  | _ => exact q.elim
theorem fn_max1 (hK : X.K = K) (hc : X.calm = true) (m : Bool) : CallR X (biV .max1) (rFn K Z B W fun ds st => match ds with
    | [x] => bfun1 .max1 m x st
    | _ => .bad) := call1 fun pins s σ H x u Q st ρ d I ru S rd q => by
  obtain ⟨n, hn, q⟩ := Fin.map q
  subst hK
  have h2 : (match (lstOf st d).bind intsOf with
    | some (n :: ns) => some (maxL ns n)
    | _ => none) = some n := hn
  split at h2
  · rename_i n0 ns e
    cases h2
    obtain ⟨a, rfl, hs⟩ := lst_ints S rd e
    refine cr_max hc pins s σ H _ [u] Q I (vals_one ru) ⟨a, _, rfl, hs, by simp, fun k hk hle => ?_⟩
    obtain ⟨h3, h4⟩ := maxL_spec ns n0
    have e : k = maxL ns n0 := Int.le_antisymm (h4 k hk) (hle _ h3)
    rw [e]
    exact Fin.here S (.int _) q
  · cases h2
theorem fn_min1 (hK : X.K = K) (hc : X.calm = true) (m : Bool) : CallR X (biV .min1) (rFn K Z B W fun ds st => match ds with
    | [x] => bfun1 .min1 m x st
    | _ => .bad) := call1 fun pins s σ H x u Q st ρ d I ru S rd q => by
  obtain ⟨n, hn, q⟩ := Fin.map q
  subst hK
  have h2 : (match (lstOf st d).bind intsOf with
    | some (n :: ns) => some (minL ns n)
    | _ => none) = some n := hn
  split at h2
  · rename_i n0 ns e
    cases h2
    obtain ⟨a, rfl, hs⟩ := lst_ints S rd e
    refine cr_min hc pins s σ H _ [u] Q I (vals_one ru) ⟨a, _, rfl, hs, by simp, fun k hk hle => ?_⟩
    obtain ⟨h3, h4⟩ := minL_spec ns n0
    have e : k = minL ns n0 := Int.le_antisymm (hle _ h3) (h4 k hk)
    rw [e]
    exact Fin.here S (.int _) q
  · cases h2
theorem fn_sum (hK : X.K = K) (hc : X.calm = true) (m : Bool) : CallR X (biV .sum) (rFn K Z B W fun ds st => match ds with
    | [x] => bfun1 .sum m x st
    | _ => .bad) := call1 fun pins s σ H x u Q st ρ d I ru S rd q => by
  obtain ⟨ns, hn, q⟩ := Fin.map q
  subst hK
  obtain ⟨a, rfl, hs⟩ := lst_ints S rd hn
  exact cr_sum hc pins s σ H _ [u] Q I (vals_one ru) ⟨a, _, rfl, hs, Fin.here S (.int _) q⟩
theorem fn_all (hK : X.K = K) (hc : X.calm = true) (m : Bool) : CallR X (biV .all) (rFn K Z B W fun ds st => match ds with
    | [x] => bfun1 .all m x st
    | _ => .bad) := call1 fun pins s σ H x u Q st ρ d I ru S rd q => by
  obtain ⟨ns, hn, q⟩ := Fin.map q
  subst hK
  obtain ⟨a, rfl, hs⟩ := lst_bools S rd hn
  exact cr_all hc pins s σ H _ [u] Q I (vals_one ru) ⟨a, _, rfl, hs, Fin.here S (.bl _) q⟩
theorem fn_any (hK : X.K = K) (hc : X.calm = true) (m : Bool) : CallR X (biV .any) (rFn K Z B W fun ds st => match ds with
    | [x] => bfun1 .any m x st
    | _ => .bad) := call1 fun pins s σ H x u Q st ρ d I ru S rd q => by
  obtain ⟨ns, hn, q⟩ := Fin.map q
  subst hK
  obtain ⟨a, rfl, hs⟩ := lst_bools S rd hn
  exact cr_any hc pins s σ H _ [u] Q I (vals_one ru) ⟨a, _, rfl, hs, Fin.here S (.bl _) q⟩
theorem textInt_ok {x : List Nat} {n : Int} (h : textInt x = some n) : PySem.intText? (⟨x.toArray⟩ : Str) = some n ∧ x.length ≤ 18 := by
  unfold textInt at h
  split at h
  · rename_i hc
    cases h
    refine ⟨?_, hc.1⟩
    have hd : NumText.AllDigits (⟨x.toArray⟩ : Str).cps.toList := fun c hm => by
      have := List.all_eq_true.mp hc.2.2 c (by simpa using hm)
      simp only [Bool.and_eq_true, decide_eq_true_eq] at this
      exact this
    have e := intText_digits (x := ⟨x.toArray⟩) hd (by simpa using hc.2.1) (by simp only [Str.length, List.size_toArray]; omega)
    simpa using e
  · cases h
theorem fn_int (m : Bool) : CallR X (biV .int) (rFn K Z B W fun ds st => match ds with
    | [x] => bfun1 .int m x st
    | _ => .bad) := call1 fun pins s σ H x u Q st ρ d I ru S rd q => by
  obtain ⟨n, hn, q1⟩ := Fin.map q
  cases d with
  | int i =>
    cases hn
    cases rd
    exact call_int1 pins s σ H _ [u] Q I (vals_one ru) (.inl ⟨_, rfl, Fin.here S (.int _) q1⟩)
  | bl b =>
    cases hn
    cases rd
    exact call_int1 pins s σ H _ [u] Q I (vals_one ru) (.inr ⟨_, rfl, Fin.here S (.int _) q1⟩)
  | str a =>
    obtain ⟨h1, h2⟩ := textInt_ok (x := a) (n := n) hn
    cases rd
    exact call_int_str pins s σ H _ [u] Q I (vals_one ru) ⟨_, n, rfl, h1, by simp only [Str.length, List.size_toArray]; omega, Fin.here S (.int _) q1⟩
  | _ => cases hn
theorem fn_str (m : Bool) : CallR X (biV .str) (rFn K Z B W fun ds st => match ds with
    | [x] => bfun1 .str m x st
    | _ => .bad) := call1 fun pins s σ H x u Q st ρ d I ru S rd q => by
  cases d with
  | int i =>
    obtain ⟨hz, q⟩ := fin_if (c := i.natAbs < 10 ^ 100) (r := .ok (.str (intText i)) st) q
    cases rd
    refine call_str_int pins s σ H _ [u] Q I (vals_one ru) ⟨i, rfl, log_small hz, ?_⟩
    rw [intTextS i]
    exact Fin.here S (.str _ (okS_intText i)) q
  | _ => exact q.elim
theorem fn_tuple (hK : X.K = K) (m : Bool) : CallR X (biV .tuple) (rFn K Z B W fun ds st => match ds with
    | [x] => bfun1 .tuple m x st
    | _ => .bad) := call1 fun pins s σ H x u Q st ρ d I ru S rd q => by
  subst hK
  by_cases hcon : ∃ ys, d = .con ys
  · obtain ⟨ys, rfl⟩ := hcon
    cases rd with
    | con t r => exact call_tuple_of pins s σ H _ [u] Q I (vals_one ru) ⟨_, _, rfl, .inr ⟨t.sq, Fin.here S (.con t r) q⟩⟩
  have q : Fin X.K Z B W H ρ (Res.of ((seqOf st d).map .tup) st) Q := by
    cases d <;> first | exact q | exact absurd ⟨_, rfl⟩ hcon
  obtain ⟨xs, hn, q⟩ := Fin.map q
  have lst : ∀ {a : Addr} {vs : List V}, x = .ref a → Rd H a (.lst vs) → RDs X.K Z H ρ xs vs → wpAny (model X.prog X.w) X.A (call (biV .tuple) [u]) (EP X pins σ Q) X.xe s := fun {a vs} e h1 h2 => by
    subst e
    exact call_tuple_of pins s σ H _ [u] Q I (vals_one ru) ⟨a, vs, rfl, .inl ⟨.inl h1, fun l hl => Fin.newT S hl h2 q⟩⟩
  cases d with
  | tup ys =>
    cases hn
    cases rd with
    | tup t r => exact call_tuple_of pins s σ H _ [u] Q I (vals_one ru) ⟨_, _, rfl, .inr ⟨t.sq, Fin.here S (.tup t r) q⟩⟩
  | lst ys =>
    obtain ⟨a, vs, e, h1, h2⟩ := lstOf_rd S rd (ds := xs) hn
    exact lst e h1 h2
  | loc k =>
    obtain ⟨a, vs, e, h1, h2⟩ := lstOf_rd S rd (ds := xs) hn
    exact lst e h1 h2
  | con ys => exact absurd ⟨_, rfl⟩ hcon
  | kl ys =>
    cases hn
    cases rd with
    | kl t r => exact call_tuple_of pins s σ H _ [u] Q I (vals_one ru) ⟨_, _, rfl, .inl ⟨t.sq, fun l hl => Fin.newT S hl r q⟩⟩
  | _ => cases hn
theorem fn_list (hK : X.K = K) (m : Bool) : CallR X (biV .list) (rFn K Z B W fun ds st => match ds with
    | [x] => bfun1 .list m x st
    | _ => .bad) := call1 fun pins s σ H x u Q st ρ d I ru S rd q => by
  have q : Fin K Z B W H ρ (match seqOf st d with
    | some xs => newL m xs st
    | none => .bad) Q := q
  subst hK
  cases hs : seqOf st d with
  | none => rw [hs] at q; exact q.elim
  | some xs =>
    rw [hs] at q
    obtain ⟨a, vs, rfl, h1, h2⟩ := seqOf_rd S rd hs
    exact call_list_of pins s σ H _ [u] Q I (vals_one ru) ⟨a, vs, rfl, h1, fun l hl => Fin.newL S hl h2 q⟩
theorem fn_max2 (hc : X.calm = true) (isa : Nat → Nat → Bool) : CallR X (biV .max2) (rFn K Z B W fun ds st => match ds with
    | [x, y] => bfun2 isa .max2 x y st
    | _ => .bad) := call2 fun pins s σ H x y u w Q st ρ d e I ru rw' S rd re q => by
  cases d with
  | int i =>
    cases e with
    | int j =>
      cases rd; cases re
      exact call_max2 hc pins s σ H _ [u, w] Q I (.cons ru (.cons rw' .nil)) ⟨i, j, rfl, Fin.here S (.int _) q⟩
    | _ => exact q.elim
  | _ => exact q.elim
theorem fn_min2 (hc : X.calm = true) (isa : Nat → Nat → Bool) : CallR X (biV .min2) (rFn K Z B W fun ds st => match ds with
    | [x, y] => bfun2 isa .min2 x y st
    | _ => .bad) := call2 fun pins s σ H x y u w Q st ρ d e I ru rw' S rd re q => by
  cases d with
  | int i =>
    cases e with
    | int j =>
      cases rd; cases re
      exact call_min2 hc pins s σ H _ [u, w] Q I (.cons ru (.cons rw' .nil)) ⟨i, j, rfl, Fin.here S (.int _) q⟩
    | _ => exact q.elim
  | _ => exact q.elim
end
end MP

set_option autoImplicit false
set_option linter.all false
set_option maxRecDepth 100000
/-! Mp6: sorted, repr, isinstance. -/
namespace MP
open PySem PySem.Spec PyProof.Rows L2
section
variable {K : PySem.W.Frag} {Z : Ad} {B : List Nat} {W : XK} {H : Hp} {ρ : Rho} {st : Store} {Q : VK} {X : Cx}

/-! ### sorted -/
theorem RDs.zip : ∀ {ds : List D} {vs : List V}, RDs K Z H ρ ds vs → ∀ p ∈ ds.zip vs, RD K Z H ρ p.1 p.2
  | _, _, .nil, p, hp => by simp at hp
  | _, _, .cons h r, p, hp => by
    rw [List.zip_cons_cons] at hp
    rcases List.mem_cons.mp hp with e | hp
    · rw [e]; exact h
    · exact r.zip p hp
theorem RDs.ofZip : ∀ {l : List (D × V)}, (∀ p ∈ l, RD K Z H ρ p.1 p.2) → RDs K Z H ρ (l.map (·.1)) (l.map (·.2))
  | [], _ => .nil
  | p :: l, h => .cons (h p List.mem_cons_self) (RDs.ofZip fun q hq => h q (List.mem_cons_of_mem _ hq))
theorem each_zip : ∀ {ds : List D} {vs : List V} {us : List Value}, RDs K Z H ρ ds vs → Vals vs us → PySem.W.EachIs (fun u (p : D × V) => RelV p.2 u) us (ds.zip vs)
  | _, _, _, .nil, .nil => .nil
  | _, _, _, .cons h r, .cons h2 r2 => .cons h2 (each_zip r r2)
theorem each_vals : ∀ {us : List Value} {l : List (D × V)}, PySem.W.EachIs (fun u (p : D × V) => RelV p.2 u) us l → Vals (l.map (·.2)) us
  | _, _, .nil => .nil
  | _, _, .cons h r => .cons h (each_vals r)
theorem zip_fst : ∀ {ds : List D} {vs : List V}, RDs K Z H ρ ds vs → (ds.zip vs).map (·.1) = ds
  | _, _, .nil => rfl
  | _, _, .cons h r => by rw [List.zip_cons_cons, List.map_cons, zip_fst r]
theorem deref_keys {st : Store} : ∀ {xs ds : List D}, mapO (deref st DEEP) xs = some ds → xs.map (keyD_ st) = ds.map (pyd DEEP)
  | [], ds, h => by cases h; rfl
  | x :: xs, ds, h => by
    obtain ⟨y, ys, rfl, h1, h2⟩ := mapO_cons h
    rw [List.map_cons, List.map_cons, deref_keys h2]
    show pyd DEEP ((deref st DEEP x).getD .non) :: _ = _
    rw [h1]; rfl
/-- the items read as their data -/
theorem each_reads {pins : List (Addr × Obj)} {σ : L2.St} {s : Shared} (hK : X.K = K) (I : Inv X pins σ H s) (S : Sim K Z B st H ρ) : ∀ {xs ds : List D} {vs : List V} {us : List Value}, RDs K Z H ρ xs vs → Vals vs us → mapO (deref st DEEP) xs = some ds →
    PySem.W.EachIs (fun u (p : D × V) => ∃ as, Reads s.heap u (keyD_ st p.1) as) us (xs.zip vs)
  | _, _, _, _, .nil, .nil, _ => .nil
  | d :: _, _, v :: _, u :: _, .cons h r, .cons h2 r2, e => by
    obtain ⟨y, ys, rfl, h3, h4⟩ := mapO_cons e
    have e2 : keyD_ st d = pyd DEEP y := by show pyd DEEP ((deref st DEEP d).getD .non) = _; rw [h3]; rfl
    have h5 : ∃ as, Reads s.heap u (keyD_ st d) as := by
      rw [e2]
      subst hK
      exact Dp.reads I _ _ _ (deref_dp S DEEP _ _ _ h3 h).1 h2
    exact .cons h5 (each_reads hK I S r r2 h4)
theorem sortable_ok {ds : List D} (hf : ds.all (flat DEEP) = true) (h : sortable ds = true) : PySem.W.AllAlike (ds.map (pyd DEEP)) ∧ PySem.W.Sortable (ds.map (pyd DEEP)) := by
  unfold sortable at h
  rw [Bool.and_eq_true, Bool.or_eq_true] at h
  obtain ⟨h1, h2⟩ := h
  refine ⟨fun d hd d' hd' => ?_, ?_⟩
  · obtain ⟨a, ha, rfl⟩ := List.mem_map.mp hd
    obtain ⟨b, hb, rfl⟩ := List.mem_map.mp hd'
    exact List.all_eq_true.mp (List.all_eq_true.mp h1 a ha) b hb
  · rcases h2 with h2 | h2
    · refine .inl fun d hd => ?_
      obtain ⟨a, ha, rfl⟩ := List.mem_map.mp hd
      have := List.all_eq_true.mp h2 a ha
      cases a with
      | tup xs =>
        cases xs with
        | nil => cases this
        | cons x xs => exact ⟨pyd 7 x, xs.map (pyd 7), rfl⟩
      | _ => cases this
    · refine .inr fun d hd => ?_
      obtain ⟨a, ha, rfl⟩ := List.mem_map.mp hd
      have := List.all_eq_true.mp h2 a ha
      have hfa := List.all_eq_true.mp hf a ha
      cases a <;> first | (cases this; done) | (simp [flat] at hfa; done) | (refine ⟨fun z => ?_, fun xs z => ?_⟩ <;> cases z)
theorem fn_sorted (hK : X.K = K) (hu : X.A.units + 100 < cLine) (m : Bool) : CallR X (biV .sorted) (rFn K Z B W fun ds st => match ds with
    | [x] => bfun1 .sorted m x st
    | _ => .bad) := call1 fun pins s σ H x u Q st ρ d I ru S rd q => by
  have q : Fin K Z B W H ρ (match lstOf st d with
    | some xs => (match mapO (deref st DEEP) xs with
      | some ds => if sortable ds then newL m (sortD st xs) st else .bad
      | none => .bad)
    | none => .bad) Q := q
  split at q
  · rename_i xs e1
    split at q
    · rename_i ds e2
      obtain ⟨hs, q⟩ := fin_if q
      obtain ⟨a, vs, rfl, h1, h2⟩ := lstOf_rd S rd e1
      obtain ⟨its, rv, hl, hz⟩ := I.list (h := (Or.inl h1 : SqL X.K H a vs))
      cases ru
      obtain ⟨al, so⟩ := sortable_ok (mapO_flat (deref_flat (st := st) DEEP) e2) hs
      have ek : (xs.zip vs).map (fun p => keyD_ st p.1) = ds.map (pyd DEEP) := by
        rw [← deref_keys e2]
        have : (xs.zip vs).map (fun p => keyD_ st p.1) = ((xs.zip vs).map (·.1)).map (keyD_ st) := by rw [List.map_map]; rfl
        rw [this, zip_fst h2]
      have hlen : (xs.zip vs).length = vs.length := by rw [List.length_zip, h2.length, Nat.min_self]
      refine PySem.W.sorted_data (enc := fun p : D × V => keyD_ st p.1) (R := fun u p => RelV p.2 u) hl.isList (each_zip h2 rv) (each_reads hK I S h2 rv e2) (by rw [ek]; exact al) (by rw [ek]; exact so) (by rw [hlen]; exact hz) (fun p hp => ?_) fun out h3 h4 => ?_
      · have : keyD_ st p.1 ∈ ds.map (pyd DEEP) := by rw [← ek]; exact List.mem_map_of_mem hp
        obtain ⟨y, hy, ey⟩ := List.mem_map.mp this
        have hd : (keyD_ st p.1).depth ≤ DEEP := by
          obtain ⟨i, hi, ei⟩ := List.getElem_of_mem hp
          have h5 := h2.zip p hp
          have h6 : p.1 ∈ xs := (List.of_mem_zip (a := p.1) (b := p.2) hp).1
          obtain ⟨j, hj, ej⟩ := List.getElem_of_mem h6
          obtain ⟨y2, _, e7⟩ := (mapO_some e2).2 j p.1 (by rw [List.getElem?_eq_getElem hj, ej])
          have h8 := (deref_dp S DEEP p.1 y2 p.2 e7 h5).2.2
          show (pyd DEEP ((deref st DEEP p.1).getD .non)).depth ≤ DEEP
          rw [e7]; exact h8
        have : DEEP = 8 := rfl
        omega
      · obtain ⟨ep, he'⟩ := PyProof.Rows.sortedAll_at s.heap its out.toArray
        have hp := List.mergeSort_perm (xs.zip vs) (PySem.W.dataLe false fun p : D × V => keyD_ st p.1)
        have rd2 : RDs K Z H ρ (sortD st xs) (((xs.zip vs).mergeSort (PySem.W.dataLe false fun p : D × V => keyD_ st p.1)).map (·.2)) := by
          have e : sortD st xs = ((xs.zip vs).mergeSort (PySem.W.dataLe false fun p : D × V => keyD_ st p.1)).map (·.1) := by
            rw [List.map_mergeSort (r := PySem.W.dataLe false fun p : D × V => keyD_ st p.1) (s := PySem.W.dataLe false (keyD_ st)) (f := fun p : D × V => p.1) (l := xs.zip vs) (fun a _ b _ => rfl), zip_fst h2]
            rfl
          rw [e]
          exact RDs.ofZip fun p hp2 => h2.zip p (hp.mem_iff.mp hp2)
        have hl2 : (((xs.zip vs).mergeSort (PySem.W.dataLe false fun p : D × V => keyD_ st p.1)).map (·.2)).length ≤ sizeLine := by rw [List.length_map, hp.length_eq, hlen]; exact hz
        exact ⟨.ref _, upd H (s.heap.objs.size + 1) (.lst _), I.laid (t' := s.toks) (fun _ _ => PyProof.Rows.sortedAll_old) (Nat.le_succ _) ⟨hl2, out, ep, each_vals h4, he'⟩, rfl, Fin.newL S (I.hok.fresh (Nat.le_succ _)) rd2 q⟩
    · exact q.elim
  · exact q.elim

/-! ### repr -/
theorem fn_repr (hK : X.K = K) (hg : X.A.guards = some []) (hu : X.A.units + 100 < cLine) (m : Bool) : CallR X (biV .repr) (rFn K Z B W fun ds st => match ds with
    | [x] => bfun1 .repr m x st
    | _ => .bad) := call1 fun pins s σ H x u Q st ρ d I ru S rd q => by
  obtain ⟨t, hn, q⟩ := Fin.map q
  have h2 : (match deref st DEEP d with
    | some d => if (pyd DEEP d).showable && decide ((pyd DEEP d).shown.length ≤ LINE) then some (pyd DEEP d).shown.cps.toList else none
    | none => none) = some t := hn
  split at h2
  · rename_i e he
    split at h2
    · rename_i hc
      cases h2
      rw [Bool.and_eq_true, decide_eq_true_eq] at hc
      obtain ⟨hsh, hlen⟩ := hc
      obtain ⟨hdp, hcl, hdep⟩ := deref_dp S DEEP d e x he rd
      have h8 : DEEP = 8 := rfl
      have hlen2 : (pyd DEEP e).shown.length ≤ sizeLine := Nat.le_trans hlen line_le
      have fin : ∀ {h' : Heap} {w : Tok} {tk : Nat}, (∀ b o, s.heap.get? b = some o → h'.get? b = some o) → EP X pins σ Q (.str (pyd DEEP e).shown w) { s with heap := h', toks := tk } := fun {h' w tk} hk =>
        ⟨.str (pyd DEEP e).shown, H, I.kept hk, ⟨_, rfl⟩, Fin.here S (.str _ (shown_ok _ hcl)) q⟩
      subst hK
      have disp : isDisplay (pyd DEEP e) = true → wpAny (model X.prog X.w) X.A (call (biV .repr) [u]) (EP X pins σ Q) X.xe s := fun hdd => by
        obtain ⟨as, r1⟩ := Dp.reads I _ _ _ hdp ru
        obtain ⟨a, rfl⟩ := isRef_of_reads r1 hdd
        exact repr_of_reads' r1 hsh (PyData.noDict_hsm (PyData.hasDict_of_canLay _ hcl)) hg (by omega) (fun _ _ e => e) (fun h' u tk hk => fin hk) hlen2
      have tk : ∀ {t : Nat} {w : Tok}, EP X pins σ Q (.str (pyd DEEP e).shown w) { s with toks := t } := fun {t w} => fin (h' := s.heap) fun _ _ h => h
      cases e with
      | tup xs => exact disp rfl
      | lst xs => exact disp rfl
      | non =>
        cases hdp
        cases (show u = Value.none from ru)
        refine PySem.P.repr_of_none ?_
        have e : (pyd DEEP .non).shown = (Str.ofString "None") := PyData.shown_none
        have h := tk (t := s.toks + 1) (w := s.toks)
        rw [e] at h
        exact h
      | bl b =>
        cases hdp
        cases (show u = Value.bool b from ru)
        refine PySem.P.repr_of_bool ?_
        have e : (pyd DEEP (.bl b)).shown = (if b then "True" else "False" : Str) := PyData.shown_bool b
        have h := tk (t := s.toks + 1) (w := s.toks)
        rw [e] at h
        exact h
      | int i =>
        cases hdp
        obtain ⟨t, rfl⟩ := (show ∃ t, u = Value.int i t from ru)
        refine PySem.P.repr_of_int (by simpa [pyd, PyData.showable] using hsh) ?_
        have e : (pyd DEEP (.int i)).shown = (Str.ofString (toString i)) := PyData.shown_int i
        have h := tk (t := s.toks + 1) (w := s.toks)
        rw [e] at h
        exact h
      | str y =>
        cases hdp
        obtain ⟨t, rfl⟩ := (show ∃ t, u = Value.str _ t from ru)
        have e : (pyd DEEP (.str y)).shown = reprText ⟨y.toArray⟩ := PyData.shown_str _
        have h := tk (t := s.toks + 1) (w := s.toks)
        rw [e] at h hlen2
        exact PySem.P.repr_of_str h hlen2
      | _ => cases hdp <;> (have := deref_flat _ _ _ he; simp [flat] at this)
    · cases h2
  · cases h2

/-! ### isinstance -/
theorem kit_all (a : String) (n : Nat) (r : Bool) (h0 : n = 0 → kitB a "int" = some r) (h1 : n = 1 → kitB a "bool" = some r) (h2 : n = 2 → kitB a "str" = some r) (h3 : n = 3 → kitB a "tuple" = some r) (h4 : 4 ≤ n → kitB a "list" = some r) : PySem.W.kitOne K (.type a) (.type (tyN n)) = some r := by
  match n with
  | 0 => exact kit_ty (h0 rfl)
  | 1 => exact kit_ty (h1 rfl)
  | 2 => exact kit_ty (h2 rfl)
  | 3 => exact kit_ty (h3 rfl)
  | n + 4 => exact kit_ty (h4 (by omega))
theorem isi_row (a : String) (f : Nat → Bool) (h0 : kitB a "int" = some (f 0)) (h1 : kitB a "bool" = some (f 1)) (h2 : kitB a "str" = some (f 2)) (h3 : kitB a "tuple" = some (f 3)) (h4 : ∀ n, kitB a "list" = some (f (n + 4))) (n : Nat) : PySem.W.kitOne K (.type a) (.type (tyN n)) = some (f n) := by
  match n with
  | 0 => exact kit_ty h0
  | 1 => exact kit_ty h1
  | 2 => exact kit_ty h2
  | 3 => exact kit_ty h3
  | n + 4 => exact kit_ty (h4 n)
theorem fn_isi (hK : X.K = K) (isa : Nat → Nat → Bool) : CallR X (biV .isi) (rFn K Z B W fun ds st => match ds with
    | [x, y] => bfun2 isa .isi x y st
    | _ => .bad) := call2 fun pins s σ H x y u w Q st ρ d e I ru rw' S rd re q => by
  obtain ⟨b, hn, q⟩ := Fin.map q
  have q' : Q (.bl b) H := Fin.here S (.bl _) q
  subst hK
  have go : ∀ {n : Nat} {a : String}, y = .ty (tyN n) → TyX X.K H x (.type a) → PySem.W.kitOne X.K (.type a) (.type (tyN n)) = some b → wpAny (model X.prog X.w) X.A (call (biV .isi) [u, w]) (EP X pins σ Q) X.xe s := fun {n a} ey h1 h2 => by
    subst ey
    exact call_isi pins s σ H _ [u, w] Q I (.cons ru (.cons rw' .nil)) ⟨_, _, _, _, b, rfl, .ty _, h1, h2, q'⟩
  have tail : ∀ n : Nat, decide (4 ≤ n + 4) = true := fun n => decide_eq_true (by omega)
  cases e with
  | ty n =>
    cases re
    cases d with
    | non =>
      cases hn; cases rd
      exact go rfl (.base .non) (isi_row "NoneType" (fun _ => false) (by decide +kernel) (by decide +kernel) (by decide +kernel) (by decide +kernel) (fun n => by decide +kernel) n)
    | bl c =>
      cases hn; cases rd
      exact go rfl (.base (.bl _)) (isi_row "bool" (fun n => n == 1 || n == 0) (by decide +kernel) (by decide +kernel) (by decide +kernel) (by decide +kernel) (fun n => by
        have : (n + 4 == 1 || n + 4 == 0) = false := by simp
        rw [this]; decide +kernel) n)
    | int c =>
      cases hn; cases rd
      exact go rfl (.base (.int _)) (isi_row "int" (fun n => n == 0) (by decide +kernel) (by decide +kernel) (by decide +kernel) (by decide +kernel) (fun n => by
        have : (n + 4 == 0) = false := by simp
        show _ = some (n + 4 == 0)
        rw [this]; decide +kernel) n)
    | str c =>
      cases hn; cases rd
      exact go rfl (.base (.str _)) (isi_row "str" (fun n => n == 2) (by decide +kernel) (by decide +kernel) (by decide +kernel) (by decide +kernel) (fun n => by
        have : (n + 4 == 2) = false := by simp
        show _ = some (n + 4 == 2)
        rw [this]; decide +kernel) n)
    | tup c =>
      cases hn
      cases rd with
      | tup t r =>
        refine go (a := "tuple") rfl ?_ (isi_row "tuple" (fun n => n == 3) (by decide +kernel) (by decide +kernel) (by decide +kernel) (by decide +kernel) (fun n => by
          have : (n + 4 == 3) = false := by simp
          show _ = some (n + 4 == 3)
          rw [this]; decide +kernel) n)
        exact .base (.tup t.1)
    | con c =>
      cases hn
      cases rd with
      | con t r =>
        refine go (a := "tuple") rfl ?_ (isi_row "tuple" (fun n => n == 3) (by decide +kernel) (by decide +kernel) (by decide +kernel) (by decide +kernel) (fun n => by
          have : (n + 4 == 3) = false := by simp
          show _ = some (n + 4 == 3)
          rw [this]; decide +kernel) n)
        obtain ⟨o, its, k, h1, h2, _⟩ := t.kt
        exact .kTuple h1 h2
    | lst c =>
      cases hn
      cases rd with
      | lst t r =>
        refine go (a := "list") rfl ?_ (isi_row "list" (fun n => decide (4 ≤ n)) (by decide +kernel) (by decide +kernel) (by decide +kernel) (by decide +kernel) (fun n => by
          show _ = some (decide (4 ≤ n + 4))
          rw [tail]; decide +kernel) n)
        rcases t with ⟨t, _⟩ | ⟨o, t, _⟩
        · exact .base (.lst t)
        · exact .base (.frz t)
    | loc k =>
      have h2 : (match sget st k with
        | some (.lst _) => some (decide (4 ≤ n))
        | _ => none) = some b := hn
      split at h2
      · rename_i xs hk
        cases h2
        obtain ⟨a, vs, rfl, h3, h4, h5⟩ := loc_lst S rd hk
        exact go (a := "list") rfl (.base (.lst h4)) (isi_row "list" (fun n => decide (4 ≤ n)) (by decide +kernel) (by decide +kernel) (by decide +kernel) (by decide +kernel) (fun n => by
          show _ = some (decide (4 ≤ n + 4))
          rw [tail]; decide +kernel) n)
      · cases h2
    | _ => cases hn
  | _ => cases d <;> cases hn
end
end MP

set_option autoImplicit false
set_option linter.all false
set_option maxRecDepth 100000
/-! Mp7: items, slices, methods. -/
namespace MP
open PySem PySem.Spec PyProof.Rows L2

/-! ### the first place of a sign -/
section
open PySem.StrLaws PySem.Builtin.Str
theorem occ_keep (s sub : Str) (hi : Nat) : ∀ (l : List Nat) (st : Array Nat × Nat), 1 ≤ st.fst.size → (forIn l st (occBody s sub hi 1)).run.fst = st.fst
  | [], st, _ => rfl
  | a :: l, st, h => by
    rw [List.forIn_cons]
    unfold occBody
    split
    · rename_i hc
      exact absurd hc.1.1.1 (by omega)
    · exact occ_keep s sub hi l (st.fst, st.snd) h
theorem occ_sign (x : Str) (c : Nat) : ∀ (r : List Nat) (a free : Nat), free ≤ a → x.cps.toList.drop a = r → a ≤ x.length →
    (forIn (List.range' a (r.length + 1)) ((#[] : Array Nat), free) (occBody x ⟨#[c]⟩ x.length 1)).run.fst.toList = (findSign c a r).toList
  | [], a, free, hf, hd, ha => by
    rw [List.length_nil, List.range'_succ, List.forIn_cons]
    unfold occBody
    have hn : ¬ (((((#[] : Array Nat), free).fst.size < 1 ∧ ((#[] : Array Nat), free).snd ≤ a) ∧ a + (⟨#[c]⟩ : Str).length ≤ x.length) ∧ subAt x ⟨#[c]⟩ a = true) := fun h => by
      have := (subAt_one x c a).mp ⟨h.1.2, h.2⟩
      have e : (x.cps.toList.drop a)[0]? = some c := by rw [List.getElem?_drop]; exact this
      rw [hd] at e; cases e
    rw [if_neg hn]
    rfl
  | d :: r, a, free, hf, hd, ha => by
    rw [List.length_cons, List.range'_succ, List.forIn_cons]
    have hx : x.cps.toList[a]? = some d := by
      have e : (x.cps.toList.drop a)[0]? = x.cps.toList[a + 0]? := List.getElem?_drop
      rw [hd] at e
      exact e.symm
    have hd2 : x.cps.toList.drop (a + 1) = r := by
      rw [← List.drop_drop, hd]; rfl
    have hl : a + 1 ≤ x.length := by
      obtain ⟨hlt, _⟩ := List.getElem?_eq_some_iff.mp hx
      simp [Str.length] at hlt ⊢
      omega
    unfold occBody
    by_cases hc : d = c
    · subst hc
      have hs := (subAt_one x d a).mpr hx
      rw [if_pos ⟨⟨⟨by simp, hf⟩, hs.1⟩, hs.2⟩]
      show (forIn (List.range' (a + 1) (r.length + 1)) (((#[] : Array Nat).push a), a + (⟨#[d]⟩ : Str).length) (occBody x ⟨#[d]⟩ x.length 1)).run.fst.toList = _
      rw [occ_keep _ _ _ _ _ (by simp)]
      unfold findSign
      rw [if_pos rfl]
      rfl
    · have hn : ¬ (((((#[] : Array Nat), free).fst.size < 1 ∧ ((#[] : Array Nat), free).snd ≤ a) ∧ a + (⟨#[c]⟩ : Str).length ≤ x.length) ∧ subAt x ⟨#[c]⟩ a = true) := fun h => by
        have := (subAt_one x c a).mp ⟨h.1.2, h.2⟩
        rw [hx] at this
        exact hc (Option.some.inj this)
      rw [if_neg hn]
      show (forIn (List.range' (a + 1) (r.length + 1)) ((#[] : Array Nat), free) (occBody x ⟨#[c]⟩ x.length 1)).run.fst.toList = _
      rw [occ_sign x c r (a + 1) free (by omega) hd2 hl]
      show _ = (if d = c then some a else findSign c (a + 1) r).toList
      rw [if_neg hc]
theorem occ_first (x : List Nat) (c : Nat) : occurrences (⟨x.toArray⟩ : Str) ⟨[c].toArray⟩ 0 (⟨x.toArray⟩ : Str).length 1 = (findSign c 0 x).toList := by
  rw [occ_eq]
  have e : (⟨x.toArray⟩ : Str).length = x.length := by simp [Str.length]
  have h := occ_sign ⟨x.toArray⟩ c x 0 0 (Nat.le_refl _) (by simp) (Nat.zero_le _)
  rw [e] at h ⊢
  exact h
end
/-! ### split at a sign, join -/
theorem spl_sign (c : Nat) : ∀ (x acc : List Nat), TL.spl [c] 0 acc x = splitC c acc x
  | [], acc => rfl
  | d :: r, acc => by
    by_cases h : d = c
    · subst h
      have hp : TL.pre [d] (d :: r) = true := by simp [TL.pre]
      rw [TL.spl_hit hp]
      show acc :: TL.spl [d] 0 [] r = splitC d acc (d :: r)
      rw [spl_sign d r []]
      show _ = (if d = d then acc :: splitC d [] r else _)
      rw [if_pos rfl]
    · rw [TL.spl_miss (TL.pre_of_head [] r h), spl_sign c r]
      show _ = (if d = c then acc :: splitC c [] r else splitC c (acc ++ [d]) r)
      rw [if_neg h]
theorem splitC_ok (c : Nat) : ∀ (x acc : List Nat), okS x → okS acc → ∀ p ∈ splitC c acc x, okS p
  | [], acc, _, ha, p, hp => by
    rw [show splitC c acc [] = [acc] from rfl, List.mem_singleton] at hp
    rw [hp]; exact ha
  | d :: r, acc, hx, ha, p, hp => by
    have hr : okS r := fun z hz => hx z (List.mem_cons_of_mem _ hz)
    have hp2 : p ∈ (if d = c then acc :: splitC c [] r else splitC c (acc ++ [d]) r) := hp
    split at hp2
    · rcases List.mem_cons.mp hp2 with e | hp2
      · rw [e]; exact ha
      · exact splitC_ok c r [] hr (fun z hz => by cases hz) p hp2
    · refine splitC_ok c r _ hr (fun z hz => ?_) p hp2
      rcases List.mem_append.mp hz with h | h
      · exact ha z h
      · rw [List.mem_singleton] at h; rw [h]; exact hx d List.mem_cons_self
theorem split_txt (x : List Nat) (c : Nat) (hc : c < 256) : Txt.split (⟨x.toArray⟩ : Str) ⟨[c].toArray⟩ = (splitC c [] x).map fun p => (⟨p.toArray⟩ : Str) := by
  have hk : ¬ Builtin.Str.strKind (⟨x.toArray⟩ : Str) < Builtin.Str.strKind (⟨[c].toArray⟩ : Str) := by
    have e : Builtin.Str.strKind (⟨[c].toArray⟩ : Str) = 1 := by
      unfold Builtin.Str.strKind
      rw [if_pos (by simp [hc])]
    rw [e]
    unfold Builtin.Str.strKind
    split
    · omega
    · split <;> omega
  have h := TL.split_spl (⟨x.toArray⟩ : Str) ⟨[c].toArray⟩ (by simp [TL.tl]) hk
  refine TL.map_tl_inj ?_
  rw [h, List.map_map]
  show TL.spl [c] 0 [] x = _
  rw [spl_sign]
  have : (TL.tl ∘ fun p : List Nat => (⟨p.toArray⟩ : Str)) = id := by funext p; rfl
  rw [this, List.map_id]
theorem joinC_txt (s : List Nat) (ts : List (List Nat)) : Txt.join (⟨s.toArray⟩ : Str) (ts.map fun p => (⟨p.toArray⟩ : Str)) = ⟨(joinC s ts).toArray⟩ := by
  rw [TL.join_eq]
  refine TL.ext_tl ?_
  rw [TL.tl_join, List.map_map]
  have e : (TL.tl ∘ fun p : List Nat => (⟨p.toArray⟩ : Str)) = id := by funext p; rfl
  rw [e, List.map_id]
  show TL.joinL s ts = joinC s ts
  have : ∀ ts : List (List Nat), TL.joinL s ts = joinC s ts := fun ts => by
    induction ts with
    | nil => rfl
    | cons a r ih =>
      cases r with
      | nil => rfl
      | cons b r =>
        show a ++ (s ++ TL.joinL s (b :: r)) = a ++ (s ++ joinC s (b :: r))
        rw [ih]
  exact this ts
theorem joinC_ok {s : List Nat} (hs : okS s) : ∀ {ts : List (List Nat)}, (∀ t ∈ ts, okS t) → okS (joinC s ts)
  | [], _ => fun c hc => by cases hc
  | [x], h => h x List.mem_cons_self
  | x :: y :: r, h => fun c hc => by
    have hc2 : c ∈ x ++ (s ++ joinC s (y :: r)) := hc
    rcases List.mem_append.mp hc2 with h1 | h1
    · exact h x List.mem_cons_self c h1
    · rcases List.mem_append.mp h1 with h2 | h2
      · exact hs c h2
      · exact joinC_ok hs (ts := y :: r) (fun z hz => h z (List.mem_cons_of_mem _ hz)) c h2
theorem sumLen_eq (ts : List (List Nat)) : ((ts.map fun p => (⟨p.toArray⟩ : Str)).map (·.length)).sum = sumLen ts := by
  induction ts with
  | nil => rfl
  | cons a r ih =>
    simp only [List.map_cons, List.sum_cons, ih]
    show (⟨a.toArray⟩ : Str).length + sumLen r = a.length + sumLen r
    simp [Str.length]

section
variable {K : PySem.W.Frag} {Z : Ad} {B : List Nat} {W : XK} {H : Hp} {ρ : Rho} {st : Store} {Q : VK} {X : Cx}

/-! ### items -/
theorem ixn_eq (n : Nat) (i : Int) : ixn n i = L2.ixN n i := rfl
theorem at_rd {ds : List D} {vs : List V} {i : Int} {d : D} (r : RDs K Z H ρ ds vs) (h : at? ds i = some d) : ∃ v, L2.atI vs i = some v ∧ RD K Z H ρ d v := by
  unfold at? at h
  split at h
  · rename_i j hj
    obtain ⟨v, h1, h2⟩ := r.get h
    refine ⟨v, ?_, h2⟩
    unfold L2.atI
    rw [← r.length, ← ixn_eq, hj]
    exact h1
  · cases h
theorem at_nat {xs : List Nat} {i : Int} {c : Nat} (h : at? xs i = some c) : L2.atI xs i = some c := by
  unfold at? at h
  unfold L2.atI
  rw [← ixn_eq]
  cases hj : ixn xs.length i with
  | none => rw [hj] at h; cases h
  | some j => rw [hj] at h; exact h
theorem mem_at {xs : List Nat} {i : Int} {c : Nat} (h : at? xs i = some c) : c ∈ xs := by
  unfold at? at h
  split at h
  · exact List.mem_of_getElem? h
  · cases h
theorem ix_some (hu : X.A.units + 100 < cLine) {value slice : Expr} {pins : List (Addr × Obj)} {s : Shared} {σ : L2.St} {x y : V} {v u : Value} {d e : D} (I : Inv X pins σ H s) (rx : RelV x v) (ry : RelV y u)
    (hs : subscripted slice false v u = operate [v, u] (getItem v u)) (S : Sim X.K Z B st H ρ) (hd : RD X.K Z H ρ d x) (he : RD X.K Z H ρ e y) (q : Fin X.K Z B W H ρ (ixS d e st) Q) : wpAny (model X.prog X.w) X.A (subscriptTail value slice v u) (EP X pins σ Q) X.xe s := by
  unfold ixS at q
  cases hc : dctOf st d with
  | some p =>
    obtain ⟨t, kvs⟩ := p
    rw [hc] at q
    obtain ⟨hk, q⟩ := fin_if q
    obtain ⟨a, o, rfl, g, ho⟩ := dct_get S hd hc he hk
    obtain rfl : v = Value.ref a := rx
    obtain ⟨z, hz, q⟩ := Fin.of (d := .non) q
    rcases ho with ⟨h1, _⟩ | ⟨w, v', h1, h2, h3⟩
    · have h1 : dfind e kvs = none := h1
      have hz : dfind e kvs = some z := hz
      rw [h1] at hz; cases hz
    · have hz : dfind e kvs = some z := hz
      rw [h1] at hz; cases hz
      subst h2
      exact tail_any (ops := [Value.ref a, u]) (dict_typeIs I g) PySem.F.slot_dict_getitem.lookup (d_getItem (by omega) I g ry fun w' s' I' rw' => ⟨v', H, I', rw', Fin.here S h3 q⟩) hs
  | none =>
    rw [hc] at q
    cases e with
    | int n =>
      simp only at q
      cases hq : seqOf st d with
      | none => rw [hq] at q; exact q.elim
      | some xs =>
        rw [hq] at q
        obtain ⟨z, hz, q⟩ := Fin.of (d := .non) q
        obtain ⟨a, vs, rfl, h1, h2⟩ := seqOf_rd S hd hq
        obtain ⟨w, h3, h4⟩ := at_rd h2 hz
        cases he
        refine ix_seq value slice pins s σ H _ _ v u Q I rx ry ?_ hs
        rcases h1 with h1 | h1
        · exact .inl ⟨a, vs, n, w, rfl, rfl, h1, h3, Fin.here S h4 q⟩
        · exact .inr (.inl ⟨a, vs, n, w, rfl, rfl, h1, h3, Fin.here S h4 q⟩)
    | _ => exact q.elim
theorem ix_all (hK : X.K = K) (hu : X.A.units + 100 < cLine) : IxR X (rOp K Z B W ixD) := by
  intro value slice pins s σ H x y v u Q I rx ry h hs
  obtain ⟨st, ρ, d, e, S, hd, he, h⟩ := h
  subst hK
  cases d with
  | str t =>
    cases e with
    | int n =>
      have h2 : Fin X.K Z B W H ρ (if t.length ≤ LINE then Res.of ((at? t n).map fun c => .str [c]) st else .bad) Q := h
      obtain ⟨hl, h2⟩ := fin_if h2
      obtain ⟨c, hc, q⟩ := Fin.map h2
      cases hd with
      | str _ ok =>
      cases he
      refine ix_str value slice pins s σ H _ _ v u Q I rx ry ⟨_, n, c, rfl, rfl, ?_, at_nat (by simpa using hc), Fin.here S (.str [c] fun z hz => ?_) q⟩ hs
      · have := line_le
        simp only [Str.length, List.size_toArray]; omega
      · rw [List.mem_singleton] at hz
        rw [hz]
        exact ok c (mem_at hc)
    | _ => exact h.elim
  | _ => exact ix_some hu I rx ry hs S hd he h

/-! ### slices -/
theorem six_eq (n d : Nat) (o : Option Int) : six n d o = HT.sIx n d o := by
  cases o <;> rfl
theorem RDs.cut {ds : List D} {vs : List V} (r : RDs K Z H ρ ds vs) (lo hi : Option Int) : RDs K Z H ρ (cut ds lo hi) (L2.cutV vs lo hi) := by
  unfold MP.cut L2.cutV
  rw [← r.length, six_eq, six_eq]
  exact (r.drop _).take _
theorem cut_whole {α : Type} {xs : List α} {lo hi : Option Int} (h1 : six xs.length 0 lo = 0) (h2 : six xs.length xs.length hi = xs.length) : cut xs lo hi = xs := by
  unfold cut
  rw [h1, h2, List.drop_zero, Nat.sub_zero, List.take_length]
def rSl (K : PySem.W.Frag) (Z : Ad) (B : List Nat) (W : XK) (m : Bool) : V → Option Int → Option Int → Hp → VK → Prop := fun x lo hi H Q => ∃ st ρ d, Sim K Z B st H ρ ∧ RD K Z H ρ d x ∧ Fin K Z B W H ρ (slD m d lo hi st) Q
theorem cut_mem {α : Type} {xs : List α} {lo hi : Option Int} {x : α} (h : x ∈ cut xs lo hi) : x ∈ xs := List.mem_of_mem_drop (List.mem_of_mem_take h)
theorem sl_some {pins : List (Addr × Obj)} {s : Shared} {σ : L2.St} {x : V} {v vl vu : Value} {lo hi : Option Int} {sl : Addr} {d : D} {m : Bool} (I : Inv X pins σ H s) (rx : RelV x v) (hs : s.heap.IsSliceOf sl vl vu .none) (pl : IsPart vl lo) (pu : IsPart vu hi)
    (S : Sim X.K Z B st H ρ) (hd : RD X.K Z H ρ d x) (q : Fin X.K Z B W H ρ (slS m d lo hi st) Q) : ∃ T id, typeLookup (.type T) "__getitem__" = pure (some (.builtin id)) ∧ s.TypeIs v T ∧ wpAny (model X.prog X.w) X.A (getItem v (.ref sl)) (EP X pins σ Q) X.xe s := by
  unfold slS at q
  cases hl : lstOf st d with
  | none => rw [hl] at q; exact q.elim
  | some xs =>
    rw [hl] at q
    obtain ⟨a, vs, rfl, h1, h2⟩ := lstOf_rd S hd hl
    exact sl_list pins s σ H _ v vl vu lo hi sl Q I rx hs pl pu ⟨a, vs, rfl, .inl h1, fun p hp => Fin.newL S hp (h2.cut lo hi) q⟩
theorem sl_all (hK : X.K = K) (m : Bool) : SlR X (rSl K Z B W m) := by
  intro pins s σ H x v vl vu lo hi sl Q I rx hs pl pu h
  obtain ⟨st, ρ, d, S, hd, h⟩ := h
  subst hK
  cases d with
  | str t =>
    have h2 : Fin X.K Z B W H ρ (if t.length ≤ LINE then .ok (.str (cut t lo hi)) st else .bad) Q := h
    obtain ⟨hl, h2⟩ := fin_if h2
    cases hd with
    | str _ ok =>
    refine sl_str pins s σ H _ v vl vu lo hi sl Q I rx hs pl pu ⟨_, rfl, ?_, ?_⟩
    · have := line_le
      simp only [Str.length, List.size_toArray]; omega
    · have e : cutS (⟨t.toArray⟩ : Str) lo hi = ⟨(cut t lo hi).toArray⟩ := by
        unfold cutS MP.cut
        simp only [Str.length, List.size_toArray, six_eq]
      rw [e]
      exact Fin.here S (.str _ fun c hc => ok c (cut_mem hc)) h2
  | tup xs =>
    have h2 : Fin X.K Z B W H ρ (.ok (.tup (cut xs lo hi)) st) Q := h
    cases hd with
    | tup t r =>
      refine sl_tupA pins s σ H _ v vl vu lo hi sl Q I rx hs pl pu ⟨_, _, rfl, t.sq, fun hw => ?_, fun _ p hp => Fin.newT S hp (r.cut lo hi) h2⟩
      rw [← r.length] at hw
      rw [cut_whole (by rw [six_eq]; exact hw.1) (by rw [six_eq]; exact hw.2)] at h2
      exact Fin.here S (.tup t r) h2
  | con xs =>
    have h2 : Fin X.K Z B W H ρ (if six xs.length 0 lo = 0 ∧ six xs.length xs.length hi = xs.length then .ok (.con xs) st else .ok (.tup (cut xs lo hi)) st) Q := h
    cases hd with
    | con t r =>
      refine sl_tupA pins s σ H _ v vl vu lo hi sl Q I rx hs pl pu ⟨_, _, rfl, t.sq, fun hw => ?_, fun hw p hp => ?_⟩
      · rw [← r.length, ← six_eq, ← six_eq] at hw
        rw [if_pos hw] at h2
        exact Fin.here S (.con t r) h2
      · rw [← r.length, ← six_eq, ← six_eq] at hw
        rw [if_neg hw] at h2
        exact Fin.newT S hp (r.cut lo hi) h2
  | lst xs => exact sl_some I rx hs pl pu S hd h
  | loc k => exact sl_some I rx hs pl pu S hd h
  | _ => exact h.elim

/-! ### x[i] = d -/
/-- a list's or a dict's item set -/
def rSet (K : PySem.W.Frag) (Z : Ad) (B : List Nat) (b : Nat) : V → V → V → Hp → (Hp → Prop) → Prop := fun o i v H Q => ∃ st ρ x j d, Sim K Z (b :: B) st H ρ ∧ RD K Z H ρ x o ∧ RD K Z H ρ j i ∧ RD K Z H ρ d v ∧
  ∃ st', putD b x j d st = some st' ∧ ∀ H' ρ', Ext H ρ H' ρ' → Sim K Z (b :: B) st' H' ρ' → Q H'
/-- Sim's list of running calls: b is the newest -/
def Top (b : Nat) (B : List Nat) : Prop := ∀ c ∈ B, c ≤ b
theorem stput_some {b k : Nat} {o : Ob} {d : D} {st' : Store} (h : stput b k o d st = some st') : st' = sput st k o ∧ (b ≤ k ∨ Und k d) := by
  unfold stput at h
  split at h
  · rename_i hc
    cases h
    exact ⟨rfl, hc.imp id (under_und DEEP d)⟩
  · cases h
theorem sget_wf (S : Sim K Z B st H ρ) {b k : Nat} {o : Ob} (hb : b ∈ B) (hk : k < b) (e : sget st k = some o) : UndO b o := (S.wf b hb).2 k o hk e
theorem Unds.mono {b c : Nat} (hb : b ≤ c) {ds : List D} (h : Unds b ds) : Unds c ds := Unds.of fun d hd => (h.mem hd).mono hb
theorem Unds.set {b : Nat} {ds : List D} {d : D} (h : Unds b ds) (hd : Und b d) (i : Nat) : Unds b (ds.set i d) := Unds.of fun e he => by
  rcases List.mem_or_eq_of_mem_set he with h1 | h1
  · exact h.mem h1
  · rw [h1]; exact hd
theorem Unds.snoc {b : Nat} {ds : List D} {d : D} (h : Unds b ds) (hd : Und b d) : Unds b (ds ++ [d]) := Unds.of fun e he => by
  rcases List.mem_append.mp he with h1 | h1
  · exact h.mem h1
  · rw [List.mem_singleton] at h1; rw [h1]; exact hd
/-- the wf of a write -/
theorem wf_put {b k : Nat} {d : D} {o o' : Ob} (S : Sim K Z (b :: B) st H ρ) (hT : Top b B) (e : sget st k = some o) (hd : b ≤ k ∨ Und k d) (ho : ∀ c, k < c → UndO c o → Und c d → UndO c o') : ∀ c ∈ b :: B, k < c → UndO c o' := fun c hc hk => by
  have h1 := sget_wf S hc hk e
  have hcb : c ≤ b := by
    rcases List.mem_cons.mp hc with e | hc
    · rw [e]; exact Nat.le_refl _
    · exact hT c hc
  rcases hd with hd | hd
  · omega
  · exact ho c hk h1 (hd.mono (by omega))
theorem dput_und {t : Bool} {c : Nat} {key v : D} {kvs : List (D × D)} (h : UndO c (.dct t kvs)) (hk : Und c key) (hv : Und c v) : UndO c (.dct t (dput key v kvs)) := by
  obtain ⟨h1, h2⟩ := h
  unfold dput
  split
  · refine ⟨Unds.of fun d hd => ?_, Unds.of fun d hd => ?_⟩
    · obtain ⟨p, hp, rfl⟩ := List.mem_map.mp hd
      obtain ⟨q, hq, rfl⟩ := List.mem_map.mp hp
      split <;> (show Und c q.1; exact h1.mem (List.mem_map_of_mem (f := fun p : D × D => p.1) hq))
    · obtain ⟨p, hp, rfl⟩ := List.mem_map.mp hd
      obtain ⟨q, hq, rfl⟩ := List.mem_map.mp hp
      split
      · exact hv
      · exact h2.mem (List.mem_map_of_mem (f := fun p : D × D => p.2) hq)
  · refine ⟨?_, ?_⟩
    · rw [List.map_append]; exact h1.snoc hk
    · rw [List.map_append]; exact h2.snoc hv
theorem key_und {t : Bool} {key : D} (h : isKey t key = true) (c : Nat) : Und c key := by
  cases key with
  | int i => exact .int i
  | str x => exact .str x
  | tup xs =>
    refine .tup (Unds.of fun d hd => ?_)
    have h2 : (t && xs.all keyPart) = true := h
    rw [Bool.and_eq_true] at h2
    have := List.all_eq_true.mp h2.2 d hd
    cases d <;> first | exact .int _ | exact .str _ | cases this
  | _ => simp [isKey] at h
theorem set_all (hK : X.K = K) (hu : X.A.units + 100 < cLine) {b : Nat} (hT : Top b B) : PSet X (rSet K Z B b) := by
  intro pins s σ H o i v ov iv u Q I ro ri rv h
  obtain ⟨st, ρ, x, j, d, S, rx, rj, rd, st', hset, q⟩ := h
  subst hK
  cases x with
  | loc k =>
    have hs : (match sget st k with
      | some (.lst xs) => putL b k xs j d st
      | some (.dct t kvs) => if isKey t j = true ∧ kvs.length < LINE then stput b k (.dct t (dput j d kvs)) d st else none
      | _ => none) = some st' := hset
    split at hs
    · rename_i xs hk
      obtain ⟨n, rfl⟩ : ∃ n, j = .int n := by
        cases j <;> first | exact ⟨_, rfl⟩ | cases hs
      have hs : (match ixn xs.length n with
        | some j => stput b k (.lst (xs.set j d)) d st
        | none => none) = some st' := hs
      split at hs
      · rename_i m hm
        obtain ⟨rfl, hd⟩ := stput_some hs
        obtain ⟨a, vs, rfl, h1, h2, h3⟩ := loc_lst S rx hk
        cases rj
        have hl := h3.length
        refine set_list pins s σ H _ _ v ov iv u Q I ro ri rv ⟨a, vs, n, m, rfl, rfl, h2, by rw [← hl, ← ixn_eq]; exact hm, ?_⟩
        exact q _ ρ (Ext.write ⟨k, h1⟩) (S.write h1 (.lst upd_same ((h3.set rd m).ext (Ext.write ⟨k, h1⟩))) (wf_put S hT hk hd fun c _ z1 z2 => Unds.set z1 z2 m))
      · cases hs
    · rename_i t kvs hk
      split at hs
      · rename_i hc
        obtain ⟨rfl, hd⟩ := stput_some hs
        obtain ⟨k2, a, e1, rfl, h1, h2, h3⟩ := dct_at S rx (t := t) (kvs := kvs) (by show (match sget st k with | some (.dct t kvs) => some (t, kvs) | _ => none) = _; rw [hk])
        cases e1
        have hw := wf_put (o' := .dct t (dput j d kvs)) S hT hk hd fun c _ z1 z2 => dput_und z1 (key_und hc.1 c) z2
        have hz := line_le
        rcases h3 with ⟨rfl, m, g1, g2⟩ | ⟨rfl, m, g1, g2⟩
        · obtain ⟨ky, k1, rfl⟩ := key_k rj hc.1
          refine set_dict (by omega) pins s σ H _ _ v ov iv u Q I ro ri rv ⟨a, _, rfl, DPut.k g1 (by rw [← g2.length]; omega), ?_⟩
          exact q _ ρ (Ext.write ⟨k, h2⟩) (S.write h2 (.dK upd_same ((g2.put (fun _ _ _ _ => eqd_key) k1 rd).ext (Ext.write ⟨k, h2⟩))) hw)
        · obtain ⟨ky, b', k1, rfl, k3⟩ := key_t rj hc.1
          refine set_dict (by omega) pins s σ H _ _ v ov iv u Q I ro ri rv ⟨a, _, rfl, DPut.t g1 k3 (by rw [← g2.length]; omega), ?_⟩
          exact q _ ρ (Ext.write ⟨k, h2⟩) (S.write h2 (.dT upd_same ((g2.put (fun _ _ _ _ => eqd_keyT) k1 rd).ext (Ext.write ⟨k, h2⟩))) hw)
      · cases hs
    · cases hs
  | _ => cases hset

/-! ### methods -/
def rMt (K : PySem.W.Frag) (Z : Ad) (B : List Nat) (W : XK) (f : D → List D → Store → Res D) : V → List V → Hp → VK → Prop := fun x xs H Q => ∃ st ρ d ds, Sim K Z B st H ρ ∧ RD K Z H ρ d x ∧ RDs K Z H ρ ds xs ∧ Fin K Z B W H ρ (f d ds st) Q
def bmN : Bm → String × String × String
  | .append => ("list", "append", "list.append")
  | .extend => ("list", "extend", "list.extend")
  | .pop => ("list", "pop", "list.pop")
  | .popAt => ("list", "pop", "list.pop")
  | .index => ("list", "index", "list.index")
  | .sindex => ("str", "index", "str.index")
  | .join => ("str", "join", "str.join")
  | .split => ("str", "split", "str.split")
  | .get => ("dict", "get", "dict.get")
  | .setdefault => ("dict", "setdefault", "dict.setdefault")
  | .sfind => ("str", "find", "str.find")
theorem zero_of {ds : List D} {vs : List V} (r : RDs K Z H ρ ds vs) (e : ds = []) : vs = [] := by subst e; cases r; rfl
theorem mo_append (hK : X.K = K) {b : Nat} (hT : Top b B) (m : Bool) : MtR X "list.append" (rMt K Z (b :: B) W (bmeth b .append m)) := by
  intro pins s σ H x xs v us Q I rx rxs h
  obtain ⟨st, ρ, d, ds, S, rd, rds, q⟩ := h
  subst hK
  match d, ds, rd, rds, q with
  | .loc k, [e], rd, rds, q =>
    obtain ⟨y, rfl, ry⟩ := one_of rds rfl
    have q : Fin X.K Z (b :: B) W H ρ (match sget st k with
      | some (.lst xs) => if xs.length < LINE then (match stput b k (.lst (xs ++ [e])) e st with
        | some st' => .ok .non st'
        | none => .bad) else .bad
      | _ => .bad) Q := q
    split at q
    · rename_i xs hk
      obtain ⟨hl, q⟩ := fin_if q
      split at q
      · rename_i st' hst
        obtain ⟨rfl, hd⟩ := stput_some hst
        obtain ⟨a, vs, rfl, h1, h2, h3⟩ := loc_lst S rd hk
        have hz := line_le
        refine mt_append pins s σ H _ _ v us Q I rx rxs ⟨a, vs, y, rfl, rfl, h2, by rw [← h3.length]; omega, ?_⟩
        exact q _ _ ρ (Ext.write ⟨k, h1⟩) (S.write h1 (.lst upd_same ((h3.append (.cons ry .nil)).ext (Ext.write ⟨k, h1⟩))) (wf_put S hT hk hd fun c _ z1 z2 => Unds.snoc z1 z2)) .non
      · exact q.elim
    · exact q.elim
theorem mo_pop (hK : X.K = K) {b : Nat} (hT : Top b B) (m : Bool) : MtR X "list.pop" (rMt K Z (b :: B) W (bmeth b .pop m)) := by
  intro pins s σ H x xs v us Q I rx rxs h
  obtain ⟨st, ρ, d, ds, S, rd, rds, q⟩ := h
  subst hK
  match d, ds, rd, rds, q with
  | .loc k, [], rd, rds, q =>
    have e := zero_of rds rfl
    subst e
    have q : Fin X.K Z (b :: B) W H ρ (match sget st k with
      | some (.lst xs) => (match xs.getLast? with
        | some d => .ok d (sput st k (.lst xs.dropLast))
        | none => .bad)
      | _ => .bad) Q := q
    split at q
    · rename_i xs hk
      split at q
      · rename_i e he
        obtain ⟨a, vs, rfl, h1, h2, h3⟩ := loc_lst S rd hk
        rw [List.getLast?_eq_getElem?] at he
        obtain ⟨w, h4, h5⟩ := h3.get he
        refine mt_pop pins s σ H _ _ v us Q I rx rxs ⟨a, vs, w, rfl, rfl, h2, by rw [← h3.length]; exact h4, ?_⟩
        refine q _ _ ρ (Ext.write ⟨k, h1⟩) (S.write h1 (.lst upd_same (h3.dropLast.ext (Ext.write ⟨k, h1⟩))) fun c hc hk2 => ?_) (h5.ext (Ext.write ⟨k, h1⟩))
        have := sget_wf S hc hk2 hk
        exact Unds.of fun d hd => Unds.mem this ((List.dropLast_sublist _).subset hd)
      · exact q.elim
    · exact q.elim
theorem RDs.erase : ∀ {ds : List D} {vs : List V}, RDs K Z H ρ ds vs → ∀ i : Nat, RDs K Z H ρ (ds.eraseIdx i) (vs.eraseIdx i)
  | _, _, .nil, _ => .nil
  | _, _, .cons _ r, 0 => r
  | _, _, .cons h r, i + 1 => .cons h (RDs.erase r i)
theorem ixn_seq {n j : Nat} {i : Int} (h : ixn n i = some j) : seqIndex? i n = some j := by
  obtain ⟨h1, h2, h3, h4⟩ := L2.ixN_seq (n := n) (i := i) (j := j) (by rw [← ixn_eq]; exact h)
  first | exact h4 | exact h3 | exact h2 | exact h1
theorem mo_join (hK : X.K = K) (b : Nat) (m : Bool) : MtR X "str.join" (rMt K Z B W (bmeth b .join m)) := by
  intro pins s σ H x xs v us Q I rx rxs h
  obtain ⟨st, ρ, d, ds, S, rd, rds, q⟩ := h
  subst hK
  match d, ds, rd, rds, q with
  | .str a, [e], rd, rds, q =>
    obtain ⟨y, rfl, ry⟩ := one_of rds rfl
    have q : Fin X.K Z B W H ρ (match (seqOf st e).bind strsOf with
      | some ts => if sumLen ts + ts.length * (a.length + 1) ≤ LINE then .ok (.str (joinC a ts)) st else .bad
      | none => .bad) Q := q
    split at q
    · rename_i ts ht
      obtain ⟨hl, q⟩ := fin_if q
      cases hs : seqOf st e with
      | none => rw [hs] at ht; cases ht
      | some es =>
        rw [hs] at ht
        have ht : strsOf es = some ts := ht
        obtain ⟨p, vs, rfl, h1, h2⟩ := seqOf_rd S ry hs
        obtain ⟨rfl, hok⟩ := strs_rd h2 ht
        cases rd with
        | str _ oka =>
        refine mt_join pins s σ H _ _ v us Q I rx rxs ⟨_, p, ts.map fun x => (⟨x.toArray⟩ : Str), rfl, rfl, h1, ?_, ?_⟩
        · rw [sumLen_eq, List.length_map]
          have e1 : (⟨a.toArray⟩ : Str).length = a.length := by simp [Str.length]
          rw [e1]
          have e2 : LINE = 1000000 := rfl
          have e3 : ts.length * a.length ≤ ts.length * (a.length + 1) := Nat.mul_le_mul_left _ (by omega)
          omega
        · rw [joinC_txt]
          exact Fin.here S (.str _ (joinC_ok oka hok)) q
    · exact q.elim
theorem mo_split (hK : X.K = K) (b : Nat) (m : Bool) : MtR X "str.split" (rMt K Z B W (bmeth b .split m)) := by
  intro pins s σ H x xs v us Q I rx rxs h
  obtain ⟨st, ρ, d, ds, S, rd, rds, q⟩ := h
  subst hK
  match d, ds, rd, rds, q with
  | .str a, [.str [c]], rd, rds, q =>
    obtain ⟨y, rfl, ry⟩ := one_of rds rfl
    have q : Fin X.K Z B W H ρ (if a.length + 2 ≤ LINE ∧ c < 256 then newL m ((splitC c [] a).map .str) st else .bad) Q := q
    obtain ⟨hl, q⟩ := fin_if q
    cases rd with
    | str _ oka =>
    cases ry with
    | str _ okc =>
    have hz := line_le
    refine mt_split pins s σ H _ _ v us Q I rx rxs ⟨_, _, rfl, rfl, by simp [Str.length], by simp only [Str.length, List.size_toArray]; omega, fun p hp => ?_⟩
    rw [split_txt a c hl.2]
    refine Fin.newL S hp ?_ q
    have rows : ∀ l : List (List Nat), (∀ p ∈ l, okS p) → RDs X.K Z H ρ (l.map .str) ((l.map fun p => (⟨p.toArray⟩ : Str)).map V.str) := by
      intro l
      induction l with
      | nil => intro _; exact .nil
      | cons z l ih => intro hl; exact .cons (.str _ (hl z List.mem_cons_self)) (ih fun p hp => hl p (List.mem_cons_of_mem _ hp))
    exact rows _ (splitC_ok c a [] oka fun z hz => by cases hz)
theorem mo_sindex (b : Nat) (m : Bool) : MtR X "str.index" (rMt K Z B W (bmeth b .sindex m)) := by
  intro pins s σ H x xs v us Q I rx rxs h
  obtain ⟨st, ρ, d, ds, S, rd, rds, q⟩ := h
  match d, ds, rd, rds, q with
  | .str a, [.str [c]], rd, rds, q =>
    obtain ⟨y, rfl, ry⟩ := one_of rds rfl
    have q : Fin K Z B W H ρ (match findSign c 0 a with
      | some i => .ok (.int (i : Nat)) st
      | none => .bad) Q := q
    split at q
    · rename_i i hi
      cases rd
      cases ry
      refine mt_sindex pins s σ H _ _ v us Q I rx rxs ⟨_, _, i, [], rfl, rfl, ?_, Fin.here S (.int _) q⟩
      rw [occ_first, hi]
      rfl
    · exact q.elim
theorem mo_sfind (b : Nat) (m : Bool) : MtR X "str.find" (rMt K Z B W (bmeth b .sfind m)) := by
  intro pins s σ H x xs v us Q I rx rxs h
  obtain ⟨st, ρ, d, ds, S, rd, rds, q⟩ := h
  match d, ds, rd, rds, q with
  | .str a, [.str [c]], rd, rds, q =>
    obtain ⟨y, rfl, ry⟩ := one_of rds rfl
    have q : Fin K Z B W H ρ (match findSign c 0 a with
      | some i => .ok (.int (i : Nat)) st
      | none => .ok (.int (-1)) st) Q := q
    cases rd
    cases ry
    have e : Txt.find (⟨a.toArray⟩ : Str) ⟨[c].toArray⟩ = match findSign c 0 a with
      | some i => ((i : Nat) : Int)
      | none => -1 := by
      unfold Txt.find
      rw [occ_first]
      cases findSign c 0 a <;> rfl
    refine mt_find pins s σ H _ _ v us Q I rx rxs ⟨_, _, rfl, rfl, ?_⟩
    rw [e]
    split at q
    · exact Fin.here S (.int _) q
    · exact Fin.here S (.int _) q
theorem findIx_spec (p : D → Bool) : ∀ (l : List D) (a i : Nat), findIx p a l = some i → a ≤ i ∧ (∃ z, l[i - a]? = some z ∧ p z = true) ∧ ∀ j z, j < i - a → l[j]? = some z → p z = false
  | [], a, i, h => by cases h
  | x :: r, a, i, h => by
    have h2 : (if p x then some a else findIx p (a + 1) r) = some i := h
    by_cases hx : p x = true
    · rw [if_pos hx] at h2
      cases h2
      exact ⟨Nat.le_refl _, ⟨x, by simp, hx⟩, fun j z hj => by omega⟩
    · rw [if_neg hx] at h2
      obtain ⟨h3, ⟨z, h4, h5⟩, h6⟩ := findIx_spec p r (a + 1) i h2
      have e : i - a = (i - (a + 1)) + 1 := by omega
      refine ⟨by omega, ⟨z, by rw [e]; simpa using h4, h5⟩, fun j y hj hy => ?_⟩
      cases j with
      | zero =>
        simp at hy; subst hy
        cases hpx : p x with
        | false => rfl
        | true => exact absurd hpx hx
      | succ j => exact h6 j y (by omega) (by simpa using hy)
theorem mo_index (hK : X.K = K) (hu : X.A.units + 100 < cLine) (b : Nat) (m : Bool) : MtR X "list.index" (rMt K Z B W (bmeth b .index m)) := by
  intro pins s σ H x xs v us Q I rx rxs h
  obtain ⟨st, ρ, d, ds, S, rd, rds, q⟩ := h
  subst hK
  match d, ds, rd, rds, q with
  | d, [e], rd, rds, q =>
    obtain ⟨y, rfl, ry⟩ := one_of rds rfl
    have q : Fin X.K Z B W H ρ (match lstOf st d, deref st DEEP e with
      | some xs, some d => (match mapO (deref st DEEP) xs with
        | some ds => (match findIx (fun z => eqd DEEP z d) 0 ds with
          | some i => .ok (.int (i : Nat)) st
          | none => .bad)
        | none => .bad)
      | _, _ => .bad) Q := by
      cases d <;> exact q
    split at q
    · rename_i xs' e' h1 h2
      split at q
      · rename_i ds' h3
        split at q
        · rename_i i hi
          obtain ⟨a, vs, rfl, g1, g2⟩ := lstOf_rd S rd h1
          obtain ⟨_, ⟨z, hz, hzp⟩, hno⟩ := findIx_spec _ ds' 0 i hi
          rw [Nat.sub_zero] at hz hno
          obtain ⟨c1, c2⟩ := deref_shaped S h2 ry
          have hxs : seqOf st d = some xs' := by
            cases d <;> first | exact h1 | cases h1
          have hdf : deref st (DEEP + 1) d = some (.lst ds') := by
            cases d with
            | lst l => cases h1; show (mapO (deref st DEEP) xs').map D.lst = _; rw [h3]; rfl
            | loc k =>
              show (match sget st k with
                | some (.lst xs) => (mapO (deref st DEEP) xs).map D.lst
                | _ => none) = _
              have h1 : (match sget st k with
                | some (.lst xs) => some xs
                | _ => none) = some xs' := h1
              split at h1
              · cases h1
                show (mapO (deref st DEEP) xs').map D.lst = _
                rw [h3]; rfl
              · cases h1
            | _ => cases h1
          obtain ⟨l1, l2, l3⟩ := deref_dp S (DEEP + 1) d _ _ hdf rd
          have hfl := mapO_flat (deref_flat (st := st) DEEP) h3
          have hfe := deref_flat _ _ _ h2
          refine mt_indexD (by omega) pins s σ H _ _ v us Q I rx rxs ⟨a, y, pyd DEEP e', ds'.map (pyd DEEP), i, pyd DEEP z, rfl, rfl, l1, c1, ?_, c2, by rw [List.getElem?_map, hz]; rfl, ?_, fun k z' hk hz' => ?_, Fin.here S (.int _) q⟩
          · unfold SeqAt.shaped
            have l2 : (PyData.list (ds'.map (pyd DEEP))).canLay0 = true := l2
            have l3 : (PyData.list (ds'.map (pyd DEEP))).depth ≤ DEEP + 1 := l3
            rw [l2, Bool.true_and]
            exact decide_eq_true (Nat.le_trans l3 (by decide))
          · rw [eqd_eqv DEEP z e' (List.all_eq_true.mp hfl z (List.mem_of_getElem? hz)) hfe]
            exact hzp
          · rw [List.getElem?_map] at hz'
            obtain ⟨z0, hz0, rfl⟩ := Option.map_eq_some_iff.mp hz'
            rw [eqd_eqv DEEP z0 e' (List.all_eq_true.mp hfl z0 (List.mem_of_getElem? hz0)) hfe]
            exact hno k z0 hk hz0
        · exact q.elim
      · exact q.elim
    · exact q.elim
end
end MP

set_option autoImplicit false
set_option linter.all false
set_option maxRecDepth 100000
/-! Mp8: results in a row; what is walked. -/
namespace MP
open PySem PySem.Spec PyProof.Rows L2

section
variable (K : PySem.W.Frag) (Z : Ad) (B : List Nat)
/-- what a result must bring, for any kind of result -/
def FinG {α : Type} (W : XK) (H : Hp) (ρ : Rho) (r : Res α) (T : α → Store → Hp → Rho → Prop) : Prop := match r with
  | .ok a st => ∀ H' ρ', Ext H ρ H' ρ' → Sim K Z B st H' ρ' → T a st H' ρ'
  | .exc x st => ∀ c dx H' ρ', Ext H ρ H' ρ' → Sim K Z B st H' ρ' → RX K Z H' ρ' x c dx → W c dx H'
  | .bad => False
/-- what is being handled: its class, word and place; where it stands, its class, its dict -/
abbrev Cux := Option ((Nat × D × D) × (Addr × Addr × Addr) × Option Nat)
/-- how it lies -/
def CurR (cx : Cux) (H : Hp) (ρ : Rho) : Prop := ∀ c w p a C d i, cx = some ((c, w, p), (a, C, d), i) → ∃ (fs : List (Str × V)) (vw vp : V), Z.cls c = some C ∧ H d = some (.xd fs) ∧ Nm Z ρ d ∧ fs.lookup ("word" : Str) = some vw ∧ fs.lookup ("place" : Str) = some vp ∧ RD K Z H ρ w vw ∧ RD K Z H ρ p vp
/-- the names' values -/
structure EnvR (cx : Cux) (H : Hp) (ρ : Rho) (env : Env) (σ : L2.St) : Prop where
  len : env.length = σ.length
  val : ∀ (i : Nat) (d : D), env[i]? = some (some d) → ∃ v, σ[i]? = some (some v) ∧ RD K Z H ρ d v
  cur : CurR K Z cx H ρ
  exn : ∀ c w p a C d i, cx = some ((c, w, p), (a, C, d), some i) → σ[i]? = some (some (.ref a))
end
section
variable {K : PySem.W.Frag} {Z : Ad} {B : List Nat} {W : XK} {H H' : Hp} {ρ ρ' : Rho} {st : Store} {Q : VK} {env : Env} {σ : L2.St} {cx : Cux}
theorem FinG.ext {α : Type} {r : Res α} {T : α → Store → Hp → Rho → Prop} (x : Ext H ρ H' ρ') (h : FinG K Z B W H ρ r T) : FinG K Z B W H' ρ' r T := by
  cases r with
  | ok d st => exact fun H2 ρ2 y => h H2 ρ2 (x.trans y)
  | exc e st => exact fun c dx H2 ρ2 y => h c dx H2 ρ2 (x.trans y)
  | bad => exact h
theorem FinG.imp {α : Type} {r : Res α} {T T' : α → Store → Hp → Rho → Prop} (h : FinG K Z B W H ρ r T) (k : ∀ a st H' ρ', Ext H ρ H' ρ' → Sim K Z B st H' ρ' → T a st H' ρ' → T' a st H' ρ') : FinG K Z B W H ρ r T' := by
  cases r with
  | ok d st => exact fun H2 ρ2 y S => k d st H2 ρ2 y S (h H2 ρ2 y S)
  | exc e st => exact h
  | bad => exact h
theorem Fin.g {r : Res D} (h : Fin K Z B W H ρ r Q) : FinG K Z B W H ρ r fun d _ H' ρ' => ∀ v, RD K Z H' ρ' d v → Q v H' := by
  cases r with
  | ok d st => exact fun H2 ρ2 y S v r => h v H2 ρ2 y S r
  | exc e st => exact h
  | bad => exact h
theorem FinG.fin {r : Res D} (h : FinG K Z B W H ρ r fun d _ H' ρ' => ∀ v, RD K Z H' ρ' d v → Q v H') : Fin K Z B W H ρ r Q := by
  cases r with
  | ok d st => exact fun v H2 ρ2 y S r => h H2 ρ2 y S v r
  | exc e st => exact h
  | bad => exact h
theorem FinG.bind {α β : Type} {r : Res α} {f : α → Store → Res β} {T : β → Store → Hp → Rho → Prop} (h : FinG K Z B W H ρ (r.then f) T) : FinG K Z B W H ρ r fun a st1 H1 ρ1 => FinG K Z B W H1 ρ1 (f a st1) T := by
  cases r with
  | ok d st => exact fun H2 ρ2 y S => FinG.ext y h
  | exc e st => exact h
  | bad => exact h
/-- one step in a row -/
theorem Fin.step {β : Type} {r : Res D} {f : D → Store → Res β} {T : β → Store → Hp → Rho → Prop} (h : FinG K Z B W H ρ (r.then f) T)
    (k : ∀ d st1 v H1 ρ1, Ext H ρ H1 ρ1 → Sim K Z B st1 H1 ρ1 → RD K Z H1 ρ1 d v → FinG K Z B W H1 ρ1 (f d st1) T → Q v H1) : Fin K Z B W H ρ r Q := by
  cases r with
  | ok d st => exact fun v H2 ρ2 y S r => k d st v H2 ρ2 y S r (FinG.ext y h)
  | exc e st => exact h
  | bad => exact h
theorem FinG.ok {α : Type} {a : α} {T : α → Store → Hp → Rho → Prop} (S : Sim K Z B st H ρ) (h : FinG K Z B W H ρ (.ok a st) T) : T a st H ρ := h H ρ (Ext.refl _ _) S
theorem FinG.of {α : Type} {o : Option α} {T : α → Store → Hp → Rho → Prop} (h : FinG K Z B W H ρ (Res.of o st) T) : ∃ a, o = some a ∧ FinG K Z B W H ρ (.ok a st) T := by
  cases o with
  | none => exact h.elim
  | some d => exact ⟨d, rfl, h⟩
theorem CurR.ext (x : Ext H ρ H' ρ') (h : CurR K Z cx H ρ) : CurR K Z cx H' ρ' := fun c w p a C d i e => by
  obtain ⟨fs, vw, vp, h1, h2, h3, h4, h5, h6, h7⟩ := h c w p a C d i e
  exact ⟨fs, vw, vp, h1, x.keep _ _ h2 h3.1, h3.ext x h2, h4, h5, h6.ext x, h7.ext x⟩
theorem CurR.none : CurR K Z none H ρ := fun c w p a C d i e => nomatch e
theorem EnvR.ext (x : Ext H ρ H' ρ') (h : EnvR K Z cx H ρ env σ) : EnvR K Z cx H' ρ' env σ := ⟨h.len, fun i d e => by
  obtain ⟨v, h1, h2⟩ := h.val i d e
  exact ⟨v, h1, h2.ext x⟩, h.cur.ext x, h.exn⟩
/-- the slot of what is handled -/
def cxI : Cux → Nat → Bool
  | some (_, _, some j), i => j != i
  | _, _ => true
theorem exn_set {σ : L2.St} {cx : Cux} {i : Nat} {o : Option V} (h : ∀ c w p a C d i, cx = some ((c, w, p), (a, C, d), some i) → σ[i]? = some (some (.ref a))) (hi : cxI cx i = true) : ∀ c w p a C d j, cx = some ((c, w, p), (a, C, d), some j) → (σ.set i o)[j]? = some (some (.ref a)) := fun c w p a C d j e => by
  subst e
  have : i ≠ j := fun z => by subst z; simp [cxI] at hi
  rw [List.getElem?_set_ne this]
  exact h c w p a C d j rfl
theorem EnvR.set {d : D} {v : V} (h : EnvR K Z cx H ρ env σ) (r : RD K Z H ρ d v) (i : Nat) (hi : cxI cx i = true) : EnvR K Z cx H ρ (env.set i (some d)) (σ.set i (some v)) := ⟨by simp [h.len], fun j e he => by
  by_cases hj : i = j
  · subst hj
    by_cases hi : i < env.length
    · rw [List.getElem?_set_self hi] at he
      cases he
      exact ⟨v, List.getElem?_set_self (by rw [← h.len]; exact hi), r⟩
    · rw [List.getElem?_eq_none (by simpa using hi)] at he
      cases he
  · rw [List.getElem?_set_ne hj] at he
    rw [List.getElem?_set_ne hj]
    exact h.val j e he, h.cur, exn_set h.exn hi⟩
theorem EnvR.unset (h : EnvR K Z cx H ρ env σ) (i : Nat) (o : Option V) (hi : cxI cx i = true) : EnvR K Z cx H ρ (env.set i none) (σ.set i o) := ⟨by simp [h.len], fun j e he => by
  by_cases hj : i = j
  · subst hj
    by_cases hi : i < env.length
    · rw [List.getElem?_set_self hi] at he
      cases he
    · rw [List.getElem?_eq_none (by simpa using hi)] at he
      cases he
  · rw [List.getElem?_set_ne hj] at he
    rw [List.getElem?_set_ne hj]
    exact h.val j e he, h.cur, exn_set h.exn hi⟩
theorem EnvR.cold (h : EnvR K Z cx H ρ env σ) : EnvR K Z Option.none H ρ env σ := ⟨h.len, h.val, CurR.none, fun c w p a C d i e => nomatch e⟩
theorem wipe_get {σ : L2.St} {vs : List Nat} {i : Nat} (hi : i ∉ vs) : (L2.wipe σ vs)[i]? = σ[i]? := by
  induction vs with
  | nil => rfl
  | cons v vs ih =>
    simp only [List.mem_cons, not_or] at hi
    unfold L2.wipe
    rw [List.getElem?_set_ne (Ne.symm hi.1)]
    exact ih hi.2
theorem wipeE_length (env : Env) : ∀ vs, (wipeE env vs).length = env.length
  | [] => rfl
  | v :: vs => by unfold wipeE; rw [List.length_set, wipeE_length env vs]
theorem wipeE_some {env : Env} {i : Nat} {d : D} : ∀ {vs : List Nat}, (wipeE env vs)[i]? = some (some d) → env[i]? = some (some d) ∧ i ∉ vs
  | [], h => ⟨h, by simp⟩
  | v :: vs, h => by
    unfold wipeE at h
    by_cases hi : v = i
    · subst hi
      by_cases hv : v < (wipeE env vs).length
      · rw [List.getElem?_set_self hv] at h; cases h
      · rw [List.getElem?_eq_none (by simpa using hv)] at h; cases h
    · rw [List.getElem?_set_ne hi] at h
      obtain ⟨h1, h2⟩ := wipeE_some h
      exact ⟨h1, by simp only [List.mem_cons, not_or]; exact ⟨fun e => hi e.symm, h2⟩⟩
theorem EnvR.wipe (h : EnvR K Z Option.none H ρ env σ) (vs : List Nat) : EnvR K Z Option.none H ρ (wipeE env vs) (L2.wipe σ vs) := ⟨by rw [wipeE_length, L2.wipe_length, h.len], fun i d e => by
  obtain ⟨h1, h2⟩ := wipeE_some e
  obtain ⟨v, h3, h4⟩ := h.val i d h1
  exact ⟨v, by rw [wipe_get h2]; exact h3, h4⟩, CurR.none, fun c w p a C d i e => nomatch e⟩

/-! ### what is walked -/
theorem same_eq : ∀ (n : Nat) (a b : D), unchanged.same n a b = true → a = b := by
  intro n
  induction n with
  | zero =>
    intro a b h
    cases a <;> cases b <;> simp only [unchanged.same, Bool.false_eq_true] at h <;> first
      | rfl
      | (simp at h; subst h; rfl)
  | succ n ih =>
    have rows : ∀ xs ys : List D, (xs.length == ys.length && (xs.zip ys).all fun p => unchanged.same n p.1 p.2) = true → xs = ys := by
      intro xs
      induction xs with
      | nil => intro ys h; cases ys <;> simp at h ⊢
      | cons x xs ihx =>
        intro ys h
        cases ys with
        | nil => simp at h
        | cons y ys =>
          simp only [List.length_cons, List.zip_cons_cons, List.all_cons, Bool.and_eq_true, beq_iff_eq] at h
          obtain ⟨h1, h2, h3⟩ := h
          rw [ih x y h2, ihx ys (by simp only [Bool.and_eq_true, beq_iff_eq]; exact ⟨by omega, h3⟩)]
    intro a b h
    cases a <;> cases b <;> simp only [unchanged.same, Bool.false_eq_true] at h <;> first
      | rfl
      | (rw [rows _ _ h])
      | (simp at h; subst h; rfl)
theorem unch_eq {st : Store} {k : Nat} {xs : List D} : ∀ {sr : Src}, unchanged st sr = true → (k, xs) ∈ sr → sget st k = some (.lst xs)
  | [], _, hm => by cases hm
  | (j, n) :: r, h, hm => by
    have h2 : ((match sget st j with
      | some (.lst ys) => ys.length == n.length && (ys.zip n).all (fun p => unchanged.same DEEP p.1 p.2)
      | _ => false) && unchanged st r) = true := h
    rw [Bool.and_eq_true] at h2
    rcases List.mem_cons.mp hm with e | hm
    · cases e
      have h3 := h2.1
      split at h3
      · rename_i ys hk
        have : ys = xs := by
          have := same_eq (DEEP + 1) (.lst ys) (.lst xs) h3
          injection this
        rw [hk, this]
      · cases h3
    · exact unch_eq h2.2 hm
/-- J walks the items -/
def Walks (K : PySem.W.Frag) (Z : Ad) (B : List Nat) (J : It) (ds : List D) (sr : Src) (H : Hp) (ρ : Rho) : Prop := ∀ l st H1 ρ1, RsOk Z H l → Ext H ρ H1 ρ1 → Sim K (Z.rsv l) B st H1 ρ1 → unchanged st sr = true → J.stop ds.length H1 ∧ ∀ i d, ds[i]? = some d → J.go i H1 ∧
  ∀ x H2, J.yld i H1 x H2 → ∃ ρ2, Ext H1 ρ1 H2 ρ2 ∧ Sim K (Z.rsv l) B st H2 ρ2 ∧ RD K (Z.rsv l) H2 ρ2 d x
/-- a sequence that is walked: it stands as it stood -/
theorem src_lst (S : Sim K Z B st H ρ) {d : D} {v : V} {ds : List D} (r : RD K Z H ρ d v) (e : lstOf st d = some ds) : ∃ a, v = .ref a ∧ ∀ l st1 H1 ρ1, RsOk Z H l → Ext H ρ H1 ρ1 → Sim K (Z.rsv l) B st1 H1 ρ1 → unchanged st1 (srcOf st d) = true → ∃ vs, Rd H1 a (.lst vs) ∧ RDs K (Z.rsv l) H1 ρ1 ds vs := by
  cases d with
  | lst xs =>
    cases e
    cases r with
    | lst h r => exact ⟨_, rfl, fun l st1 H1 ρ1 hr x S1 _ => ⟨_, (h.ext x).rd, r.extR hr x⟩⟩
  | loc k =>
    have e2 : (match sget st k with
      | some (.lst xs) => some xs
      | _ => none) = some ds := e
    split at e2
    · rename_i xs hk
      cases e2
      obtain ⟨a, vs, rfl, h1, h2, h3⟩ := loc_lst S r hk
      refine ⟨a, rfl, fun l st1 H1 ρ1 hr x S1 hu => ?_⟩
      have hs : srcOf st (.loc k) = [(k, ds)] := by
        show (match sget st k with
          | some (.lst xs) => [(k, xs)]
          | _ => []) = _
        rw [hk]
      rw [hs] at hu
      have hk1 := unch_eq hu (k := k) (xs := ds) List.mem_cons_self
      obtain ⟨a1, vs1, g1, g2, g3⟩ := S1.lst hk1
      have := x.old k (sget_lt h1) a1 g1
      rw [h1] at this
      cases this
      exact ⟨vs1, .inl g2, g3⟩
    · cases e2
  | _ => cases e
theorem src_tup {d : D} {v : V} {ds : List D} (r : RD K Z H ρ d v) (e : seqOf st d = some ds) (hn : lstOf st d = none) (hk : ∀ xs, d ≠ .kl xs) : ∃ a, v = .ref a ∧ ∀ l H1 ρ1, RsOk Z H l → Ext H ρ H1 ρ1 → ∃ vs, SqT K H1 a vs ∧ RDs K (Z.rsv l) H1 ρ1 ds vs := by
  cases d with
  | tup xs =>
    cases e
    cases r with
    | tup h r => exact ⟨_, rfl, fun l H1 ρ1 hr x => ⟨_, (h.ext x).sq, r.extR hr x⟩⟩
  | con xs =>
    cases e
    cases r with
    | con h r => exact ⟨_, rfl, fun l H1 ρ1 hr x => ⟨_, h.sq, r.extR hr x⟩⟩
  | kl xs => exact absurd rfl (hk xs)
  | lst xs => cases hn
  | loc k => have e : lstOf st (.loc k) = some ds := e; rw [hn] at e; cases e
  | _ => cases e
theorem src_kl {v : V} {ds : List D} (r : RD K Z H ρ (.kl ds) v) : ∃ a, v = .ref a ∧ ∀ l H1 ρ1, RsOk Z H l → Ext H ρ H1 ρ1 → ∃ vs, SqL K H1 a vs ∧ RDs K (Z.rsv l) H1 ρ1 ds vs := by
  cases r with
  | kl h r =>
    refine ⟨_, rfl, fun l H1 ρ1 hr x => ⟨_, ?_, r.extR hr x⟩⟩
    rcases h with ⟨o, h, hm⟩ | h
    · exact .inl (.inr ⟨o, x.keep _ _ h hm.1⟩)
    · exact Kz.sq (Z := Z) (ρ := ρ) (.inr h)
theorem walks_l {ds : List D} {sr : Src} {a : Addr} (h : ∀ l st1 H1 ρ1, RsOk Z H l → Ext H ρ H1 ρ1 → Sim K (Z.rsv l) B st1 H1 ρ1 → unchanged st1 sr = true → ∃ vs, SqL K H1 a vs ∧ RDs K (Z.rsv l) H1 ρ1 ds vs) : Walks K Z B (Itl K a) ds sr H ρ := fun l st1 H1 ρ1 hr x S1 hu => by
  obtain ⟨vs, h1, h2⟩ := h l st1 H1 ρ1 hr x S1 hu
  refine ⟨⟨vs, h1, by rw [h2.length]; exact Nat.le_refl _⟩, fun i d hd => ?_⟩
  obtain ⟨w, h3, h4⟩ := h2.get hd
  refine ⟨⟨vs, w, h1, h3⟩, fun y H2 ⟨e1, e2⟩ => ?_⟩
  subst e1
  have := e2 vs h1
  rw [h3] at this
  cases this
  exact ⟨ρ1, Ext.refl _ _, S1, h4⟩
theorem walks_t {ds : List D} {a : Addr} (h : ∀ l H1 ρ1, RsOk Z H l → Ext H ρ H1 ρ1 → ∃ vs, SqT K H1 a vs ∧ RDs K (Z.rsv l) H1 ρ1 ds vs) : Walks K Z B (Itt K a) ds [] H ρ := fun l st1 H1 ρ1 hr x S1 hu => by
  obtain ⟨vs, h1, h2⟩ := h l H1 ρ1 hr x
  refine ⟨⟨vs, h1, by rw [h2.length]; exact Nat.le_refl _⟩, fun i d hd => ?_⟩
  obtain ⟨w, h3, h4⟩ := h2.get hd
  refine ⟨⟨vs, w, h1, h3⟩, fun y H2 ⟨e1, e2⟩ => ?_⟩
  subst e1
  have := e2 vs h1
  rw [h3] at this
  cases this
  exact ⟨ρ1, Ext.refl _ _, S1, h4⟩
theorem pair_new {a b : D} {x y : V} {p : Addr} (S : Sim K Z B st H ρ) (hp : H p = none) (ra : RD K Z H ρ a x) (rb : RD K Z H ρ b y) : Ext H ρ (upd H p (.tup [x, y])) ρ ∧ Sim K Z B st (upd H p (.tup [x, y])) ρ ∧ RD K Z (upd H p (.tup [x, y])) ρ (.tup [a, b]) (.ref p) :=
  ⟨Ext.laid hp, S.laid hp, .tup ⟨upd_same, S.nm hp⟩ (.cons (ra.ext (Ext.laid hp)) (.cons (rb.ext (Ext.laid hp)) .nil))⟩
theorem enumL_get : ∀ (ds : List D) (a : Int) (i : Nat) (d : D), (enumL a ds)[i]? = some d → ∃ e, ds[i]? = some e ∧ d = .tup [.int (a + i), e]
  | [], a, i, d, h => by simp [enumL] at h
  | x :: r, a, 0, d, h => by
    simp [enumL] at h
    exact ⟨x, rfl, by rw [← h]; simp⟩
  | x :: r, a, i + 1, d, h => by
    obtain ⟨e, h1, h2⟩ := enumL_get r (a + 1) i d (by simpa [enumL] using h)
    refine ⟨e, by simpa using h1, ?_⟩
    rw [h2]
    congr 3
    omega
theorem enumL_length : ∀ (ds : List D) (a : Int), (enumL a ds).length = ds.length
  | [], _ => rfl
  | x :: r, a => congrArg Nat.succ (enumL_length r (a + 1))
theorem walks_e {ds : List D} {sr : Src} {a : Addr} (h : ∀ l st1 H1 ρ1, RsOk Z H l → Ext H ρ H1 ρ1 → Sim K (Z.rsv l) B st1 H1 ρ1 → unchanged st1 sr = true → ∃ vs, SqL K H1 a vs ∧ RDs K (Z.rsv l) H1 ρ1 ds vs) : Walks K Z B (Ite K a) (enumL 0 ds) sr H ρ := fun l st1 H1 ρ1 hr x S1 hu => by
  obtain ⟨vs, h1, h2⟩ := h l st1 H1 ρ1 hr x S1 hu
  refine ⟨⟨vs, h1, by rw [enumL_length, h2.length]; exact Nat.le_refl _⟩, fun i d hd => ?_⟩
  obtain ⟨e, he, rfl⟩ := enumL_get ds 0 i d hd
  obtain ⟨w, h3, h4⟩ := h2.get he
  refine ⟨⟨vs, w, h1, h3⟩, fun y H2 ⟨T, z, ey, hT, e1, e2⟩ => ?_⟩
  subst e1 ey
  have := e2 vs h1
  rw [h3] at this
  cases this
  obtain ⟨p1, p2, p3⟩ := pair_new S1 hT (.int (i : Nat)) h4
  refine ⟨ρ1, p1, p2, ?_⟩
  have e0 : (0 : Int) + (i : Int) = ((i : Nat) : Int) := by omega
  rw [e0]
  exact p3
theorem zipL_get : ∀ (xs ys : List D) (i : Nat) (d : D), (zipL xs ys)[i]? = some d → ∃ a b, xs[i]? = some a ∧ ys[i]? = some b ∧ d = .tup [a, b]
  | [], ys, i, d, h => by simp [zipL] at h
  | x :: xs, [], i, d, h => by simp [zipL] at h
  | x :: xs, y :: ys, 0, d, h => by simp [zipL] at h; exact ⟨x, y, rfl, rfl, h.symm⟩
  | x :: xs, y :: ys, i + 1, d, h => by
    obtain ⟨a, b, h1, h2, h3⟩ := zipL_get xs ys i d (by simpa [zipL] using h)
    exact ⟨a, b, by simpa using h1, by simpa using h2, h3⟩
theorem zipL_length : ∀ (xs ys : List D), (zipL xs ys).length = min xs.length ys.length
  | [], ys => by simp [zipL]
  | x :: xs, [] => by simp [zipL]
  | x :: xs, y :: ys => by simp [zipL, zipL_length xs ys]
theorem unch_app {st : Store} : ∀ {s1 s2 : Src}, unchanged st (s1 ++ s2) = true → unchanged st s1 = true ∧ unchanged st s2 = true
  | [], s2, h => ⟨rfl, h⟩
  | (j, n) :: r, s2, h => by
    have h2 : ((match sget st j with
      | some (.lst ys) => ys.length == n.length && (ys.zip n).all (fun p => unchanged.same DEEP p.1 p.2)
      | _ => false) && unchanged st (r ++ s2)) = true := h
    rw [Bool.and_eq_true] at h2
    obtain ⟨h3, h4⟩ := unch_app h2.2
    refine ⟨?_, h4⟩
    show ((match sget st j with
      | some (.lst ys) => ys.length == n.length && (ys.zip n).all (fun p => unchanged.same DEEP p.1 p.2)
      | _ => false) && unchanged st r) = true
    rw [h2.1, h3]; rfl
theorem walks_z {xs ys : List D} {s1 s2 : Src} {a b : Addr} (h : ∀ l st1 H1 ρ1, RsOk Z H l → Ext H ρ H1 ρ1 → Sim K (Z.rsv l) B st1 H1 ρ1 → unchanged st1 s1 = true → ∃ vs, SqL K H1 a vs ∧ RDs K (Z.rsv l) H1 ρ1 xs vs) (h' : ∀ l st1 H1 ρ1, RsOk Z H l → Ext H ρ H1 ρ1 → Sim K (Z.rsv l) B st1 H1 ρ1 → unchanged st1 s2 = true → ∃ vs, SqL K H1 b vs ∧ RDs K (Z.rsv l) H1 ρ1 ys vs) :
    Walks K Z B (Itz K a b) (zipL xs ys) (s1 ++ s2) H ρ := fun l st1 H1 ρ1 hr x S1 hu => by
  obtain ⟨u1, u2⟩ := unch_app hu
  obtain ⟨vs, h1, h2⟩ := h l st1 H1 ρ1 hr x S1 u1
  obtain ⟨ws, g1, g2⟩ := h' l st1 H1 ρ1 hr x S1 u2
  have l1 := h2.length
  have l2 := g2.length
  refine ⟨⟨vs, ws, h1, g1, by rw [zipL_length]; omega⟩, fun i d hd => ?_⟩
  obtain ⟨e, f, he, hf, rfl⟩ := zipL_get xs ys i d hd
  obtain ⟨w, h3, h4⟩ := h2.get he
  obtain ⟨w', g3, g4⟩ := g2.get hf
  refine ⟨⟨vs, ws, w, w', h1, g1, h3, g3⟩, fun y H2 ⟨T, z, z', ey, hT, e1, e2, e3⟩ => ?_⟩
  subst e1 ey
  have q1 := e2 vs h1
  have q2 := e3 ws g1
  rw [h3] at q1
  rw [g3] at q2
  cases q1
  cases q2
  exact ⟨ρ1, pair_new S1 hT h4 g4⟩
theorem walks_zt {xs ys : List D} {a b : Addr} (h : ∀ l H1 ρ1, RsOk Z H l → Ext H ρ H1 ρ1 → ∃ vs, SqT K H1 a vs ∧ RDs K (Z.rsv l) H1 ρ1 xs vs) (h' : ∀ l H1 ρ1, RsOk Z H l → Ext H ρ H1 ρ1 → ∃ vs, SqT K H1 b vs ∧ RDs K (Z.rsv l) H1 ρ1 ys vs) :
    Walks K Z B (RZ.ItzT K a b) (zipL xs ys) [] H ρ := fun l st1 H1 ρ1 hr x S1 hu => by
  obtain ⟨vs, h1, h2⟩ := h l H1 ρ1 hr x
  obtain ⟨ws, g1, g2⟩ := h' l H1 ρ1 hr x
  have l1 := h2.length
  have l2 := g2.length
  refine ⟨⟨vs, ws, h1, g1, by rw [zipL_length]; omega⟩, fun i d hd => ?_⟩
  obtain ⟨e, f, he, hf, rfl⟩ := zipL_get xs ys i d hd
  obtain ⟨w, h3, h4⟩ := h2.get he
  obtain ⟨w', g3, g4⟩ := g2.get hf
  refine ⟨⟨vs, ws, w, w', h1, g1, h3, g3⟩, fun y H2 ⟨T, z, z', ey, hT, e1, e2, e3⟩ => ?_⟩
  subst e1 ey
  have q1 := e2 vs h1
  have q2 := e3 ws g1
  rw [h3] at q1
  rw [g3] at q2
  cases q1
  cases q2
  exact ⟨ρ1, pair_new S1 hT h4 g4⟩
theorem rangeL_get : ∀ (n : Nat) (lo : Int) (i : Nat) (d : D), (rangeL lo n)[i]? = some d → i < n ∧ d = .int (lo + i)
  | 0, lo, i, d, h => by simp [rangeL] at h
  | n + 1, lo, 0, d, h => by simp [rangeL] at h; exact ⟨by omega, by rw [← h]; simp⟩
  | n + 1, lo, i + 1, d, h => by
    obtain ⟨h1, h2⟩ := rangeL_get n (lo + 1) i d (by simpa [rangeL] using h)
    refine ⟨by omega, ?_⟩
    rw [h2]
    congr 1
    omega
theorem rangeL_length : ∀ (n : Nat) (lo : Int), (rangeL lo n).length = n
  | 0, _ => rfl
  | n + 1, lo => congrArg Nat.succ (rangeL_length n (lo + 1))
theorem walks_r (lo : Int) (n : Nat) : Walks K Z B (Itr lo n) (rangeL lo n) [] H ρ := fun l st1 H1 ρ1 hr x S1 hu => by
  refine ⟨by rw [rangeL_length]; exact Nat.le_refl _, fun i d hd => ?_⟩
  obtain ⟨h1, rfl⟩ := rangeL_get n lo i d hd
  refine ⟨h1, fun y H2 ⟨e1, e2⟩ => ?_⟩
  subst e1 e2
  exact ⟨ρ1, Ext.refl _ _, S1, .int _⟩
theorem walks_s {t : List Nat} (ok : okS t) : Walks K Z B (Its ⟨t.toArray⟩) (t.map fun c => .str [c]) [] H ρ := fun l st1 H1 ρ1 hr x S1 hu => by
  refine ⟨by simp [Its], fun i d hd => ?_⟩
  rw [List.getElem?_map] at hd
  obtain ⟨c, hc, rfl⟩ := Option.map_eq_some_iff.mp hd
  have hi : i < t.length := (List.getElem?_eq_some_iff.mp hc).1
  refine ⟨by simpa [Its] using hi, fun y H2 ⟨e1, c', e2, e3⟩ => ?_⟩
  subst e1 e3
  have : t[i]? = some c' := by simpa using e2
  rw [hc] at this
  cases this
  exact ⟨ρ1, Ext.refl _ _, S1, .str [c] fun z hz => by rw [List.mem_singleton] at hz; rw [hz]; exact ok c (List.mem_of_getElem? hc)⟩
end
end MP

set_option autoImplicit false
set_option linter.all false
set_option maxRecDepth 100000
/-! Mp9: which small terms stand for which expressions. -/
namespace MP
open PySem PySem.Spec PyProof.Rows L2

/-! ### the check -/
/-- what a name of the module is -/
inductive GK where
  | fn (f : Nat)
  | cls (c : Nat)
  | dat (i : Nat)
  | bi
  deriving DecidableEq
/-- a class: its name, its attributes -/
structure CI where
  name : Str
  flds : List Str
/-- hot: within an except suite, the slot of its name -/
structure Ft where
  N : List Str
  G : List (Str × GK)
  cls : List CI
  hot : Option (Option Nat)
def isStar : Expr → Bool
  | .Starred _ _ => true
  | _ => false
def noStar : List Expr → Bool
  | [] => true
  | e :: r => !isStar e && noStar r
def visB (sc : Scope) (x : Str) : Bool := match sc.names.lookup x with
  | some .local => true
  | some .cell => true
  | some .free => true
  | _ => false
def locB (sc : Scope) (fn : Str → Bool) (x : Str) : Bool := match sc.names.lookup x with
  | some .local => true
  | some .cell => fn x
  | _ => false
def glB (sc : Scope) (x : Str) : Bool := decide (sc.names.lookup x = some .globalImplicit) && decide (x ≠ ("__name__" : Str)) && (x == ("__debug__" : Str)) == false
def okBase : Expr → Bool
  | .Call (.Name id _) [] [] _ => id != ("super" : Str)
  | _ => true
def notSl : Expr → Bool
  | .Slice _ _ _ _ => false
  | _ => true
def plainT : Expr → Bool
  | .UnaryOp .Not _ _ => false
  | .BoolOp _ _ _ => false
  | .IfExp _ _ _ _ => false
  | .Compare _ _ _ _ => false
  | _ => true
def biN : Bi → String
  | .len => "len"
  | .abs => "abs"
  | .max1 => "max"
  | .max2 => "max"
  | .min1 => "min"
  | .min2 => "min"
  | .sum => "sum"
  | .sorted => "sorted"
  | .all => "all"
  | .any => "any"
  | .int => "int"
  | .str => "str"
  | .repr => "repr"
  | .tuple => "tuple"
  | .list => "list"
  | .isi => "isinstance"
def notSet : Expr → Bool
  | .Set _ _ _ => false
  | _ => true
def unOf : UnaryOp → Nat
  | .USub => 0
  | .Not => 1
  | _ => 2
def isAnd : BoolOp → Bool
  | .And => true
  | .Or => false
def conB : D → Const → Bool
  | .non, .none => true
  | .bl a, .bool b => a == b
  | .int i, .int j => decide (i = j)
  | .str x, .str y => decide (y = ⟨x.toArray⟩) && x.all fun c => decide (c < 1114112)
  | _, _ => false
def bmOk : Bm → Bool
  | .append => true
  | .pop => true
  | .index => true
  | .sindex => true
  | .join => true
  | .split => true
  | .sfind => true
  | _ => false
/-- built-ins that need no calm -/
def biHot : Bi → Bool
  | .max1 => false
  | .min1 => false
  | .max2 => false
  | .min2 => false
  | .sum => false
  | .all => false
  | .any => false
  | _ => true
/-- the name of what is handled -/
def exnB (F : Ft) (sc : Scope) : Expr → Bool
  | .Name x _ => (match F.hot with
    | some (some i) => decide (F.N[i]? = some x) && visB sc x && (x == ("__debug__" : Str)) == false && (x == ("__classdict__" : Str)) == false
    | _ => false)
  | _ => false
def fitK (F : Ft) (sc : Scope) : D → Expr → Bool
  | .fn f, .Name x _ => glB sc x && decide (F.G.lookup x = some (.fn f))
  | .ty n, .Name x _ => glB sc x && decide (F.G.lookup x = some .bi) && decide (x = Str.ofString (tyN n)) && decide (n ≤ 4)
  | .int i, .BinOp (.Constant (.int a) _ _) op (.Constant (.int n) _ _) _ => decide (op = .Pow) && decide (0 ≤ n) && decide (n ≤ 1000) && decide (a.natAbs < 1000000) && decide (i = a ^ n.toNat)
  | d, .Constant c _ _ => conB d c
  | _, _ => false
/-- an error's class is called -/
def mkC (F : Ft) (sc : Scope) (x : Str) (c : Nat) : Bool := glB sc x && decide (F.G.lookup x = some (.cls c)) && F.hot.isNone
/-- isinstance is asked -/
def isiC (F : Ft) (sc : Scope) (g y : Str) (c : GK) : Bool := glB sc g && decide (F.G.lookup g = some .bi) && decide (g = ("isinstance" : Str)) && glB sc y && decide (F.G.lookup y = some c)
mutual
/-- a target -/
def fitG (F : Ft) (sc : Scope) (fn : Str → Bool) : ME → Expr → Bool
  | .var i, .Name x _ => decide (F.N[i]? = some x) && locB sc fn x && decide (F.hot ≠ some (some i))
  | .tup es, .Tuple ts _ _ => fitGs F sc fn es ts && F.hot.isNone
  | _, _ => false
def fitGs (F : Ft) (sc : Scope) (fn : Str → Bool) : ME → List Expr → Bool
  | .no, [] => true
  | .cons t r, e :: es => !isStar e && fitG F sc fn t e && fitGs F sc fn r es
  | _, _ => false
end
def ownP (F : Ft) (own : List Nat) : List (Str × Nat) := own.map fun i => ((F.N[i]?).getD ("" : Str), i)
def cellB (scope : Scope) (x : Str) : Bool := scope.names.lookup x == some .cell
mutual
/-- an expression -/
def fitE (F : Ft) : ME → Scope → (Str → Bool) → Expr → Bool
  | .k d, sc, _, e => fitK F sc d e
  | .var i, sc, _, .Name x _ => decide (F.N[i]? = some x) && visB sc x && (x == ("__debug__" : Str)) == false && (x == ("__classdict__" : Str)) == false
  | .gl i, sc, _, .Name x _ => glB sc x && decide (F.G.lookup x = some (.dat i))
  | .bin o _ a b, sc, fn, .BinOp x op y _ => decide (op = opOf o) && fitE F a sc fn x && fitE F b sc fn y
  | .neg a, sc, fn, .UnaryOp op x _ => decide (unOf op = 0) && fitE F a sc fn x
  | .nt a, sc, fn, .UnaryOp op x _ => decide (unOf op = 1) && fitE F a sc fn x
  | .an a b, sc, fn, .BoolOp op (x :: y :: r) p => isAnd op && fitE F a sc fn x && (match r with
    | [] => fitE F b sc fn y
    | _ => fitE F b sc fn (.BoolOp .And (y :: r) p))
  | .or a b, sc, fn, .BoolOp op (x :: y :: r) p => !isAnd op && fitE F a sc fn x && (match r with
    | [] => fitE F b sc fn y
    | _ => fitE F b sc fn (.BoolOp .Or (y :: r) p))
  | .cmp o a b, sc, fn, .Compare x [op] [y] _ => decide (op = copOf o) && behindInMarks op y == false && fitE F a sc fn x && fitE F b sc fn y
  | .cmp2 o u a b c, sc, fn, .Compare x [op, op'] [y, z] _ => decide (op = copOf o) && decide (op' = copOf u) && lastMarks [op, op'] [y, z] == false && fitE F a sc fn x && fitE F b sc fn y && fitE F c sc fn z
  | .isn a, sc, fn, .Compare x [op] [.Constant c _ _] _ => decide (op = .Is) && conB .non c && fitE F a sc fn x
  | .notn a, sc, fn, .Compare x [op] [.Constant c _ _] _ => decide (op = .IsNot) && conB .non c && fitE F a sc fn x
  | .ite c a b, sc, fn, .IfExp t x y _ => fitT F c sc fn t && fitE F a sc fn x && fitE F b sc fn y
  | .tup es, sc, fn, .Tuple xs _ _ => decide (xs.length ≤ 1000) && fitA F es sc fn xs
  | .lst _ es, sc, fn, .List xs _ => decide (xs.length ≤ 1000) && fitA F es sc fn xs
  | .ix a i, sc, fn, .Subscript x y _ => notSl y && fitE F a sc fn x && fitE F i sc fn y
  | .sl _ a lo hi, sc, fn, .Subscript x (.Slice l h none _) _ => fitE F a sc fn x && (match l with
    | none => (match lo with
      | .k .non => true
      | _ => false)
    | some e => fitE F lo sc fn e) && (match h with
    | none => (match hi with
      | .k .non => true
      | _ => false)
    | some e => fitE F hi sc fn e)
  | .bi f _ es, sc, fn, .Call (.Name x _) (y :: ys) [] _ => glB sc x && decide (F.G.lookup x = some .bi) && decide (x = Str.ofString (biN f)) && noStar (y :: ys) && fitA F es sc fn (y :: ys) && (F.hot.isNone || biHot f)
  | .bm f _ a es, sc, fn, .Call (.Attribute o name apos) xs [] cpos => bmOk f && decide (name = Str.ofString (bmN f).2.1) && okBase o && apos.endLine == cpos.line && decide (xs.length < 30) && noStar xs && fitE F a sc fn o && fitA F es sc fn xs
  | .fc f _ es, sc, fn, .Call (.Name x _) xs [] _ => glB sc x && decide (F.G.lookup x = some (.fn f)) && noStar xs && fitA F es sc fn xs && F.hot.isNone
  | .lc _ own t it c e, sc, fn, .ListComp elt [⟨tg, iter, ifs, 0⟩] scope _ => blkC F.N sc scope (ownP F own) && (slots t).all (fun i => decide (i ∈ own)) && notSet iter && fitI F it sc fn tg iter && fitG F (relS scope sc) (cellB scope) t tg && (match ifs with
    | [] => noB c
    | [x] => !noB c && fitT F c (relS scope sc) (cellB scope) x
    | _ => false) && fitE F e (relS scope sc) (cellB scope) elt && F.hot.isNone
  | .frz a, sc, fn, e => fitE F a sc fn e
  | .xw, sc, _, .Attribute x name _ => exnB F sc x && decide (name = ("word" : Str))
  | .xp, sc, _, .Attribute x name _ => exnB F sc x && decide (name = ("place" : Str))
  | .xi c, sc, _, .Call (.Name g _) [x, .Name y _] [] _ => glB sc g && decide (F.G.lookup g = some .bi) && decide (g = ("isinstance" : Str)) && exnB F sc x && glB sc y && decide (F.G.lookup y = some (.cls c))
  | .xv, sc, _, .Call (.Name g _) [x, .Name y _] [] _ => glB sc g && decide (F.G.lookup g = some .bi) && decide (g = ("isinstance" : Str)) && exnB F sc x && glB sc y && decide (F.G.lookup y = some .bi) && decide (y = ("ValueError" : Str))
  | .mx0 c, sc, _, .Call (.Name x _) [] [] _ => mkC F sc x c
  | .mx1 c a, sc, fn, .Call (.Name x _) [e] [] _ => mkC F sc x c && !isStar e && fitE F a sc fn e
  | .mx1 c a, sc, fn, .Call (.Name x _) [] [⟨k, e, _⟩] _ => mkC F sc x c && decide (k = some ("place" : Str)) && fitE F a sc fn e
  | .my1 c a, sc, fn, .Call (.Name x _) [e] [] _ => mkC F sc x c && !isStar e && fitE F a sc fn e
  | .my2 c a b, sc, fn, .Call (.Name x _) [e, f] [] _ => mkC F sc x c && !isStar e && !isStar f && fitE F a sc fn e && fitE F b sc fn f
  | .my2 c a b, sc, fn, .Call (.Name x _) [] [⟨k, e, _⟩, ⟨l, f, _⟩] _ => mkC F sc x c && decide (k = some ("word" : Str)) && decide (l = some ("place" : Str)) && fitE F a sc fn e && fitE F b sc fn f
  | .ew a, sc, fn, .Attribute x name _ => okBase x && decide (name = ("word" : Str)) && fitE F a sc fn x
  | .ep a, sc, fn, .Attribute x name _ => okBase x && decide (name = ("place" : Str)) && fitE F a sc fn x
  | .ei a c, sc, fn, .Call (.Name g _) [x, .Name y _] [] _ => isiC F sc g y (.cls c) && !isStar x && fitE F a sc fn x
  | .ev a, sc, fn, .Call (.Name g _) [x, .Name y _] [] _ => isiC F sc g y .bi && decide (y = ("ValueError" : Str)) && !isStar x && fitE F a sc fn x
  | _, _, _, _ => false
/-- a test -/
def fitT (F : Ft) : ME → Scope → (Str → Bool) → Expr → Bool
  | .nt a, sc, fn, .UnaryOp op x _ => decide (unOf op = 1) && fitT F a sc fn x
  | .an a b, sc, fn, .BoolOp op (x :: y :: r) p => isAnd op && fitT F a sc fn x && (match r with
    | [] => fitT F b sc fn y
    | _ => fitT F b sc fn (.BoolOp .And (y :: r) p))
  | .or a b, sc, fn, .BoolOp op (x :: y :: r) p => !isAnd op && fitT F a sc fn x && (match r with
    | [] => fitT F b sc fn y
    | _ => fitT F b sc fn (.BoolOp .Or (y :: r) p))
  | .cmp o a b, sc, fn, .Compare x [op] [y] _ => decide (op = copOf o) && behindInMarks op y == false && fitE F a sc fn x && fitE F b sc fn y
  | .cmp2 o u a b c, sc, fn, .Compare x [op, op'] [y, z] _ => decide (op = copOf o) && decide (op' = copOf u) && lastMarks [op, op'] [y, z] == false && fitE F a sc fn x && fitE F b sc fn y && fitE F c sc fn z
  | .isn a, sc, fn, .Compare x [op] [.Constant c _ _] _ => decide (op = .Is) && conB .non c && fitE F a sc fn x
  | .notn a, sc, fn, .Compare x [op] [.Constant c _ _] _ => decide (op = .IsNot) && conB .non c && fitE F a sc fn x
  | .var i, sc, _, .Name x _ => decide (F.N[i]? = some x) && visB sc x && (x == ("__debug__" : Str)) == false && (x == ("__classdict__" : Str)) == false
  | .ix a i, sc, fn, .Subscript x y _ => notSl y && fitE F a sc fn x && fitE F i sc fn y
  | .bi f _ es, sc, fn, .Call (.Name x _) (y :: ys) [] _ => glB sc x && decide (F.G.lookup x = some .bi) && decide (x = Str.ofString (biN f)) && noStar (y :: ys) && fitA F es sc fn (y :: ys) && (F.hot.isNone || biHot f)
  | .fc f _ es, sc, fn, .Call (.Name x _) xs [] _ => glB sc x && decide (F.G.lookup x = some (.fn f)) && noStar xs && fitA F es sc fn xs && F.hot.isNone
  | .xi c, sc, _, .Call (.Name g _) [x, .Name y _] [] _ => glB sc g && decide (F.G.lookup g = some .bi) && decide (g = ("isinstance" : Str)) && exnB F sc x && glB sc y && decide (F.G.lookup y = some (.cls c))
  | .xv, sc, _, .Call (.Name g _) [x, .Name y _] [] _ => glB sc g && decide (F.G.lookup g = some .bi) && decide (g = ("isinstance" : Str)) && exnB F sc x && glB sc y && decide (F.G.lookup y = some .bi) && decide (y = ("ValueError" : Str))
  | .ei a c, sc, fn, .Call (.Name g _) [x, .Name y _] [] _ => isiC F sc g y (.cls c) && !isStar x && fitE F a sc fn x
  | .ev a, sc, fn, .Call (.Name g _) [x, .Name y _] [] _ => isiC F sc g y .bi && decide (y = ("ValueError" : Str)) && !isStar x && fitE F a sc fn x
  | _, _, _, _ => false
/-- arguments -/
def fitA (F : Ft) : ME → Scope → (Str → Bool) → List Expr → Bool
  | .no, _, _, [] => true
  | .cons a r, sc, fn, e :: es => !isStar e && fitE F a sc fn e && fitA F r sc fn es
  | .star a r, sc, fn, .Starred e _ :: es => fitE F a sc fn e && fitA F r sc fn es
  | _, _, _, _ => false
/-- what is walked, for a target -/
def fitI (F : Ft) : ME → Scope → (Str → Bool) → Expr → Expr → Bool
  | .itr a, sc, fn, _, e => fitE F a sc fn e
  | .rng1 a, sc, fn, _, .Call (.Name x _) [y] [] _ => glB sc x && decide (F.G.lookup x = some .bi) && decide (x = ("range" : Str)) && !isStar y && fitE F a sc fn y
  | .rng2 a b, sc, fn, _, .Call (.Name x _) [y, z] [] _ => glB sc x && decide (F.G.lookup x = some .bi) && decide (x = ("range" : Str)) && !isStar y && !isStar z && fitE F a sc fn y && fitE F b sc fn z
  | .enm a, sc, fn, .Tuple _ _ _, .Call (.Name x _) [y] [] _ => glB sc x && decide (F.G.lookup x = some .bi) && decide (x = ("enumerate" : Str)) && !isStar y && fitE F a sc fn y
  | .zp a b, sc, fn, .Tuple _ _ _, .Call (.Name x _) [y, z] [] _ => glB sc x && decide (F.G.lookup x = some .bi) && decide (x = ("zip" : Str)) && !isStar y && !isStar z && fitE F a sc fn y && fitE F b sc fn z
  | _, _, _, _, _ => false
end
end MP

set_option autoImplicit false
set_option linter.all false
set_option maxRecDepth 100000
/-! Mp10: readings, contexts, small lemmas for the rules. -/
namespace MP
open PySem PySem.Spec PyProof.Rows L2

theorem PE.imp {X : Cx} {e : Expr} {t t' : TE} (h : PE X e t) (k : ∀ σ H Q, t' σ H Q → t σ H Q) : PE X e t' := ⟨fun pins s σ H Q I q => h.run pins s σ H Q I (k σ H Q q)⟩
theorem PT.imp {X : Cx} {e : Expr} {t t' : TT} (h : PT X e t) (k : ∀ σ H Q, t' σ H Q → t σ H Q) : PT X e t' := ⟨fun pins s σ H Q I q => h.run pins s σ H Q I (k σ H Q q)⟩
theorem PA.imp {X : Cx} {es : List Expr} {t t' : TA} (h : PA X es t) (k : ∀ σ H Q, t' σ H Q → t σ H Q) : PA X es t' := ⟨fun pos pins s σ H Q I q => h.run pos pins s σ H Q I (k σ H Q q)⟩
theorem PI.imp {X : Cx} {tg e : Expr} {t t' : TI} (h : PI X tg e t) (k : ∀ σ H Q, t' σ H Q → t σ H Q) : PI X tg e t' := ⟨fun pins s σ H R I q => h.run pins s σ H R I (k σ H R q)⟩
theorem PG.imp {X : Cx} {e : Expr} {t t' : TG} (h : PG X e t) (k : ∀ v σ H Q, t' v σ H Q → t v σ H Q) : PG X e t' := ⟨fun pins s σ H v u Q I r q => h.run pins s σ H v u Q I r (k v σ H Q q)⟩
theorem PGs.imp {X : Cx} {es : List Expr} {t t' : TGs} (h : PGs X es t) (k : ∀ vs σ H Q, t' vs σ H Q → t vs σ H Q) : PGs X es t' := ⟨fun pins s σ H v u Q I r q => h.run pins s σ H v u Q I r (k v σ H Q q)⟩
theorem PG.or {X : Cx} {e : Expr} {t t' : TG} (h : PG X e t) (h' : PG X e t') : PG X e fun v σ H Q => t v σ H Q ∨ t' v σ H Q := ⟨fun pins s σ H v u Q I r q => q.elim (h.run pins s σ H v u Q I r) (h'.run pins s σ H v u Q I r)⟩

theorem star_cons {e : Expr} {es : List Expr} {env : PySem.Env} (h : isStar e = false) : starEach (e :: es) env = (false, eval e env) :: starEach es env := by
  cases e <;> first | rfl | cases h
theorem noStar_cons {e : Expr} {es : List Expr} (h : noStar (e :: es) = true) : isStar e = false ∧ noStar es = true := by
  have h2 : (!isStar e && noStar es) = true := h
  rw [Bool.and_eq_true, Bool.not_eq_true'] at h2
  exact h2
theorem noStar_each {env : PySem.Env} : ∀ {es : List Expr}, noStar es = true → ∀ p ∈ starEach es env, p.1 = false
  | [], _, p, hp => by rw [show starEach [] env = [] from rfl] at hp; cases hp
  | e :: es, h, p, hp => by
    obtain ⟨h1, h2⟩ := noStar_cons h
    rw [star_cons h1] at hp
    rcases List.mem_cons.mp hp with e | hp
    · rw [e]
    · exact noStar_each h2 p hp
theorem noStar_back {env : PySem.Env} {pos : Pos} {es : List Expr} (h : noStar es = true) : (backTo pos (starEach es env)).any (·.1) = false := by
  unfold backTo
  rw [List.any_map, List.any_eq_false]
  intro p hp
  have := noStar_each h p hp
  simp [this]
theorem noStar_few {env : PySem.Env} {cpos : Pos} {es : List Expr} (h : noStar es = true) (hl : es.length < 30) : ((backTo cpos (starEach es env)).all (fun x => !x.1) && (backToKw cpos (keywordEach [] env)).all (fun x => x.1.isSome)
      && decide (es.length + ([] : List Keyword).length + (if ([] : List Keyword).isEmpty then 0 else 1) < 30)) = true := by
  have e1 : (backTo cpos (starEach es env)).all (fun x => !x.1) = true := by
    unfold backTo
    rw [List.all_map, List.all_eq_true]
    intro p hp
    have := noStar_each h p hp
    simp [this]
  rw [e1]
  show (true && (true && decide (es.length + 0 + 0 < 30))) = true
  simp [hl]
theorem base_ok {o : Expr} {name : Str} {env : PySem.Env} {whole : Sem Value} (h : okBase o = true) : attributeBase o name env whole = whole := by
  unfold attributeBase
  split
  · rename_i id p pos
    have h2 : (id != ("super" : Str)) = true := h
    rw [h2]
    simp
  · rfl
theorem plainIx_of {e : Expr} (h : notSl e = true) : PlainIx e := by
  intro o i
  cases e <;> first | rfl | cases h
theorem set_ok {e : Expr} {env : PySem.Env} (h : notSet e = true) : ∀ x, foldedSetIterable e env x = pure x := by
  intro x
  cases e <;> first | rfl | cases h

/-- what stands fixed through a law -/
structure Ct where
  P : Program
  w : World
  K : PySem.W.Frag
  mg : Str → Option Value
  base : Heap
  Z : Ad
  C : Cal
  k : Nat
  F : Ft
  cx : Cux
theorem res_rsv (Z : Ad) (l : List Addr) (p : Addr) : (Z.rsv l).res p = Z.rsv (p :: l) := rfl
/-- what is known of an error's class -/
structure ExcF (K : PySem.W.Frag) (C : Addr) : Prop where
  xf : XfC K C
  xc : ExcC K C
  nw : PySem.W.findIn K (.ref C) "word" = some none
  np : PySem.W.findIn K (.ref C) "place" = some none
  ve : PySem.W.kitOne K (.ref C) (.type "ValueError") = some true
/-- an error's making: its word, its place -/
def tMk0 (C : Addr) (w : List Nat) : L2.St → Hp → XK → Prop := fun σ H Q => ∀ (d : Addr) (fs : List (Str × V)), H d = none → fs.lookup ("word" : Str) = some (.str ⟨w.toArray⟩) → fs.lookup ("place" : Str) = some .non → Q (.ref C) (some d) (upd H d (.xd fs))
def tMk1 (C : Addr) (w : List Nat) (te : TE) : L2.St → Hp → XK → Prop := fun σ H Q => te σ H fun p H1 => ∀ (d : Addr) (fs : List (Str × V)), H1 d = none → fs.lookup ("word" : Str) = some (.str ⟨w.toArray⟩) → fs.lookup ("place" : Str) = some p → Q (.ref C) (some d) (upd H1 d (.xd fs))
def MkE (P : Program) (w : World) (K : PySem.W.Frag) (mg : Str → Option Value) (base : Heap) (C : Addr) (wd : List Nat) : Prop :=
  ∀ (X : Cx) (x : Str) (p pos : Pos), X.prog = P → X.w = w → X.K = K → X.mg = mg → X.base = base → Room 3 X.A → Gl X x → (x == ("__debug__" : Str)) = false → X.mg x = some (.ref C) →
    PMk X (.Call (.Name x p) [] [] pos) (tMk0 C wd) ∧ ∀ (e : Expr) (te : TE), isStar e = false → PE X e te → PMk X (.Call (.Name x p) [e] [] pos) (tMk1 C wd te)
/-- an error's word and place, of what is passed -/
def gOwn (w : List Nat) : List V → Option (V × V)
  | [] => some (.str ⟨w.toArray⟩, .non)
  | [p] => some (.str ⟨w.toArray⟩, p)
  | _ => none
def gBase : List V → Option (V × V)
  | [w] => some (w, .non)
  | [w, p] => some (w, p)
  | _ => none
def gLen (n : Nat) (g : List V → Option (V × V)) : List V → Option (V × V) := fun vs => if vs.length = n then g vs else none
def tMkV (C : Addr) (g : List V → Option (V × V)) (t : TA) : TE := fun σ H Q => t σ H fun vs H1 => ∃ wv pv, g vs = some (wv, pv) ∧ ∀ (a d : Addr) (fs : List (Str × V)), H1 a = none → H1 d = none → d ≠ a → fs.lookup ("word" : Str) = some wv → fs.lookup ("place" : Str) = some pv → Q (.ref a) (upd (upd H1 d (exd d fs)) a (exo a C (some d)))
/-- an error is made and kept -/
def MkV (P : Program) (w : World) (K : PySem.W.Frag) (mg : Str → Option Value) (base : Heap) (C : Addr) (ks : List Str) (g : List V → Option (V × V)) : Prop :=
  ∀ (X : Cx) (x : Str) (p pos : Pos), X.prog = P → X.w = w → X.K = K → X.mg = mg → X.base = base → Room 3 X.A → Gl X x → (x == ("__debug__" : Str)) = false → X.mg x = some (.ref C) →
    PE X (.Call (.Name x p) [] [] pos) (tMkV C g tNil) ∧ (∀ (e : Expr) (es : List Expr) (t : TA), noStar (e :: es) = true → PA X (e :: es) t → PE X (.Call (.Name x p) (e :: es) [] pos) (tMkV C g t)) ∧
    ∀ (kws : List Keyword) (t : TA), kws.map (·.arg) = ks.map some → PK X kws t → PE X (.Call (.Name x p) [] kws pos) (tMkV C (gLen ks.length g) t)
/-- what a def's call brings -/
def FnG (T : Ct) (f : Nat) (a : Addr) : Prop :=
  ∀ (A : Around) (outer : List PySem.Env) (s : Shared) (H : Hp) (us : List Value) (vs : List V) (Q : VK) (E : XK) (rs : List Addr) (B : List Nat) (st : Store) (ρ : Rho) (ds : List D) (keep : Bool),
    Room (T.k + 3) A → A.guards = some [] → Env0 T.P T.w T.K T.mg T.base A outer s H → Vals vs us → Sim T.K (T.Z.rsv rs) B st H ρ → RDs T.K (T.Z.rsv rs) H ρ ds vs → Fin T.K (T.Z.rsv rs) B E H ρ (T.C.fn f keep ds st) Q →
    codeAny (model T.P T.w) A (.call (.ref a) ⟨us, []⟩) (CR (L2.CX T.P T.w) outer T.P T.w H s Q E) s
/-- what is known of the module's names -/
structure Fa (T : Ct) : Prop where
  bi : ∀ x, T.F.G.lookup x = some .bi → T.mg x = none
  fnv : ∀ x f, T.F.G.lookup x = some (.fn f) → ∃ a, T.mg x = some (.ref a) ∧ T.Z.fn f = some a ∧ PySem.W.keepIn T.K (.ref a) = true
  dat : ∀ x i d, T.F.G.lookup x = some (.dat i) → T.C.glob i = some d → ∃ v u, T.mg x = some u ∧ RelV v u ∧ ∀ rs H ρ, RD T.K (T.Z.rsv rs) H ρ d v
  run : ∀ f a, T.Z.fn f = some a → FnG T f a
  cls : ∀ x c, T.F.G.lookup x = some (.cls c) → ∃ C, T.mg x = some (.ref C) ∧ T.Z.cls c = some C ∧ PySem.W.keepIn T.K (.ref C) = true
  exc : ∀ c C, T.Z.cls c = some C → T.C.err c = true → ExcF T.K C
  exm : ∀ c c' C C', T.Z.cls c = some C → T.Z.cls c' = some C' → T.C.err c = true → T.C.err c' = true → PySem.W.exmOne T.K (.ref C) (.ref C') = some (T.C.isa c c') ∧ PySem.W.kitOne T.K (.ref C) (.ref C') = some (T.C.isa c c')
  mkx : ∀ c C w, T.Z.cls c = some C → T.C.word c = some w → okS w ∧ MkE T.P T.w T.K T.mg T.base C w
  mkv : ∀ c C w, T.Z.cls c = some C → T.C.word c = some w → MkV T.P T.w T.K T.mg T.base C ["place"] (gOwn w)
  mkb : ∀ c C, T.Z.cls c = some C → T.C.bare c = true → MkV T.P T.w T.K T.mg T.base C ["word", "place"] gBase
/-- a body that runs -/
structure Gd (T : Ct) (b : Nat) (B : List Nat) (sc : Scope) (fn : Str → Bool) (X : Cx) (W : WX) : Prop where
  hN : X.N = T.F.N
  nd : X.N.Nodup
  hP : X.prog = T.P
  hw : X.w = T.w
  hK : X.K = T.K
  hmg : X.mg = T.mg
  hb : X.base = T.base
  sc : X.env.scope = sc
  cold : T.F.hot = none → T.cx = none ∧ X.calm = true
  hots : ∀ i, T.F.hot = some i → ∃ c w p a C d oe, T.cx = some ((c, w, p), (a, C, d), i) ∧ T.C.cur = some (c, w, p) ∧ T.C.err c = true ∧ (a, oe) ∈ X.pn ∧ Zc (.ref C) (some d) oe ∧ ∃ vs, oe.data = .fields vs
  gd : X.A.guards = some []
  room : T.F.hot = none → Room (T.k + 3) X.A
  hu : X.A.units + 100 < cLine
  tk : L2.Takes X W
  fn : ∀ x, fn x = true → X.fn x = true
  top : Top b B
theorem Gd.calm {T : Ct} {b : Nat} {B : List Nat} {sc : Scope} {fn : Str → Bool} {X : Cx} {W : WX} (G : Gd T b B sc fn X W) (h : T.F.hot.isNone = true) : X.calm = true := (G.cold (Option.isNone_iff_eq_none.mp h)).2
theorem Gd.blk {T : Ct} {b : Nat} {B : List Nat} {sc : Scope} {fn : Str → Bool} {X : Cx} {W : WX} (G : Gd T b B sc fn X W) (hot : T.F.hot.isNone = true) (scope : Scope) (s : Shared) (H : Hp) (C : Addr) (cl : List (Str × Addr)) (fp : List Addr) :
    Gd T b B (relS scope sc) (cellB scope) (X.blk s H scope (compEnvC scope cl C X.env) fp) (fun _ _ _ _ => False) where
  hN := G.hN
  nd := G.nd
  hP := G.hP
  hw := G.hw
  hK := G.hK
  hmg := G.hmg
  hb := G.hb
  sc := by rw [← G.sc]; rfl
  cold := fun e => G.cold e
  hots := fun i e => by rw [e] at hot; cases hot
  gd := G.gd
  room := G.room
  hu := G.hu
  tk := fun u s' ⟨_, _, _, _, _, _, _, _, _, _, _, _, _, _, _, _, h⟩ => h.elim
  fn := fun x h => h
  top := G.top

section
variable (T : Ct) (rs : List Addr) (b : Nat) (B : List Nat) (W : WX)
/-- the wish about exceptions with the names' values -/
def WX.at (σ : L2.St) : XK := fun c d H => W c d σ H
/-- an expression's reading -/
def tE (m : ME) : TE := fun σ H Q => ∃ st ρ env, Sim T.K (T.Z.rsv rs) (b :: B) st H ρ ∧ EnvR T.K (T.Z.rsv rs) T.cx H ρ env σ ∧ Fin T.K (T.Z.rsv rs) (b :: B) (WX.at W σ) H ρ (den T.C b m env st) Q
/-- a test's -/
def tT (m : ME) : TT := fun σ H Q => ∃ st ρ env, Sim T.K (T.Z.rsv rs) (b :: B) st H ρ ∧ EnvR T.K (T.Z.rsv rs) T.cx H ρ env σ ∧ FinG T.K (T.Z.rsv rs) (b :: B) (WX.at W σ) H ρ (needB (den T.C b m env st)) fun c _ H' _ => Q c H'
/-- what arguments bring -/
def ArgT (Q : List V → Hp → Prop) : D → Store → Hp → Rho → Prop := fun d _ H' ρ' => ∃ ds, d = .tup ds ∧ ∀ vs, RDs T.K (T.Z.rsv rs) H' ρ' ds vs → Q vs H'
def tA (m : ME) : TA := fun σ H Q => ∃ st ρ env, Sim T.K (T.Z.rsv rs) (b :: B) st H ρ ∧ EnvR T.K (T.Z.rsv rs) T.cx H ρ env σ ∧ FinG T.K (T.Z.rsv rs) (b :: B) (WX.at W σ) H ρ (den T.C b m env st) (ArgT T rs Q)
/-- what is walked -/
def tI (m : ME) : TI := fun σ H R => ∃ st ρ env, Sim T.K (T.Z.rsv rs) (b :: B) st H ρ ∧ EnvR T.K (T.Z.rsv rs) T.cx H ρ env σ ∧ FinG T.K (T.Z.rsv rs) (b :: B) (WX.at W σ) H ρ (denIt T.C b m env st) fun p st1 H1 ρ1 =>
  ∀ J, Walks T.K (T.Z.rsv rs) (b :: B) J p.1 p.2 H1 ρ1 → p.1.length ≤ sizeLine → R J H1
end
section
variable {T : Ct} {rs : List Addr} {b : Nat} {B : List Nat} {W : WX} {sc : Scope} {fn : Str → Bool} {X : Cx}
/-- the names that a scope knows -/
theorem vis_of (G : Gd T b B sc fn X W) {x : Str} (h : visB sc x = true) : Vis X.env.scope x := by
  rw [G.sc]
  unfold visB at h
  unfold Vis
  split at h
  · exact .inl (by assumption)
  · exact .inr (.inl (by assumption))
  · exact .inr (.inr (by assumption))
  · cases h
theorem gl_of (G : Gd T b B sc fn X W) {x : Str} (h : glB sc x = true) : Gl X x ∧ x ≠ ("__name__" : Str) ∧ (x == ("__debug__" : Str)) = false := by
  unfold glB at h
  simp only [Bool.and_eq_true, decide_eq_true_eq, beq_iff_eq] at h
  refine ⟨?_, h.1.2, by simpa using h.2⟩
  show X.env.scope.names.lookup x = some .globalImplicit
  rw [G.sc]
  exact h.1.1
theorem slot_of (G : Gd T b B sc fn X W) {i : Nat} {x : Str} (h : decide (T.F.N[i]? = some x) = true) : X.N[i]? = some x := by
  rw [G.hN]; exact of_decide_eq_true h
/-- what a callee brings, here -/
theorem run_in (A : Fa T) (G : Gd T b B sc fn X W) (hh : T.F.hot.isNone = true) {pins : List (Addr × Obj)} {σ : L2.St} {H : Hp} {s : Shared} {us : List Value} {vs : List V} {Q : VK} {st : Store} {ρ : Rho} {ds : List D} {keep : Bool} {f : Nat} {a : Addr} (hf : T.Z.fn f = some a)
    (I : Inv X pins σ H s) (r : Vals vs us) (S : Sim T.K (T.Z.rsv rs) (b :: B) st H ρ) (rd : RDs T.K (T.Z.rsv rs) H ρ ds vs) (q : Fin T.K (T.Z.rsv rs) (b :: B) (WX.at W σ) H ρ (T.C.fn f keep ds st) Q) : wpAny (model X.prog X.w) X.A (call (.ref a) us) (EP X pins σ Q) X.xe s := by
  have e0 := I.env0
  rw [G.hP, G.hw, G.hK, G.hmg, G.hb] at e0
  have R := A.run f a hf X.A X.stack s H us vs Q (WX.at W σ) rs (b :: B) st ρ ds keep (G.room (Option.isNone_iff_eq_none.mp hh)) G.gd e0 r S rd q
  rw [← G.hP, ← G.hw] at R
  refine wpAny_call (codeAny_mono R fun r s' hq => ?_)
  cases r with
  | error e => exact G.tk e s' (XE.of_call I (fun cls d H' h => h) hq)
  | ok fl =>
    cases fl with
    | ret u => exact I.after hq
    | next => exact False.elim hq
    | brk => exact False.elim hq
    | cont => exact False.elim hq
/-- the lists and tuples that stand are no longer than a line -/
theorem PI.lim {tg e : Expr} {wi : TI} (h : PI X tg e wi) : PI X tg e fun σ H R => wi σ H fun J H1 => (∀ a xs, SqL X.K H1 a xs ∨ SqT X.K H1 a xs → xs.length ≤ sizeLine) → R J H1 := ⟨fun pins s σ H R I q => by
  refine thn (h.run pins s σ H _ I q) fun v s1 h1 => thn h1 fun itv s2 h2 => ?_
  obtain ⟨it, fp, tn, J, H', e1, I2, tu, t0, hf, r⟩ := h2
  refine ⟨it, fp, tn, J, H', e1, I2, tu, t0, hf, r fun a xs hx => ?_⟩
  rcases hx with hx | hx
  · obtain ⟨_, _, _, hz⟩ := I2.list hx
    exact hz
  · obtain ⟨_, r, _, hz⟩ := I2.tuple hx
    exact hz⟩
end
end MP

set_option autoImplicit false
set_option linter.all false
set_option maxRecDepth 100000
/-! Mp11: the expressions, one kind after another. -/
namespace MP
open PySem PySem.Spec PyProof.Rows L2

/-- a term is sound -/
structure Snd (T : Ct) (m : ME) : Prop where
  pe : ∀ rs b B W sc fn X e, Fa T → Gd T b B sc fn X W → fitE T.F m sc fn e = true → PE X e (tE T rs b B W m)
  pt : ∀ rs b B W sc fn X e, Fa T → Gd T b B sc fn X W → fitT T.F m sc fn e = true → PT X e (tT T rs b B W m)
  pa : ∀ rs b B W sc fn X es, Fa T → Gd T b B sc fn X W → fitA T.F m sc fn es = true → PA X es (tA T rs b B W m)
  pi : ∀ rs b B W sc fn X tg e, Fa T → Gd T b B sc fn X W → fitI T.F m sc fn tg e = true → PI X tg e (tI T rs b B W m)
theorem and2 {a b : Bool} (h : (a && b) = true) : a = true ∧ b = true := by
  rw [Bool.and_eq_true] at h; exact h
section
variable {T : Ct} {rs : List Addr} {b : Nat} {B : List Nat} {W : WX} {sc : Scope} {fn : Str → Bool} {X : Cx}

/-- rules that hold for each wish -/
def R2e (r : XK → R2) : R2 := fun x y H Q => ∃ E, r E x y H Q
theorem opEx {f : Value → Value → Sem Value} {r : XK → R2} (h : ∀ E, OpR X f (r E)) : OpR X f (R2e r) := fun pins s σ H x y v u Q I rx ry ⟨E, q⟩ => h E pins s σ H x y v u Q I rx ry q
theorem ixEx {r : XK → R2} (h : ∀ E, IxR X (r E)) : IxR X (R2e r) := fun value slice pins s σ H x y v u Q I rx ry ⟨E, q⟩ hs => h E value slice pins s σ H x y v u Q I rx ry q hs
def Fne (r : XK → List V → Hp → VK → Prop) : List V → Hp → VK → Prop := fun xs H Q => ∃ E, r E xs H Q
theorem fnEx {F : Value} {r : XK → List V → Hp → VK → Prop} (h : ∀ E, CallR X F (r E)) : CallR X F (Fne r) := fun pins s σ H xs us Q I r ⟨E, q⟩ => h E pins s σ H xs us Q I r q
def Mte (r : XK → V → List V → Hp → VK → Prop) : V → List V → Hp → VK → Prop := fun x xs H Q => ∃ E, r E x xs H Q
theorem mtEx {id : String} {r : XK → V → List V → Hp → VK → Prop} (h : ∀ E, MtR X id (r E)) : MtR X id (Mte r) := fun pins s σ H x xs v us Q I rx rs ⟨E, q⟩ => h E pins s σ H x xs v us Q I rx rs q
def Sle (r : XK → V → Option Int → Option Int → Hp → VK → Prop) : V → Option Int → Option Int → Hp → VK → Prop := fun x lo hi H Q => ∃ E, r E x lo hi H Q
theorem slEx {r : XK → V → Option Int → Option Int → Hp → VK → Prop} (h : ∀ E, SlR X (r E)) : SlR X (Sle r) := fun pins s σ H x v vl vu lo hi sl Q I rx hs pl pu ⟨E, q⟩ => h E pins s σ H x v vl vu lo hi sl Q I rx hs pl pu q
/-- a value that stands there -/
theorem here_tE {m : ME} {d : D} {v : V} {σ : L2.St} {H : Hp} {Q : VK} (hd : ∀ env st, den T.C b m env st = .ok d st) (r : ∀ H ρ, RD T.K (T.Z.rsv rs) H ρ d v) (q : tE T rs b B W m σ H Q) : Q v H := by
  obtain ⟨st, ρ, env, S, er, h⟩ := q
  rw [hd] at h
  exact Fin.here S (r H ρ) h
theorem ty_boot : ∀ n, n ≤ 4 → bootBuiltins (Str.ofString (tyN n)) = some (.type (tyN n))
  | 0, _ => by decide +kernel
  | 1, _ => by decide +kernel
  | 2, _ => by decide +kernel
  | 3, _ => by decide +kernel
  | 4, _ => by decide +kernel
  | n + 5, h => by omega
theorem snd_k (d : D) : Snd T (.k d) where
  pe := fun rs b B W sc fn X e A G h => by
    have h2 : fitK T.F sc d e = true := by cases e <;> exact h
    have cons : ∀ c j p, e = .Constant c j p → conB d c = true → PE X e (tE T rs b B W (.k d)) := by
      intro c j p he hc
      subst he
      cases d <;> cases c <;> first | (simp [conB] at hc; done) | skip
      · exact PE.imp pe_non fun σ H Q q => here_tE (fun _ _ => rfl) (fun _ _ => .non) q
      · rename_i u v
        have e : u = v := by simpa [conB] using hc
        subst e
        exact PE.imp pe_bl fun σ H Q q => here_tE (fun _ _ => rfl) (fun _ _ => .bl _) q
      · rename_i u v
        have e : u = v := by simpa [conB] using hc
        subst e
        exact PE.imp pe_int fun σ H Q q => here_tE (fun _ _ => rfl) (fun _ _ => .int _) q
      · obtain ⟨h3, h4⟩ := and2 (show (decide _ && _) = true from hc)
        have h3 := of_decide_eq_true h3
        subst h3
        exact PE.imp pe_str fun σ H Q q => here_tE (fun _ _ => rfl) (fun _ _ => .str _ fun c hc => of_decide_eq_true (List.all_eq_true.mp h4 c hc)) q
    cases e with
    | Constant c j p => exact cons c j p rfl (by cases d <;> first | exact h2 | (simp [fitK] at h2))
    | Name x p =>
      cases d with
      | fn f =>
        obtain ⟨h3, h4⟩ := and2 (show (glB sc x && decide (T.F.G.lookup x = some (.fn f))) = true from h2)
        obtain ⟨g1, g2, g3⟩ := gl_of G h3
        obtain ⟨a, m1, m2, m3⟩ := A.fnv x f (of_decide_eq_true h4)
        exact PE.imp (pe_glob g1 (by rw [G.hmg]; exact m1) (show RelV (.ref a) (.ref a) from rfl) g3) fun σ H Q q => here_tE (fun _ _ => rfl) (fun H ρ => (show RD T.K (T.Z.rsv rs) H ρ (.fn f) (.ref a) from .fn m2)) q
      | ty n =>
        obtain ⟨h3, h6⟩ := and2 (show (glB sc x && decide (T.F.G.lookup x = some .bi) && decide (x = Str.ofString (tyN n)) && decide (n ≤ 4)) = true from h2)
        obtain ⟨h3, h5⟩ := and2 h3
        obtain ⟨h3, h4⟩ := and2 h3
        obtain ⟨g1, g2, g3⟩ := gl_of G h3
        have h5 := of_decide_eq_true h5
        subst h5
        exact PE.imp (pe_bltn g1 (by rw [G.hmg]; exact A.bi _ (of_decide_eq_true h4)) (ty_boot n (of_decide_eq_true h6)) (show RelV (.ty (tyN n)) (.type (tyN n)) from rfl) g2 g3) fun σ H Q q => here_tE (fun _ _ => rfl) (fun _ _ => .ty n) q
      | _ => simp [fitK] at h2
    | BinOp x op y p =>
      cases d with
      | int i =>
        cases x with
        | Constant c1 k1 p1 =>
          cases y with
          | Constant c2 k2 p2 =>
            cases c1 with
            | int a =>
              cases c2 with
              | int n =>
                obtain ⟨h2, h7⟩ := and2 (show (decide (op = .Pow) && decide (0 ≤ n) && decide (n ≤ 1000) && decide (a.natAbs < 1000000) && decide (i = a ^ n.toNat)) = true from h2)
                obtain ⟨h2, h6⟩ := and2 h2
                obtain ⟨h2, h5⟩ := and2 h2
                obtain ⟨h3, h4⟩ := and2 h2
                have h3 := of_decide_eq_true h3
                have h4 := of_decide_eq_true h4
                have h5 := of_decide_eq_true h5
                have h6 := of_decide_eq_true h6
                have h7 := of_decide_eq_true h7
                subst h3 h7
                exact PE.imp (pe_op op_pow pe_int pe_int) fun σ H Q q => ⟨a, n, rfl, rfl, ⟨h4, by omega, by omega⟩, here_tE (fun _ _ => rfl) (fun _ _ => .int _) q⟩
              | _ => simp [fitK] at h2
            | _ => simp [fitK] at h2
          | _ => simp [fitK] at h2
        | _ => simp [fitK] at h2
      | _ => simp [fitK] at h2
    | _ => cases d <;> simp [fitK] at h2
  pt := fun rs b B W sc fn X e A G h => by cases e <;> cases h
  pa := fun rs b B W sc fn X es A G h => by cases es <;> cases h
  pi := fun rs b B W sc fn X tg e A G h => by cases e <;> cases h
theorem pe_v (i : Nat) (A : Fa T) (G : Gd T b B sc fn X W) {x : Str} {p : Pos} (h : (decide (T.F.N[i]? = some x) && visB sc x && (x == ("__debug__" : Str)) == false && (x == ("__classdict__" : Str)) == false) = true) : PE X (.Name x p) (tE T rs b B W (.var i)) := by
  obtain ⟨h, h4⟩ := and2 h
  obtain ⟨h, h3⟩ := and2 h
  obtain ⟨h1, h2⟩ := and2 h
  refine PE.imp (pe_var (slot_of G h1) (vis_of G h2) (by simpa using h3) (by simpa using h4)) fun σ H Q q => ?_
  obtain ⟨st, ρ, env, S, er, q⟩ := q
  have q : Fin T.K (T.Z.rsv rs) (b :: B) (WX.at W σ) H ρ (match env[i]? with
    | some (some d) => .ok d st
    | _ => .bad) Q := q
  split at q
  · rename_i d hd
    obtain ⟨v, h5, h6⟩ := er.val i d hd
    exact ⟨v, h5, Fin.here S h6 q⟩
  · exact q.elim
/-- a test by a value's truth -/
theorem pt_of {m : ME} {e : Expr} (hp : PE X e (tE T rs b B W m)) (G : Gd T b B sc fn X W) (he : plainT e = true) : PT X e (tT T rs b B W m) := by
  refine PT.imp (pt_truth hp fun whole => by cases e <;> first | rfl | (cases he; done) | (rename_i op _ _; cases op <;> first | rfl | cases he)) fun σ H Q q => ?_
  obtain ⟨st, ρ, env, S, er, q⟩ := q
  refine ⟨st, ρ, env, S, er, Fin.step q fun d st1 v H1 ρ1 x S1 r q => ?_⟩
  obtain ⟨c, hc, q⟩ := FinG.of q
  have := truth_rd S1 r hc
  rw [← G.hK] at this
  exact ⟨c, this, FinG.ok S1 q⟩
theorem snd_var (i : Nat) : Snd T (.var i) where
  pe := fun rs b B W sc fn X e A G h => by
    cases e with
    | Name x p => exact pe_v i A G h
    | _ => cases h
  pt := fun rs b B W sc fn X e A G h => by
    cases e with
    | Name x p => exact pt_of (pe_v i A G h) G rfl
    | _ => cases h
  pa := fun rs b B W sc fn X es A G h => by cases es <;> cases h
  pi := fun rs b B W sc fn X tg e A G h => by cases e <;> cases h
theorem snd_gl (i : Nat) : Snd T (.gl i) where
  pe := fun rs b B W sc fn X e A G h => by
    cases e with
    | Name x p =>
      obtain ⟨h3, h4⟩ := and2 (show (glB sc x && decide (T.F.G.lookup x = some (.dat i))) = true from h)
      obtain ⟨g1, g2, g3⟩ := gl_of G h3
      cases hg : T.C.glob i with
      | none =>
        refine ⟨fun pins s σ H Q I q => ?_⟩
        obtain ⟨st, ρ, env, S, er, q⟩ := q
        have q : Fin T.K (T.Z.rsv rs) (b :: B) (WX.at W σ) H ρ (Res.of (T.C.glob i) st) Q := q
        rw [hg] at q
        exact q.elim
      | some d =>
        obtain ⟨v, u, m1, m2, m3⟩ := A.dat x i d (of_decide_eq_true h4) hg
        exact PE.imp (pe_glob g1 (by rw [G.hmg]; exact m1) m2 g3) fun σ H Q q => here_tE (d := d) (fun _ st => by show Res.of (T.C.glob i) st = _; rw [hg]; rfl) (fun H ρ => m3 rs H ρ) q
    | _ => cases h
  pt := fun rs b B W sc fn X e A G h => by cases e <;> cases h
  pa := fun rs b B W sc fn X es A G h => by cases es <;> cases h
  pi := fun rs b B W sc fn X tg e A G h => by cases e <;> cases h
theorem snd_bin {a c : ME} (o : BOp) (m : Bool) (ha : Snd T a) (hc : Snd T c) : Snd T (.bin o m a c) where
  pe := fun rs b B W sc fn X e A G h => by
    cases e with
    | BinOp x op y p =>
      obtain ⟨h, h3⟩ := and2 (show (decide (op = opOf o) && fitE T.F a sc fn x && fitE T.F c sc fn y) = true from h)
      obtain ⟨h1, h2⟩ := and2 h
      have h1 := of_decide_eq_true h1
      subst h1
      refine PE.imp (pe_op (opEx fun E => op_binD (Z := T.Z.rsv rs) (B := b :: B) (W := E) G.hK o m) (ha.pe rs b B W sc fn X x A G h2) (hc.pe rs b B W sc fn X y A G h3)) fun σ H Q q => ?_
      obtain ⟨st, ρ, env, S, er, q⟩ := q
      exact ⟨st, ρ, env, S, er, Fin.step (Fin.g q) fun d st1 v H1 ρ1 x1 S1 r1 q => ⟨st1, ρ1, env, S1, er.ext x1, Fin.step q fun d2 st2 v2 H2 ρ2 x2 S2 r2 q => ⟨WX.at W σ, st2, ρ2, d, d2, S2, r1.ext x2, r2, FinG.fin q⟩⟩⟩
    | _ => cases h
  pt := fun rs b B W sc fn X e A G h => by cases e <;> cases h
  pa := fun rs b B W sc fn X es A G h => by cases es <;> cases h
  pi := fun rs b B W sc fn X tg e A G h => by cases e <;> cases h
theorem un0 {op : UnaryOp} (h : decide (unOf op = 0) = true) : op = .USub := by cases op <;> first | rfl | cases h
theorem un1 {op : UnaryOp} (h : decide (unOf op = 1) = true) : op = .Not := by cases op <;> first | rfl | cases h
theorem snd_neg {a : ME} (ha : Snd T a) : Snd T (.neg a) where
  pe := fun rs b B W sc fn X e A G h => by
    cases e with
    | UnaryOp op x p =>
      obtain ⟨h1, h2⟩ := and2 (show (decide (unOf op = 0) && fitE T.F a sc fn x) = true from h)
      have h1 := un0 h1
      subst h1
      refine PE.imp (pe_un un_neg (ha.pe rs b B W sc fn X x A G h2)) fun σ H Q q => ?_
      obtain ⟨st, ρ, env, S, er, q⟩ := q
      refine ⟨st, ρ, env, S, er, Fin.step (Fin.g q) fun d st1 v H1 ρ1 x1 S1 r1 q => ?_⟩
      cases d with
      | int i =>
        cases r1
        exact ⟨i, rfl, FinG.ok S1 q _ (.int _)⟩
      | _ => exact q.elim
    | _ => cases h
  pt := fun rs b B W sc fn X e A G h => by cases e <;> cases h
  pa := fun rs b B W sc fn X es A G h => by cases es <;> cases h
  pi := fun rs b B W sc fn X tg e A G h => by cases e <;> cases h
theorem truK {K : PySem.W.Frag} (G : Gd T b B sc fn X W) {v : V} {H : Hp} {c : Bool} (h : TruV T.K v H c) : TruV X.K v H c := by rw [G.hK]; exact h
theorem needB_step {K : PySem.W.Frag} {Z : Ad} {B : List Nat} {E : XK} {H : Hp} {ρ : Rho} {r : Res D} {β : Type} {f : Bool → Store → Res β} {Tt : β → Store → Hp → Rho → Prop} {Q : VK} (h : FinG K Z B E H ρ ((needB r).then f) Tt)
    (k : ∀ c st1 v H1 ρ1, Ext H ρ H1 ρ1 → Sim K Z B st1 H1 ρ1 → TruV K v H1 c → FinG K Z B E H1 ρ1 (f c st1) Tt → Q v H1) : Fin K Z B E H ρ r Q := by
  cases r with
  | ok d st =>
    have h : FinG K Z B E H ρ ((Res.of (truth st d) st).then f) Tt := h
    cases ht : truth st d with
    | none => rw [ht] at h; exact h.elim
    | some c =>
      rw [ht] at h
      exact fun v H1 ρ1 x S r => k c st v H1 ρ1 x S (truth_rd S r ht) (FinG.ext x h)
  | exc e st => exact h
  | bad => exact h
theorem snd_nt {a : ME} (ha : Snd T a) : Snd T (.nt a) where
  pe := fun rs b B W sc fn X e A G h => by
    cases e with
    | UnaryOp op x p =>
      obtain ⟨h1, h2⟩ := and2 (show (decide (unOf op = 1) && fitE T.F a sc fn x) = true from h)
      have h1 := un1 h1
      subst h1
      refine PE.imp (pe_notT (ha.pe rs b B W sc fn X x A G h2)) fun σ H Q q => ?_
      obtain ⟨st, ρ, env, S, er, q⟩ := q
      exact ⟨st, ρ, env, S, er, needB_step (Fin.g q) fun c st1 v H1 ρ1 x1 S1 t q => ⟨c, by rw [G.hK]; exact t, FinG.ok S1 q _ (.bl _)⟩⟩
    | _ => cases h
  pt := fun rs b B W sc fn X e A G h => by
    cases e with
    | UnaryOp op x p =>
      obtain ⟨h1, h2⟩ := and2 (show (decide (unOf op = 1) && fitT T.F a sc fn x) = true from h)
      have h1 := un1 h1
      subst h1
      refine PT.imp (pt_not (ha.pt rs b B W sc fn X x A G h2)) fun σ H Q q => ?_
      obtain ⟨st, ρ, env, S, er, q⟩ := q
      refine ⟨st, ρ, env, S, er, ?_⟩
      have q : FinG T.K (T.Z.rsv rs) (b :: B) (WX.at W σ) H ρ (((needB (den T.C b a env st)).then fun c st1 => .ok (.bl (!c)) st1).then fun d st => Res.of (truth st d) st) fun c _ H' _ => Q c H' := q
      refine (FinG.bind (FinG.bind q)).imp fun c st1 H1 ρ1 x S1 q => ?_
      exact FinG.ok S1 (FinG.ok S1 q)
    | _ => cases h
  pa := fun rs b B W sc fn X es A G h => by cases es <;> cases h
  pi := fun rs b B W sc fn X tg e A G h => by cases e <;> cases h
/-- a and b, a or b: the rest of the row -/
theorem an_rest {m : ME} {y : Expr} {r : List Expr} {p : Pos} (op : BoolOp) (A : Fa T) (G : Gd T b B sc fn X W) (hm : ∀ e, fitE T.F m sc fn e = true → PE X e (tE T rs b B W m)) (h : (match (generalizing := false) r with
    | [] => fitE T.F m sc fn y
    | _ => fitE T.F m sc fn (.BoolOp op (y :: r) p)) = true) : PE X (.BoolOp op (y :: r) p) (tE T rs b B W m) := by
  cases r with
  | nil => exact pe_one (hm y h)
  | cons z r => exact hm _ h
theorem isAnd_t {op : BoolOp} (h : isAnd op = true) : op = .And := by cases op <;> first | rfl | cases h
theorem isAnd_f {op : BoolOp} (h : (!isAnd op) = true) : op = .Or := by cases op <;> first | rfl | cases h
/-- a row's test is the same whatever its whole is -/
theorem pw_of {op : BoolOp} {es : List Expr} {p : Pos} {t : TT} (h : PT X (.BoolOp op es p) t) : PW X (.BoolOp op es p) t := ⟨fun whole pins s σ H Q I q => h.run pins s σ H Q I q⟩
theorem pw_rest {m : ME} {y : Expr} {r : List Expr} {p : Pos} (op : BoolOp) (hm : ∀ e, fitT T.F m sc fn e = true → PT X e (tT T rs b B W m)) (h : (match (generalizing := false) r with
    | [] => fitT T.F m sc fn y
    | _ => fitT T.F m sc fn (.BoolOp op (y :: r) p)) = true) : PW X (.BoolOp op (y :: r) p) (tT T rs b B W m) := by
  cases r with
  | nil =>
    cases op with
    | And => exact pw_and1 (hm y h)
    | Or => exact pw_or1 (hm y h)
  | cons z r => exact pw_of (hm _ h)
theorem needB_then {K : PySem.W.Frag} {Z : Ad} {B : List Nat} {E : XK} {H : Hp} {ρ : Rho} {r : Res D} {f : D → Store → Res D} {Tt : Bool → Store → Hp → Rho → Prop} (h : FinG K Z B E H ρ (needB (r.then f)) Tt) : FinG K Z B E H ρ (r.then fun u st1 => needB (f u st1)) Tt := by
  cases r <;> exact h
theorem needB_tru {K : PySem.W.Frag} {Z : Ad} {B : List Nat} {E : XK} {H : Hp} {ρ : Rho} {r : Res D} {β : Type} {f : D → Store → Res β} {Tt : β → Store → Hp → Rho → Prop} {Tb : Bool → Store → Hp → Rho → Prop} (h : FinG K Z B E H ρ (r.then f) Tt)
    (hn : ∀ d st1, truth st1 d = none → f d st1 = .bad) (k : ∀ d st1 c H1 ρ1, Ext H ρ H1 ρ1 → Sim K Z B st1 H1 ρ1 → truth st1 d = some c → FinG K Z B E H1 ρ1 (f d st1) Tt → Tb c st1 H1 ρ1) : FinG K Z B E H ρ (needB r) Tb := by
  cases r with
  | ok d st =>
    show FinG K Z B E H ρ (Res.of (truth st d) st) Tb
    cases ht : truth st d with
    | none =>
      have h : FinG K Z B E H ρ (f d st) Tt := h
      rw [hn d st ht] at h; exact h.elim
    | some c => exact fun H1 ρ1 x S => k d st c H1 ρ1 x S ht (FinG.ext x h)
  | exc e st => exact h
  | bad => exact h
theorem snd_an {a c : ME} (ha : Snd T a) (hc : Snd T c) : Snd T (.an a c) where
  pe := fun rs b B W sc fn X e A G h => by
    cases e with
    | BoolOp op vs p =>
      match vs, h with
      | x :: y :: r, h =>
        obtain ⟨h, h3⟩ := and2 (show (isAnd op && fitE T.F a sc fn x && (match (generalizing := false) r with
          | [] => fitE T.F c sc fn y
          | _ => fitE T.F c sc fn (.BoolOp .And (y :: r) p))) = true from h)
        obtain ⟨h1, h2⟩ := and2 h
        have h1 := isAnd_t h1
        subst h1
        refine PE.imp (pe_andT (ha.pe rs b B W sc fn X x A G h2) (an_rest .And A G (fun e he => hc.pe rs b B W sc fn X e A G he) h3)) fun σ H Q q => ?_
        obtain ⟨st, ρ, env, S, er, q⟩ := q
        refine ⟨st, ρ, env, S, er, Fin.step (Fin.g q) fun d st1 v H1 ρ1 x1 S1 r1 q => ?_⟩
        cases ht : truth st1 d with
        | none => simp only [ht] at q; exact q.elim
        | some k =>
          refine ⟨k, by rw [G.hK]; exact truth_rd S1 r1 ht, ?_⟩
          cases k with
          | true => simp only [ht] at q; exact ⟨st1, ρ1, env, S1, er.ext x1, FinG.fin q⟩
          | false => simp only [ht] at q; exact FinG.ok S1 q _ r1
    | _ => cases h
  pt := fun rs b B W sc fn X e A G h => by
    cases e with
    | BoolOp op vs p =>
      match vs, h with
      | x :: y :: r, h =>
        obtain ⟨h, h3⟩ := and2 (show (isAnd op && fitT T.F a sc fn x && (match (generalizing := false) r with
          | [] => fitT T.F c sc fn y
          | _ => fitT T.F c sc fn (.BoolOp .And (y :: r) p))) = true from h)
        obtain ⟨h1, h2⟩ := and2 h
        have h1 := isAnd_t h1
        subst h1
        refine PT.imp (PW.pt (pw_and (ha.pt rs b B W sc fn X x A G h2) (pw_rest .And (fun e he => hc.pt rs b B W sc fn X e A G he) h3))) fun σ H Q q => ?_
        obtain ⟨st, ρ, env, S, er, q⟩ := q
        refine ⟨st, ρ, env, S, er, ?_⟩
        have q := needB_then (show FinG T.K (T.Z.rsv rs) (b :: B) (WX.at W σ) H ρ (needB ((den T.C b a env st).then fun u st1 => match truth st1 u with
          | some true => den T.C b c env st1
          | some false => .ok u st1
          | none => .bad)) _ from q)
        refine needB_tru q (fun d st1 ht => by rw [ht]; rfl) fun d st1 k H1 ρ1 x1 S1 ht q => ?_
        rw [ht] at q
        cases k with
        | true => exact ⟨st1, ρ1, env, S1, er.ext x1, q⟩
        | false =>
          have q : FinG T.K (T.Z.rsv rs) (b :: B) (WX.at W σ) H1 ρ1 (Res.of (truth st1 d) st1) _ := q
          rw [ht] at q
          exact FinG.ok S1 q
    | _ => cases h
  pa := fun rs b B W sc fn X es A G h => by cases es <;> cases h
  pi := fun rs b B W sc fn X tg e A G h => by cases e <;> cases h
theorem snd_or {a c : ME} (ha : Snd T a) (hc : Snd T c) : Snd T (.or a c) where
  pe := fun rs b B W sc fn X e A G h => by
    cases e with
    | BoolOp op vs p =>
      match vs, h with
      | x :: y :: r, h =>
        obtain ⟨h, h3⟩ := and2 (show (!isAnd op && fitE T.F a sc fn x && (match (generalizing := false) r with
          | [] => fitE T.F c sc fn y
          | _ => fitE T.F c sc fn (.BoolOp .Or (y :: r) p))) = true from h)
        obtain ⟨h1, h2⟩ := and2 h
        have h1 := isAnd_f h1
        subst h1
        refine PE.imp (pe_orT (ha.pe rs b B W sc fn X x A G h2) (an_rest .Or A G (fun e he => hc.pe rs b B W sc fn X e A G he) h3)) fun σ H Q q => ?_
        obtain ⟨st, ρ, env, S, er, q⟩ := q
        refine ⟨st, ρ, env, S, er, Fin.step (Fin.g q) fun d st1 v H1 ρ1 x1 S1 r1 q => ?_⟩
        cases ht : truth st1 d with
        | none => simp only [ht] at q; exact q.elim
        | some k =>
          refine ⟨k, by rw [G.hK]; exact truth_rd S1 r1 ht, ?_⟩
          cases k with
          | false => simp only [ht] at q; exact ⟨st1, ρ1, env, S1, er.ext x1, FinG.fin q⟩
          | true => simp only [ht] at q; exact FinG.ok S1 q _ r1
    | _ => cases h
  pt := fun rs b B W sc fn X e A G h => by
    cases e with
    | BoolOp op vs p =>
      match vs, h with
      | x :: y :: r, h =>
        obtain ⟨h, h3⟩ := and2 (show (!isAnd op && fitT T.F a sc fn x && (match (generalizing := false) r with
          | [] => fitT T.F c sc fn y
          | _ => fitT T.F c sc fn (.BoolOp .Or (y :: r) p))) = true from h)
        obtain ⟨h1, h2⟩ := and2 h
        have h1 := isAnd_f h1
        subst h1
        refine PT.imp (PW.pt (pw_or (ha.pt rs b B W sc fn X x A G h2) (pw_rest .Or (fun e he => hc.pt rs b B W sc fn X e A G he) h3))) fun σ H Q q => ?_
        obtain ⟨st, ρ, env, S, er, q⟩ := q
        refine ⟨st, ρ, env, S, er, ?_⟩
        have q := needB_then (show FinG T.K (T.Z.rsv rs) (b :: B) (WX.at W σ) H ρ (needB ((den T.C b a env st).then fun u st1 => match truth st1 u with
          | some true => .ok u st1
          | some false => den T.C b c env st1
          | none => .bad)) _ from q)
        refine needB_tru q (fun d st1 ht => by rw [ht]; rfl) fun d st1 k H1 ρ1 x1 S1 ht q => ?_
        rw [ht] at q
        cases k with
        | false => exact ⟨st1, ρ1, env, S1, er.ext x1, q⟩
        | true =>
          have q : FinG T.K (T.Z.rsv rs) (b :: B) (WX.at W σ) H1 ρ1 (Res.of (truth st1 d) st1) _ := q
          rw [ht] at q
          exact FinG.ok S1 q
    | _ => cases h
  pa := fun rs b B W sc fn X es A G h => by cases es <;> cases h
  pi := fun rs b B W sc fn X tg e A G h => by cases e <;> cases h
end
end MP

set_option autoImplicit false
set_option linter.all false
set_option maxRecDepth 100000
/-! Mp12: comparisons, rows, calls. -/
namespace MP
open PySem PySem.Spec PyProof.Rows L2
section
variable {T : Ct} {rs : List Addr} {b : Nat} {B : List Nat} {W : WX} {sc : Scope} {fn : Str → Bool} {X : Cx}

theorem fin_map {K : PySem.W.Frag} {Z : Ad} {B : List Nat} {E : XK} {H : Hp} {ρ : Rho} {st : Store} {α : Type} {o : Option α} {g : α → D} {Tt : D → Store → Hp → Rho → Prop} (h : FinG K Z B E H ρ (Res.of (o.map g) st) Tt) : ∃ a, o = some a ∧ FinG K Z B E H ρ (.ok (g a) st) Tt := by
  cases o with
  | none => exact h.elim
  | some a => exact ⟨a, rfl, h⟩
theorem needB_map {K : PySem.W.Frag} {Z : Ad} {B : List Nat} {E : XK} {H : Hp} {ρ : Rho} {st : Store} {o : Option Bool} {Tt : Bool → Store → Hp → Rho → Prop} (h : FinG K Z B E H ρ (needB (Res.of (o.map .bl) st)) Tt) : ∃ a, o = some a ∧ FinG K Z B E H ρ (.ok a st) Tt := by
  cases o with
  | none => exact h.elim
  | some a => exact ⟨a, rfl, h⟩
theorem needB_then2 {K : PySem.W.Frag} {Z : Ad} {B : List Nat} {E : XK} {H : Hp} {ρ : Rho} {r : Res D} {f : D → Store → Res D} {Tt : Bool → Store → Hp → Rho → Prop} (h : FinG K Z B E H ρ (needB (r.then f)) Tt) : FinG K Z B E H ρ (r.then fun u st1 => needB (f u st1)) Tt := by
  cases r <;> exact h
theorem cmp_pe {a c : ME} (o : COp) (ha : Snd T a) (hc : Snd T c) (A : Fa T) (G : Gd T b B sc fn X W) {x y : Expr} {op : CmpOp} {p : Pos} (h : (decide (op = copOf o) && behindInMarks op y == false && fitE T.F a sc fn x && fitE T.F c sc fn y) = true) :
    PE X (.Compare x [op] [y] p) (tE T rs b B W (.cmp o a c)) ∧ PT X (.Compare x [op] [y] p) (tT T rs b B W (.cmp o a c)) := by
  obtain ⟨h, h4⟩ := and2 h
  obtain ⟨h, h3⟩ := and2 h
  obtain ⟨h1, h2⟩ := and2 h
  have h1 := of_decide_eq_true h1
  subst h1
  have hu := G.hu
  refine ⟨PE.imp (pe_cmpR (op_cmpD (Z := T.Z.rsv rs) (B := b :: B) G.hK (by omega) o) (ha.pe rs b B W sc fn X x A G h3) (hc.pe rs b B W sc fn X y A G h4) (by simpa using h2)) fun σ H Q q => ?_,
    PT.imp (pt_cmpR (op_cmpD (Z := T.Z.rsv rs) (B := b :: B) G.hK (by omega) o) (ha.pe rs b B W sc fn X x A G h3) (hc.pe rs b B W sc fn X y A G h4) (by simpa using h2)) fun σ H Q q => ?_⟩
  · obtain ⟨st, ρ, env, S, er, q⟩ := q
    refine ⟨st, ρ, env, S, er, Fin.step (Fin.g q) fun d st1 v H1 ρ1 x1 S1 r1 q => ⟨st1, ρ1, env, S1, er.ext x1, Fin.step q fun d2 st2 v2 H2 ρ2 x2 S2 r2 q => ?_⟩⟩
    obtain ⟨k, hk, q⟩ := fin_map q
    exact ⟨st2, ρ2, d, d2, S2, r1.ext x2, r2, k, hk, FinG.ok S2 q _ (.bl _)⟩
  · obtain ⟨st, ρ, env, S, er, q⟩ := q
    have q := needB_then2 (show FinG T.K (T.Z.rsv rs) (b :: B) (WX.at W σ) H ρ (needB ((den T.C b a env st).then fun u st1 => (den T.C b c env st1).then fun v st2 => Res.of ((cmpop o u v st2).map .bl) st2)) _ from q)
    refine ⟨st, ρ, env, S, er, Fin.step q fun d st1 v H1 ρ1 x1 S1 r1 q => ⟨st1, ρ1, env, S1, er.ext x1, Fin.step (needB_then2 q) fun d2 st2 v2 H2 ρ2 x2 S2 r2 q => ?_⟩⟩
    obtain ⟨k, hk, q⟩ := needB_map q
    exact ⟨st2, ρ2, d, d2, S2, r1.ext x2, r2, k, hk, k, rfl, FinG.ok S2 q⟩
theorem snd_cmp {a c : ME} (o : COp) (ha : Snd T a) (hc : Snd T c) : Snd T (.cmp o a c) where
  pe := fun rs b B W sc fn X e A G h => by
    cases e with
    | Compare x ops ys p =>
      match ops, ys, h with
      | [op], [y], h => exact (cmp_pe o ha hc A G h).1
    | _ => cases h
  pt := fun rs b B W sc fn X e A G h => by
    cases e with
    | Compare x ops ys p =>
      match ops, ys, h with
      | [op], [y], h => exact (cmp_pe o ha hc A G h).2
    | _ => cases h
  pa := fun rs b B W sc fn X es A G h => by cases es <;> cases h
  pi := fun rs b B W sc fn X tg e A G h => by cases e <;> cases h
theorem cmp2_pe {a c d : ME} (o u : COp) (ha : Snd T a) (hc : Snd T c) (hd : Snd T d) (A : Fa T) (G : Gd T b B sc fn X W) {x y z : Expr} {op op' : CmpOp} {p : Pos} (h : (decide (op = copOf o) && decide (op' = copOf u) && lastMarks [op, op'] [y, z] == false && fitE T.F a sc fn x && fitE T.F c sc fn y && fitE T.F d sc fn z) = true) :
    PE X (.Compare x [op, op'] [y, z] p) (tE T rs b B W (.cmp2 o u a c d)) ∧ PT X (.Compare x [op, op'] [y, z] p) (tT T rs b B W (.cmp2 o u a c d)) := by
  obtain ⟨h, h6⟩ := and2 h
  obtain ⟨h, h5⟩ := and2 h
  obtain ⟨h, h4⟩ := and2 h
  obtain ⟨h, h3⟩ := and2 h
  obtain ⟨h1, h2⟩ := and2 h
  have h1 := of_decide_eq_true h1
  have h2 := of_decide_eq_true h2
  subst h1 h2
  have hu := G.hu
  have O1 := op_cmpD (X := X) (Z := T.Z.rsv rs) (B := b :: B) G.hK (by omega) o
  have O2 := op_cmpD (X := X) (Z := T.Z.rsv rs) (B := b :: B) G.hK (by omega) u
  have P1 := ha.pe rs b B W sc fn X x A G h4
  have P2 := hc.pe rs b B W sc fn X y A G h5
  have P3 := hd.pe rs b B W sc fn X z A G h6
  refine ⟨PE.imp (pe_chain O1 O2 P1 P2 P3 (by simpa using h3)) fun σ H Q q => ?_, PT.imp (pt_chain O1 O2 P1 P2 P3 (by simpa using h3)) fun σ H Q q => ?_⟩
  · obtain ⟨st, ρ, env, S, er, q⟩ := q
    refine ⟨st, ρ, env, S, er, Fin.step (Fin.g q) fun d1 st1 v H1 ρ1 x1 S1 r1 q => ⟨st1, ρ1, env, S1, er.ext x1, Fin.step q fun d2 st2 v2 H2 ρ2 x2 S2 r2 q => ?_⟩⟩
    cases hk : cmpop o d1 d2 st2 with
    | none => simp only [hk] at q; exact q.elim
    | some k =>
      refine ⟨st2, ρ2, d1, d2, S2, r1.ext x2, r2, k, hk, k, rfl, ?_⟩
      cases k with
      | false => simp only [hk] at q; exact FinG.ok S2 q _ (.bl _)
      | true =>
        simp only [hk] at q
        refine ⟨st2, ρ2, env, S2, (er.ext x1).ext x2, Fin.step q fun d3 st3 v3 H3 ρ3 x3 S3 r3 q => ?_⟩
        obtain ⟨k, hk, q⟩ := fin_map q
        exact ⟨st3, ρ3, d2, d3, S3, r2.ext x3, r3, k, hk, FinG.ok S3 q _ (.bl _)⟩
  · obtain ⟨st, ρ, env, S, er, q⟩ := q
    have q := needB_then2 (show FinG T.K (T.Z.rsv rs) (b :: B) (WX.at W σ) H ρ (needB ((den T.C b a env st).then fun u1 st1 => (den T.C b c env st1).then fun v st2 => match cmpop o u1 v st2 with
      | some true => (den T.C b d env st2).then fun t st3 => Res.of ((cmpop u v t st3).map .bl) st3
      | some false => .ok (.bl false) st2
      | none => .bad)) _ from q)
    refine ⟨st, ρ, env, S, er, Fin.step q fun d1 st1 v H1 ρ1 x1 S1 r1 q => ⟨st1, ρ1, env, S1, er.ext x1, Fin.step (needB_then2 q) fun d2 st2 v2 H2 ρ2 x2 S2 r2 q => ?_⟩⟩
    cases hk : cmpop o d1 d2 st2 with
    | none => simp only [hk] at q; exact q.elim
    | some k =>
      refine ⟨st2, ρ2, d1, d2, S2, r1.ext x2, r2, k, hk, k, rfl, ?_⟩
      cases k with
      | false => simp only [hk] at q; exact ⟨false, rfl, FinG.ok S2 q⟩
      | true =>
        simp only [hk] at q
        refine ⟨st2, ρ2, env, S2, (er.ext x1).ext x2, Fin.step (needB_then2 q) fun d3 st3 v3 H3 ρ3 x3 S3 r3 q => ?_⟩
        obtain ⟨k, hk, q⟩ := needB_map q
        exact ⟨st3, ρ3, d2, d3, S3, r2.ext x3, r3, k, hk, k, rfl, FinG.ok S3 q⟩
theorem snd_cmp2 {a c d : ME} (o u : COp) (ha : Snd T a) (hc : Snd T c) (hd : Snd T d) : Snd T (.cmp2 o u a c d) where
  pe := fun rs b B W sc fn X e A G h => by
    cases e with
    | Compare x ops ys p =>
      match ops, ys, h with
      | [op, op'], [y, z], h => exact (cmp2_pe o u ha hc hd A G h).1
    | _ => cases h
  pt := fun rs b B W sc fn X e A G h => by
    cases e with
    | Compare x ops ys p =>
      match ops, ys, h with
      | [op, op'], [y, z], h => exact (cmp2_pe o u ha hc hd A G h).2
    | _ => cases h
  pa := fun rs b B W sc fn X es A G h => by cases es <;> cases h
  pi := fun rs b B W sc fn X tg e A G h => by cases e <;> cases h
theorem rd_non {K : PySem.W.Frag} {Z : Ad} {H : Hp} {ρ : Rho} {d : D} {v : V} (r : RD K Z H ρ d v) : nonB d = decide (v = .non) := by
  cases r <;> simp [nonB]
theorem con_none {c : Const} (h : conB .non c = true) : c = .none := by cases c <;> first | rfl | cases h
theorem isn_pe {a : ME} (ha : Snd T a) (A : Fa T) (G : Gd T b B sc fn X W) {x : Expr} {op : CmpOp} {c : Const} {j : Nat} {p p' : Pos} (h : (decide (op = .Is) && conB .non c && fitE T.F a sc fn x) = true) :
    PE X (.Compare x [op] [.Constant c j p'] p) (tE T rs b B W (.isn a)) ∧ PT X (.Compare x [op] [.Constant c j p'] p) (tT T rs b B W (.isn a)) := by
  obtain ⟨h, h3⟩ := and2 h
  obtain ⟨h1, h2⟩ := and2 h
  have h1 := of_decide_eq_true h1
  subst h1
  have h2 := con_none h2
  subst h2
  refine ⟨PE.imp (pe_cmp (pc_isN (ha.pe rs b B W sc fn X x A G h3))) fun σ H Q q => ?_, PT.imp (pt_cmp (pc_isN (ha.pe rs b B W sc fn X x A G h3))) fun σ H Q q => ?_⟩
  · obtain ⟨st, ρ, env, S, er, q⟩ := q
    refine ⟨st, ρ, env, S, er, Fin.step (Fin.g q) fun d st1 v H1 ρ1 x1 S1 r1 q => ?_⟩
    have q := FinG.ok S1 q (.bl (decide (v = .non))) (by rw [← rd_non r1]; exact .bl _)
    exact q
  · obtain ⟨st, ρ, env, S, er, q⟩ := q
    have q := needB_then2 (show FinG T.K (T.Z.rsv rs) (b :: B) (WX.at W σ) H ρ (needB ((den T.C b a env st).then fun u st1 => .ok (.bl (nonB u)) st1)) _ from q)
    refine ⟨st, ρ, env, S, er, Fin.step q fun d st1 v H1 ρ1 x1 S1 r1 q => ⟨_, rfl, ?_⟩⟩
    rw [← rd_non r1]
    exact FinG.ok S1 q
theorem notn_pe {a : ME} (ha : Snd T a) (A : Fa T) (G : Gd T b B sc fn X W) {x : Expr} {op : CmpOp} {c : Const} {j : Nat} {p p' : Pos} (h : (decide (op = .IsNot) && conB .non c && fitE T.F a sc fn x) = true) :
    PE X (.Compare x [op] [.Constant c j p'] p) (tE T rs b B W (.notn a)) ∧ PT X (.Compare x [op] [.Constant c j p'] p) (tT T rs b B W (.notn a)) := by
  obtain ⟨h, h3⟩ := and2 h
  obtain ⟨h1, h2⟩ := and2 h
  have h1 := of_decide_eq_true h1
  subst h1
  have h2 := con_none h2
  subst h2
  refine ⟨PE.imp (pe_cmp (pc_notN (ha.pe rs b B W sc fn X x A G h3))) fun σ H Q q => ?_, PT.imp (pt_cmp (pc_notN (ha.pe rs b B W sc fn X x A G h3))) fun σ H Q q => ?_⟩
  · obtain ⟨st, ρ, env, S, er, q⟩ := q
    refine ⟨st, ρ, env, S, er, Fin.step (Fin.g q) fun d st1 v H1 ρ1 x1 S1 r1 q => ?_⟩
    have q := FinG.ok S1 q (.bl (!decide (v = .non))) (by rw [← rd_non r1]; exact .bl _)
    exact q
  · obtain ⟨st, ρ, env, S, er, q⟩ := q
    have q := needB_then2 (show FinG T.K (T.Z.rsv rs) (b :: B) (WX.at W σ) H ρ (needB ((den T.C b a env st).then fun u st1 => .ok (.bl (!nonB u)) st1)) _ from q)
    refine ⟨st, ρ, env, S, er, Fin.step q fun d st1 v H1 ρ1 x1 S1 r1 q => ⟨_, rfl, ?_⟩⟩
    rw [← rd_non r1]
    exact FinG.ok S1 q
theorem snd_isn {a : ME} (ha : Snd T a) : Snd T (.isn a) where
  pe := fun rs b B W sc fn X e A G h => by
    cases e with
    | Compare x ops ys p =>
      match ops, ys, h with
      | [op], [.Constant c j p'], h => exact (isn_pe ha A G h).1
    | _ => cases h
  pt := fun rs b B W sc fn X e A G h => by
    cases e with
    | Compare x ops ys p =>
      match ops, ys, h with
      | [op], [.Constant c j p'], h => exact (isn_pe ha A G h).2
    | _ => cases h
  pa := fun rs b B W sc fn X es A G h => by cases es <;> cases h
  pi := fun rs b B W sc fn X tg e A G h => by cases e <;> cases h
theorem snd_notn {a : ME} (ha : Snd T a) : Snd T (.notn a) where
  pe := fun rs b B W sc fn X e A G h => by
    cases e with
    | Compare x ops ys p =>
      match ops, ys, h with
      | [op], [.Constant c j p'], h => exact (notn_pe ha A G h).1
    | _ => cases h
  pt := fun rs b B W sc fn X e A G h => by
    cases e with
    | Compare x ops ys p =>
      match ops, ys, h with
      | [op], [.Constant c j p'], h => exact (notn_pe ha A G h).2
    | _ => cases h
  pa := fun rs b B W sc fn X es A G h => by cases es <;> cases h
  pi := fun rs b B W sc fn X tg e A G h => by cases e <;> cases h
theorem snd_ite {c x y : ME} (hc : Snd T c) (hx : Snd T x) (hy : Snd T y) : Snd T (.ite c x y) where
  pe := fun rs b B W sc fn X e A G h => by
    cases e with
    | IfExp t e1 e2 p =>
      obtain ⟨h, h3⟩ := and2 (show (fitT T.F c sc fn t && fitE T.F x sc fn e1 && fitE T.F y sc fn e2) = true from h)
      obtain ⟨h1, h2⟩ := and2 h
      refine PE.imp (pe_ifExp (hc.pt rs b B W sc fn X t A G h1) (hx.pe rs b B W sc fn X e1 A G h2) (hy.pe rs b B W sc fn X e2 A G h3)) fun σ H Q q => ?_
      obtain ⟨st, ρ, env, S, er, q⟩ := q
      refine ⟨st, ρ, env, S, er, (FinG.bind (Fin.g q)).imp fun k st1 H1 ρ1 x1 S1 q => ?_⟩
      cases k with
      | true => exact ⟨st1, ρ1, env, S1, er.ext x1, FinG.fin q⟩
      | false => exact ⟨st1, ρ1, env, S1, er.ext x1, FinG.fin q⟩
    | _ => cases h
  pt := fun rs b B W sc fn X e A G h => by cases e <;> cases h
  pa := fun rs b B W sc fn X es A G h => by cases es <;> cases h
  pi := fun rs b B W sc fn X tg e A G h => by cases e <;> cases h

/-! ### rows -/
theorem snd_no : Snd T .no where
  pe := fun rs b B W sc fn X e A G h => by cases e <;> cases h
  pt := fun rs b B W sc fn X e A G h => by cases e <;> cases h
  pa := fun rs b B W sc fn X es A G h => by
    cases es with
    | nil =>
      refine PA.imp pa_nil fun σ H Q q => ?_
      obtain ⟨st, ρ, env, S, er, q⟩ := q
      obtain ⟨ds, e, q⟩ := FinG.ok S q
      cases e
      exact q [] .nil
    | cons _ _ => cases h
  pi := fun rs b B W sc fn X tg e A G h => by cases e <;> cases h
theorem Fin.stepA {K : PySem.W.Frag} {Z : Ad} {B : List Nat} {E : XK} {H : Hp} {ρ : Rho} {r : Res D} {β : Type} {f : D → Store → Res β} {Tt : β → Store → Hp → Rho → Prop} {Tb : D → Store → Hp → Rho → Prop} (h : FinG K Z B E H ρ (r.then f) Tt)
    (k : ∀ d st1 H1 ρ1, Ext H ρ H1 ρ1 → Sim K Z B st1 H1 ρ1 → FinG K Z B E H1 ρ1 (f d st1) Tt → Tb d st1 H1 ρ1) : FinG K Z B E H ρ r Tb := (FinG.bind h).imp k
theorem snd_cons {a r : ME} (ha : Snd T a) (hr : Snd T r) : Snd T (.cons a r) where
  pe := fun rs b B W sc fn X e A G h => by cases e <;> cases h
  pt := fun rs b B W sc fn X e A G h => by cases e <;> cases h
  pa := fun rs b B W sc fn X es A G h => by
    cases es with
    | nil => cases h
    | cons e es =>
      obtain ⟨h, h3⟩ := and2 (show (!isStar e && fitE T.F a sc fn e && fitA T.F r sc fn es) = true from h)
      obtain ⟨h1, h2⟩ := and2 h
      refine PA.imp (pa_cons (ha.pe rs b B W sc fn X e A G h2) (hr.pa rs b B W sc fn X es A G h3) (star_cons (by simpa using h1))) fun σ H Q q => ?_
      obtain ⟨st, ρ, env, S, er, q⟩ := q
      refine ⟨st, ρ, env, S, er, Fin.step q fun d st1 v H1 ρ1 x1 S1 r1 q => ⟨st1, ρ1, env, S1, er.ext x1, Fin.stepA q fun d2 st2 H2 ρ2 x2 S2 q => ?_⟩⟩
      cases d2 with
      | tup ys =>
        obtain ⟨ds, e, q⟩ := FinG.ok S2 q
        cases e
        exact ⟨ys, rfl, fun vs r2 => q (v :: vs) (.cons (r1.ext x2) r2)⟩
      | _ => exact q.elim
  pi := fun rs b B W sc fn X tg e A G h => by cases e <;> cases h
theorem snd_star {a r : ME} (ha : Snd T a) (hr : Snd T r) : Snd T (.star a r) where
  pe := fun rs b B W sc fn X e A G h => by cases e <;> cases h
  pt := fun rs b B W sc fn X e A G h => by cases e <;> cases h
  pa := fun rs b B W sc fn X es A G h => by
    cases es with
    | nil => cases h
    | cons e es =>
      cases e with
      | Starred e p =>
        obtain ⟨h1, h2⟩ := and2 (show (fitE T.F a sc fn e && fitA T.F r sc fn es) = true from h)
        refine PA.imp (StX.pa_star (ha.pe rs b B W sc fn X e A G h1) (hr.pa rs b B W sc fn X es A G h2)) fun σ H Q q => ?_
        obtain ⟨st, ρ, env, S, er, q⟩ := q
        refine ⟨st, ρ, env, S, er, Fin.step q fun d st1 v H1 ρ1 x1 S1 r1 q => ?_⟩
        cases hs : seqOf st1 d with
        | none => simp only [hs] at q; exact q.elim
        | some zs =>
          simp only [hs] at q
          obtain ⟨p, vs, rfl, hq, rz⟩ := seqOf_rd S1 r1 hs
          refine ⟨p, vs, rfl, by rw [G.hK]; exact hq.symm, st1, ρ1, env, S1, er.ext x1, Fin.stepA q fun d2 st2 H2 ρ2 x2 S2 q => ?_⟩
          cases d2 with
          | tup ys =>
            by_cases hl : zs.length + ys.length ≤ LINE
            · simp only [if_pos hl] at q
              obtain ⟨ds, e, q⟩ := FinG.ok S2 q
              cases e
              exact ⟨ys, rfl, fun us r2 => q (vs ++ us) ((rz.ext x2).append r2)⟩
            · simp only [if_neg hl] at q; exact q.elim
          | _ => exact q.elim
      | _ => cases h
  pi := fun rs b B W sc fn X tg e A G h => by cases e <;> cases h
/-- a row's length -/
theorem row_len (F : Ft) (C : Cal) (b : Nat) : ∀ (m : ME) (sc : Scope) (fn : Str → Bool) (es : List Expr) (env : Env) (st : Store) (ds : List D) (st' : Store), fitA F m sc fn es = true → den C b m env st = .ok (D.tup ds) st' → ds.length ≤ LINE + es.length := by
  intro m
  induction m with
  | no =>
    intro sc fn es env st ds st' h e
    cases e
    simp
  | cons a r _ ihr =>
    intro sc fn es env st ds st' h e
    cases es with
    | nil => cases h
    | cons x es =>
      obtain ⟨_, h3⟩ := and2 (show (!isStar x && fitE F a sc fn x && fitA F r sc fn es) = true from h)
      have e2 : ((den C b a env st).then fun x st1 => (den C b r env st1).then fun xs st2 => (match xs with
        | D.tup ys => Res.ok (D.tup (x :: ys)) st2
        | _ => .bad)) = Res.ok (D.tup ds) st' := e
      cases ha : den C b a env st with
      | ok x1 st1 =>
        rw [ha] at e2
        have e2 : ((den C b r env st1).then fun xs st2 => (match xs with
          | D.tup ys => Res.ok (D.tup (x1 :: ys)) st2
          | _ => .bad)) = Res.ok (D.tup ds) st' := e2
        cases hr : den C b r env st1 with
        | ok d2 st2 =>
          rw [hr] at e2
          cases d2 <;> first | cases e2 | skip
          have := ihr sc fn es env st1 _ _ h3 hr
          simp only [List.length_cons]; omega
        | exc _ _ => rw [hr] at e2; cases e2
        | bad => rw [hr] at e2; cases e2
      | exc _ _ => rw [ha] at e2; cases e2
      | bad => rw [ha] at e2; cases e2
  | star a r _ ihr =>
    intro sc fn es env st ds st' h e
    have e2 : ((den C b a env st).then fun x st1 => (match seqOf st1 x with
      | some zs => (den C b r env st1).then fun xs st2 => (match xs with
        | D.tup ys => if zs.length + ys.length ≤ LINE then Res.ok (D.tup (zs ++ ys)) st2 else .bad
        | _ => .bad)
      | none => .bad)) = Res.ok (D.tup ds) st' := e
    cases ha : den C b a env st with
    | ok x1 st1 =>
      rw [ha] at e2
      have e2 : (match seqOf st1 x1 with
        | some zs => (den C b r env st1).then fun xs st2 => (match xs with
          | D.tup ys => if zs.length + ys.length ≤ LINE then Res.ok (D.tup (zs ++ ys)) st2 else .bad
          | _ => .bad)
        | none => .bad) = Res.ok (D.tup ds) st' := e2
      split at e2
      · cases hr : den C b r env st1 with
        | ok d2 st2 =>
          rw [hr] at e2
          cases d2 with
          | tup ys =>
            rename_i zs _
            have e2 : (if zs.length + ys.length ≤ LINE then Res.ok (.tup (zs ++ ys)) st2 else .bad) = Res.ok (D.tup ds) st' := e2
            split at e2
            · cases e2
              rw [List.length_append]; omega
            · cases e2
          | _ => cases e2
        | exc _ _ => rw [hr] at e2; cases e2
        | bad => rw [hr] at e2; cases e2
      · cases e2
    | exc _ _ => rw [ha] at e2; cases e2
    | bad => rw [ha] at e2; cases e2
  | _ => intro sc fn es env st ds st' h e; cases es <;> cases h
theorem line_big : LINE + 1000 ≤ sizeLine := by rw [sizeLine_eq]; decide
theorem row_fin {es : ME} {xs : List Expr} {σ : L2.St} {H : Hp} {ρ : Rho} {st : Store} {env : Env} {f : D → Store → Res D} {Q : VK} {Qa : List V → Hp → Prop} (h2 : fitA T.F es sc fn xs = true) (hx : decide (xs.length ≤ 1000) = true)
    (q : Fin T.K (T.Z.rsv rs) (b :: B) (WX.at W σ) H ρ ((den T.C b es env st).then f) Q) (hf : ∀ d st1, (∀ ds, d ≠ .tup ds) → f d st1 = .bad)
    (k : ∀ ds st1 vs H1 ρ1, Ext H ρ H1 ρ1 → Sim T.K (T.Z.rsv rs) (b :: B) st1 H1 ρ1 → RDs T.K (T.Z.rsv rs) H1 ρ1 ds vs → vs.length ≤ sizeLine → Fin T.K (T.Z.rsv rs) (b :: B) (WX.at W σ) H1 ρ1 (f (.tup ds) st1) Q → Qa vs H1) :
    FinG T.K (T.Z.rsv rs) (b :: B) (WX.at W σ) H ρ (den T.C b es env st) (ArgT T rs Qa) := by
  cases hr : den T.C b es env st with
  | ok d st1 =>
    rw [hr] at q
    intro H1 ρ1 x1 S1
    by_cases hd : ∃ ds, d = .tup ds
    · obtain ⟨ds, rfl⟩ := hd
      have hl := row_len T.F T.C b es sc fn xs env st ds st1 h2 hr
      have := line_big
      have h1 := of_decide_eq_true hx
      exact ⟨ds, rfl, fun vs r => k ds st1 vs H1 ρ1 x1 S1 r (by rw [← r.length]; omega) (Fin.ext x1 q)⟩
    · have q : Fin T.K (T.Z.rsv rs) (b :: B) (WX.at W σ) H ρ (f d st1) Q := q
      rw [hf d st1 fun ds e => hd ⟨ds, e⟩] at q
      exact q.elim
  | exc x st1 => rw [hr] at q; exact q
  | bad => rw [hr] at q; exact q.elim
theorem snd_tup {es : ME} (hs : Snd T es) : Snd T (.tup es) where
  pe := fun rs b B W sc fn X e A G h => by
    cases e with
    | Tuple xs k p =>
      obtain ⟨h1, h2⟩ := and2 (show (decide (xs.length ≤ 1000) && fitA T.F es sc fn xs) = true from h)
      refine PE.imp (pe_tup (hs.pa rs b B W sc fn X xs A G h2)) fun σ H Q q => ?_
      obtain ⟨st, ρ, env, S, er, q⟩ := q
      exact ⟨st, ρ, env, S, er, row_fin h2 h1 q (fun d st1 hd => by cases d <;> first | rfl | exact absurd rfl (hd _)) fun ds st1 vs H1 ρ1 x1 S1 r hl q => ⟨hl, fun p hp => Fin.newT S1 hp r q⟩⟩
    | _ => cases h
  pt := fun rs b B W sc fn X e A G h => by cases e <;> cases h
  pa := fun rs b B W sc fn X es A G h => by cases es <;> cases h
  pi := fun rs b B W sc fn X tg e A G h => by cases e <;> cases h
theorem snd_lst {es : ME} (m : Bool) (hs : Snd T es) : Snd T (.lst m es) where
  pe := fun rs b B W sc fn X e A G h => by
    cases e with
    | List xs p =>
      obtain ⟨h1, h2⟩ := and2 (show (decide (xs.length ≤ 1000) && fitA T.F es sc fn xs) = true from h)
      refine PE.imp (pe_lst (hs.pa rs b B W sc fn X xs A G h2)) fun σ H Q q => ?_
      obtain ⟨st, ρ, env, S, er, q⟩ := q
      exact ⟨st, ρ, env, S, er, row_fin h2 h1 q (fun d st1 hd => by cases d <;> first | rfl | exact absurd rfl (hd _)) fun ds st1 vs H1 ρ1 x1 S1 r hl q => ⟨hl, fun p hp => Fin.newL S1 hp r q⟩⟩
    | _ => cases h
  pt := fun rs b B W sc fn X e A G h => by cases e <;> cases h
  pa := fun rs b B W sc fn X es A G h => by cases es <;> cases h
  pi := fun rs b B W sc fn X tg e A G h => by cases e <;> cases h
/-- arguments as they come -/
theorem row_any {es : ME} {σ : L2.St} {H : Hp} {ρ : Rho} {st : Store} {env : Env} {f : D → Store → Res D} {Tt : D → Store → Hp → Rho → Prop} {Qa : List V → Hp → Prop}
    (q : FinG T.K (T.Z.rsv rs) (b :: B) (WX.at W σ) H ρ ((den T.C b es env st).then f) Tt) (hf : ∀ d st1, (∀ ds, d ≠ .tup ds) → f d st1 = .bad)
    (k : ∀ ds st1 vs H1 ρ1, Ext H ρ H1 ρ1 → Sim T.K (T.Z.rsv rs) (b :: B) st1 H1 ρ1 → RDs T.K (T.Z.rsv rs) H1 ρ1 ds vs → FinG T.K (T.Z.rsv rs) (b :: B) (WX.at W σ) H1 ρ1 (f (.tup ds) st1) Tt → Qa vs H1) :
    FinG T.K (T.Z.rsv rs) (b :: B) (WX.at W σ) H ρ (den T.C b es env st) (ArgT T rs Qa) := by
  cases hr : den T.C b es env st with
  | ok d st1 =>
    rw [hr] at q
    intro H1 ρ1 x1 S1
    by_cases hd : ∃ ds, d = .tup ds
    · obtain ⟨ds, rfl⟩ := hd
      exact ⟨ds, rfl, fun vs r => k ds st1 vs H1 ρ1 x1 S1 r (FinG.ext x1 q)⟩
    · have q : FinG T.K (T.Z.rsv rs) (b :: B) (WX.at W σ) H ρ (f d st1) Tt := q
      rw [hf d st1 fun ds e => hd ⟨ds, e⟩] at q
      exact q.elim
  | exc x st1 => rw [hr] at q; exact q
  | bad => rw [hr] at q; exact q.elim
/-! ### items, slices -/
theorem ix_pe {a i : ME} (ha : Snd T a) (hi : Snd T i) (A : Fa T) (G : Gd T b B sc fn X W) {x y : Expr} {p : Pos} (h : (notSl y && fitE T.F a sc fn x && fitE T.F i sc fn y) = true) : PE X (.Subscript x y p) (tE T rs b B W (.ix a i)) := by
  obtain ⟨h, h3⟩ := and2 h
  obtain ⟨h1, h2⟩ := and2 h
  refine PE.imp (pe_ix (ixEx fun E => ix_all (Z := T.Z.rsv rs) (B := b :: B) (W := E) G.hK G.hu) (ha.pe rs b B W sc fn X x A G h2) (hi.pe rs b B W sc fn X y A G h3) (plainIx_of h1)) fun σ H Q q => ?_
  obtain ⟨st, ρ, env, S, er, q⟩ := q
  exact ⟨st, ρ, env, S, er, Fin.step (Fin.g q) fun d st1 v H1 ρ1 x1 S1 r1 q => ⟨st1, ρ1, env, S1, er.ext x1, Fin.step q fun d2 st2 v2 H2 ρ2 x2 S2 r2 q => ⟨WX.at W σ, st2, ρ2, d, d2, S2, r1.ext x2, r2, FinG.fin q⟩⟩⟩
theorem snd_ix {a i : ME} (ha : Snd T a) (hi : Snd T i) : Snd T (.ix a i) where
  pe := fun rs b B W sc fn X e A G h => by
    cases e with
    | Subscript x y p => exact ix_pe ha hi A G h
    | _ => cases h
  pt := fun rs b B W sc fn X e A G h => by
    cases e with
    | Subscript x y p => exact pt_of (ix_pe ha hi A G h) G rfl
    | _ => cases h
  pa := fun rs b B W sc fn X es A G h => by cases es <;> cases h
  pi := fun rs b B W sc fn X tg e A G h => by cases e <;> cases h
theorem po_any {e : Expr} {te : TE} (h : PE X e te) : PO X (some e) fun σ H Q => te σ H fun x H1 => (∃ i, x = .int i ∧ Q (some i) H1) ∨ (x = .non ∧ Q none H1) := by
  refine ⟨fun pins s σ H Q I hw => ?_⟩
  rw [evalPart_some]
  refine thn (h.run pins s σ H _ I hw) fun u s1 ⟨x, H1, I1, r1, q1⟩ => ?_
  rcases q1 with ⟨i, rfl, q⟩ | ⟨rfl, q⟩
  · obtain ⟨t, rfl⟩ := r1
    exact ⟨some i, H1, I1, .int i t, q⟩
  · cases (show u = Value.none from r1)
    exact ⟨none, H1, I1, .none, q⟩
theorem PO.imp {e : Option Expr} {t t' : TO} (h : PO X e t) (k : ∀ σ H Q, t' σ H Q → t σ H Q) : PO X e t' := ⟨fun pins s σ H Q I q => h.run pins s σ H Q I (k σ H Q q)⟩
/-- a slice's end -/
def tO (T : Ct) (rs : List Addr) (b : Nat) (B : List Nat) (W : WX) (m : ME) : TO := fun σ H Q => ∃ st ρ env, Sim T.K (T.Z.rsv rs) (b :: B) st H ρ ∧ EnvR T.K (T.Z.rsv rs) T.cx H ρ env σ ∧ FinG T.K (T.Z.rsv rs) (b :: B) (WX.at W σ) H ρ (den T.C b m env st) fun d _ H' _ => ∃ o, optI d = some o ∧ Q o H'
theorem po_of {m : ME} (hm : Snd T m) (A : Fa T) (G : Gd T b B sc fn X W) {l : Option Expr} (h : (match (generalizing := false) l with
    | none => (match (generalizing := false) m with
      | .k .non => true
      | _ => false)
    | some e => fitE T.F m sc fn e) = true) : PO X l (tO T rs b B W m) := by
  cases l with
  | none =>
    have e : m = .k .non := by
      revert h
      cases m with
      | k d => cases d <;> first | (intro _; rfl) | (intro h; cases h)
      | _ => intro h; cases h
    subst e
    refine PO.imp po_none fun σ H Q q => ?_
    obtain ⟨st, ρ, env, S, er, q⟩ := q
    obtain ⟨o, ho, q⟩ := FinG.ok S q
    cases ho
    exact q
  | some e =>
    refine PO.imp (po_any (hm.pe rs b B W sc fn X e A G h)) fun σ H Q q => ?_
    obtain ⟨st, ρ, env, S, er, q⟩ := q
    refine ⟨st, ρ, env, S, er, FinG.fin (q.imp fun d st1 H1 ρ1 x1 S1 q v r => ?_)⟩
    obtain ⟨o, ho, q⟩ := q
    cases d with
    | non => cases ho; cases r; exact .inr ⟨rfl, q⟩
    | int i => cases ho; cases r; exact .inl ⟨i, rfl, q⟩
    | _ => cases ho
theorem snd_sl {a lo hi : ME} (m : Bool) (ha : Snd T a) (hl : Snd T lo) (hh : Snd T hi) : Snd T (.sl m a lo hi) where
  pe := fun rs b B W sc fn X e A G h => by
    cases e with
    | Subscript x y p =>
      cases y with
      | Slice l u stp p2 =>
        cases stp with
        | none =>
          obtain ⟨h, h3⟩ := and2 (show (fitE T.F a sc fn x && (match (generalizing := false) l with
            | none => (match (generalizing := false) lo with
              | .k .non => true
              | _ => false)
            | some e => fitE T.F lo sc fn e) && (match (generalizing := false) u with
            | none => (match (generalizing := false) hi with
              | .k .non => true
              | _ => false)
            | some e => fitE T.F hi sc fn e)) = true from h)
          obtain ⟨h1, h2⟩ := and2 h
          refine PE.imp (pe_slice (slEx fun E => sl_all (Z := T.Z.rsv rs) (B := b :: B) (W := E) G.hK m) (ha.pe rs b B W sc fn X x A G h1) (po_of (rs := rs) hl A G h2) (po_of (rs := rs) hh A G h3)) fun σ H Q q => ?_
          obtain ⟨st, ρ, env, S, er, q⟩ := q
          refine ⟨st, ρ, env, S, er, Fin.step (Fin.g q) fun d st1 v H1 ρ1 x1 S1 r1 q => ⟨st1, ρ1, env, S1, er.ext x1, (FinG.bind q).imp fun d2 st2 H2 ρ2 x2 S2 q => ?_⟩⟩
          cases ho : optI d2 with
          | none => simp only [ho] at q; exact q.elim
          | some l' =>
            simp only [ho] at q
            refine ⟨l', rfl, st2, ρ2, env, S2, (er.ext x1).ext x2, (FinG.bind q).imp fun d3 st3 H3 ρ3 x3 S3 q => ?_⟩
            cases ho2 : optI d3 with
            | none => simp only [ho2] at q; exact q.elim
            | some h' =>
              simp only [ho2] at q
              exact ⟨h', rfl, WX.at W σ, st3, ρ3, d, S3, (r1.ext x2).ext x3, FinG.fin q⟩
        | some _ => cases h
      | _ => cases h
    | _ => cases h
  pt := fun rs b B W sc fn X e A G h => by cases e <;> cases h
  pa := fun rs b B W sc fn X es A G h => by cases es <;> cases h
  pi := fun rs b B W sc fn X tg e A G h => by cases e <;> cases h
end
end MP

set_option autoImplicit false
set_option linter.all false
set_option maxRecDepth 100000
/-! Mp13: calls, what is walked. -/
namespace MP
open PySem PySem.Spec PyProof.Rows L2
section
variable {T : Ct} {rs : List Addr} {b : Nat} {B : List Nat} {W : WX} {sc : Scope} {fn : Str → Bool} {X : Cx}

/-! ### built-ins -/
theorem CallR.imp {F : Value} {r r' : List V → Hp → VK → Prop} (h : CallR X F r) (k : ∀ xs H Q, r' xs H Q → r xs H Q) : CallR X F r' := fun pins s σ H xs us Q I rv q => h pins s σ H xs us Q I rv (k xs H Q q)
section
variable {K : PySem.W.Frag} {Z : Ad} {E : XK}
theorem bi_one {F : Value} {f : Bi} {isa : Nat → Nat → Bool} {m : Bool} (h2 : ∀ x y st, bfun2 isa f x y st = .bad) (h : CallR X F (rFn K Z B E fun ds st => match ds with
    | [x] => bfun1 f m x st
    | _ => .bad)) : CallR X F (rFn K Z B E (bfun isa f m)) := CallR.imp h fun xs H Q ⟨st, ρ, ds, S, r, q⟩ => ⟨st, ρ, ds, S, r, by
  match ds, q with
  | [], q => exact q
  | [x], q => exact q
  | [x, y], q =>
    have q : Fin K Z B E H ρ (bfun2 isa f x y st) Q := q
    rw [h2] at q
    exact q.elim
  | x :: y :: z :: t, q => exact q⟩
theorem bi_two {F : Value} {f : Bi} {isa : Nat → Nat → Bool} {m : Bool} (h1 : ∀ x st, bfun1 f m x st = .bad) (h : CallR X F (rFn K Z B E fun ds st => match ds with
    | [x, y] => bfun2 isa f x y st
    | _ => .bad)) : CallR X F (rFn K Z B E (bfun isa f m)) := CallR.imp h fun xs H Q ⟨st, ρ, ds, S, r, q⟩ => ⟨st, ρ, ds, S, r, by
  match ds, q with
  | [], q => exact q
  | [x], q =>
    have q : Fin K Z B E H ρ (bfun1 f m x st) Q := q
    rw [h1] at q
    exact q.elim
  | [x, y], q => exact q
  | x :: y :: z :: t, q => exact q⟩
theorem bi_all (f : Bi) (m : Bool) (isa : Nat → Nat → Bool) (hK : X.K = K) (hc : X.calm = true ∨ biHot f = true) (hg : X.A.guards = some []) (hu : X.A.units + 100 < cLine) : CallR X (biV f) (rFn K Z B E (bfun isa f m)) := by
  cases f with
  | len => exact bi_one (fun _ _ _ => rfl) (fn_len hK m)
  | abs => exact bi_one (fun _ _ _ => rfl) (fn_abs m)
  | max1 => exact bi_one (fun _ _ _ => rfl) (fn_max1 hK (hc.resolve_right (by decide)) m)
  | min1 => exact bi_one (fun _ _ _ => rfl) (fn_min1 hK (hc.resolve_right (by decide)) m)
  | sum => exact bi_one (fun _ _ _ => rfl) (fn_sum hK (hc.resolve_right (by decide)) m)
  | sorted => exact bi_one (fun _ _ _ => rfl) (fn_sorted hK hu m)
  | all => exact bi_one (fun _ _ _ => rfl) (fn_all hK (hc.resolve_right (by decide)) m)
  | any => exact bi_one (fun _ _ _ => rfl) (fn_any hK (hc.resolve_right (by decide)) m)
  | int => exact bi_one (fun _ _ _ => rfl) (fn_int m)
  | str => exact bi_one (fun _ _ _ => rfl) (fn_str m)
  | repr => exact bi_one (fun _ _ _ => rfl) (fn_repr hK hg hu m)
  | tuple => exact bi_one (fun _ _ _ => rfl) (fn_tuple hK m)
  | list => exact bi_one (fun _ _ _ => rfl) (fn_list hK m)
  | max2 => exact bi_two (fun _ _ => rfl) (fn_max2 (hc.resolve_right (by decide)) isa)
  | min2 => exact bi_two (fun _ _ => rfl) (fn_min2 (hc.resolve_right (by decide)) isa)
  | isi => exact bi_two (fun _ _ => rfl) (fn_isi hK isa)
end
theorem bi_boot (f : Bi) : bootBuiltins (Str.ofString (biN f)) = some (biV f) := by cases f <;> decide +kernel
theorem bi_kind (f : Bi) : biV f = .builtin (biN f) ∨ biV f = .type (biN f) := by cases f <;> first | exact .inl rfl | exact .inr rfl
theorem bi_pe {es : ME} (f : Bi) (m : Bool) (hs : Snd T es) (A : Fa T) (G : Gd T b B sc fn X W) {x : Str} {y : Expr} {ys : List Expr} {p p' : Pos}
    (h : (glB sc x && decide (T.F.G.lookup x = some .bi) && decide (x = Str.ofString (biN f)) && noStar (y :: ys) && fitA T.F es sc fn (y :: ys) && (T.F.hot.isNone || biHot f)) = true) : PE X (.Call (.Name x p') (y :: ys) [] p) (tE T rs b B W (.bi f m es)) := by
  obtain ⟨h, hh⟩ := and2 h
  have hh : X.calm = true ∨ biHot f = true := by
    rw [Bool.or_eq_true] at hh
    exact hh.imp G.calm id
  obtain ⟨h, h5⟩ := and2 h
  obtain ⟨h, h4⟩ := and2 h
  obtain ⟨h, h3⟩ := and2 h
  obtain ⟨h1, h2⟩ := and2 h
  have h3 := of_decide_eq_true h3
  subst h3
  obtain ⟨g1, g2, g3⟩ := gl_of G h1
  obtain ⟨n1, n2⟩ := noStar_cons h4
  have hm : X.mg (Str.ofString (biN f)) = none := by rw [G.hmg]; exact A.bi _ (of_decide_eq_true h2)
  have R := fnEx fun E => bi_all (X := X) (Z := T.Z.rsv rs) (B := b :: B) (E := E) f m T.C.isa G.hK hh G.gd G.hu
  have fin : ∀ (σ : L2.St) (H : Hp) (Q : VK), tE T rs b B W (.bi f m es) σ H Q → tCB (Fne fun E => rFn T.K (T.Z.rsv rs) (b :: B) E (bfun T.C.isa f m)) (tA T rs b B W es) σ H Q := fun σ H Q q => by
    obtain ⟨st, ρ, env, S, er, q⟩ := q
    exact ⟨st, ρ, env, S, er, row_any (Fin.g q) (fun d st1 hd => by cases d <;> first | rfl | exact absurd rfl (hd _)) fun ds st1 vs H1 ρ1 x1 S1 r q => ⟨WX.at W σ, st1, ρ1, ds, S1, r, FinG.fin q⟩⟩
  rcases bi_kind f with e | e
  · rw [e] at R
    exact PE.imp (pe_callB R g1 hm (by rw [bi_boot, e]) (hs.pa rs b B W sc fn X _ A G h5) g2 g3 (star_cons n1) (noStar_back n2)) fin
  · rw [e] at R
    exact PE.imp (pe_callTy R g1 hm (by rw [bi_boot, e]) (hs.pa rs b B W sc fn X _ A G h5) g2 g3 (star_cons n1) (noStar_back n2)) fin
theorem snd_bi {es : ME} (f : Bi) (m : Bool) (hs : Snd T es) : Snd T (.bi f m es) where
  pe := fun rs b B W sc fn X e A G h => by
    cases e with
    | Call g xs ks p =>
      cases g with
      | Name x p' =>
        match xs, ks, h with
        | y :: ys, [], h => exact bi_pe f m hs A G h
      | _ => cases h
    | _ => cases h
  pt := fun rs b B W sc fn X e A G h => by
    cases e with
    | Call g xs ks p =>
      cases g with
      | Name x p' =>
        match xs, ks, h with
        | y :: ys, [], h => exact pt_of (bi_pe f m hs A G h) G rfl
      | _ => cases h
    | _ => cases h
  pa := fun rs b B W sc fn X es A G h => by cases es <;> cases h
  pi := fun rs b B W sc fn X tg e A G h => by cases e <;> cases h

/-! ### methods -/
theorem rcv_list {K : PySem.W.Frag} {Z : Ad} {B : List Nat} {st : Store} {H : Hp} {ρ : Rho} (S : Sim K Z B st H ρ) {d : D} {v : V} (r : RD K Z H ρ d v) (h : (lstOf st d).isSome = true) : tyV K "list" v H := by
  cases e : lstOf st d with
  | none => rw [e] at h; cases h
  | some xs =>
    obtain ⟨a, vs, rfl, h1, _⟩ := lstOf_rd S r e
    exact .inl ⟨rfl, vs, .inl h1⟩
theorem rcv_str {K : PySem.W.Frag} {Z : Ad} {H : Hp} {ρ : Rho} {x : List Nat} {v : V} (r : RD K Z H ρ (.str x) v) : tyV K "str" v H := by
  cases r
  exact rfl
/-- what is known of a method -/
structure BmK (T : Ct) (b : Nat) (B : List Nat) (X : Cx) (f : Bm) (m : Bool) : Prop where
  pa : PlainAttrs (bmN f).1
  slot : Slot (bmN f).1 (Str.ofString (bmN f).2.1) (bmN f).2.2
  ty : typeOf (.builtin (bmN f).2.2) = pure (.type "method_descriptor")
  mt : ∀ rs E, MtR X (bmN f).2.2 (rMt T.K (T.Z.rsv rs) (b :: B) E (bmeth b f m))
  rcv : ∀ rs st H ρ d v, Sim T.K (T.Z.rsv rs) (b :: B) st H ρ → RD T.K (T.Z.rsv rs) H ρ d v → rcv f d st = true → tyV X.K (bmN f).1 v H
theorem bm_all (f : Bm) (m : Bool) (G : Gd T b B sc fn X W) (h : bmOk f = true) : BmK T b B X f m := by
  have hl : ∀ (rs : List Addr) (st : Store) (H : Hp) (ρ : Rho) (d : D) (v : V), Sim T.K (T.Z.rsv rs) (b :: B) st H ρ → RD T.K (T.Z.rsv rs) H ρ d v → (lstOf st d).isSome = true → tyV X.K "list" v H := fun rs st H ρ d v S r e => by
    rw [G.hK]; exact rcv_list S r e
  have hs : ∀ (rs : List Addr) (st : Store) (H : Hp) (ρ : Rho) (d : D) (v : V), Sim T.K (T.Z.rsv rs) (b :: B) st H ρ → RD T.K (T.Z.rsv rs) H ρ d v → (∃ x, d = .str x) → tyV X.K "str" v H := fun rs st H ρ d v S r ⟨x, e⟩ => by
    subst e; rw [G.hK]; exact rcv_str r
  cases f with
  | append => exact ⟨F.plainAttrs_list, F.slot_list_append, F.type_list_append, fun rs E => mo_append G.hK G.top m, hl⟩
  | pop => exact ⟨F.plainAttrs_list, F.slot_list_pop, F.type_list_pop, fun rs E => mo_pop G.hK G.top m, hl⟩
  | index => exact ⟨F.plainAttrs_list, F.slot_list_index, F.type_list_index, fun rs E => mo_index G.hK G.hu b m, hl⟩
  | sindex => exact ⟨F.plainAttrs_str, F.slot_str_index, F.type_str_index, fun rs E => mo_sindex b m, fun rs st H ρ d v S r e => hs rs st H ρ d v S r (by cases d <;> first | exact ⟨_, rfl⟩ | cases e)⟩
  | join => exact ⟨F.plainAttrs_str, F.slot_str_join, F.type_str_join, fun rs E => mo_join G.hK b m, fun rs st H ρ d v S r e => hs rs st H ρ d v S r (by cases d <;> first | exact ⟨_, rfl⟩ | cases e)⟩
  | sfind => exact ⟨F.plainAttrs_str, F.slot_str_find, F.type_str_find, fun rs E => mo_sfind b m, fun rs st H ρ d v S r e => hs rs st H ρ d v S r (by cases d <;> first | exact ⟨_, rfl⟩ | cases e)⟩
  | split => exact ⟨F.plainAttrs_str, F.slot_str_split, F.type_str_split, fun rs E => mo_split G.hK b m, fun rs st H ρ d v S r e => hs rs st H ρ d v S r (by cases d <;> first | exact ⟨_, rfl⟩ | cases e)⟩
  | _ => cases h
theorem snd_bm {a es : ME} (f : Bm) (m : Bool) (ha : Snd T a) (hs : Snd T es) : Snd T (.bm f m a es) where
  pe := fun rs b B W sc fn X e A G h => by
    cases e with
    | Call g xs ks cpos =>
      cases g with
      | Attribute o name apos =>
        match ks, h with
        | [], h =>
          obtain ⟨h, h7⟩ := and2 (show (bmOk f && decide (name = Str.ofString (bmN f).2.1) && okBase o && apos.endLine == cpos.line && decide (xs.length < 30) && noStar xs && fitE T.F a sc fn o && fitA T.F es sc fn xs) = true from h)
          obtain ⟨h, h6⟩ := and2 h
          obtain ⟨h, h5⟩ := and2 h
          obtain ⟨h, h4⟩ := and2 h
          obtain ⟨h, h3⟩ := and2 h
          obtain ⟨h, h2⟩ := and2 h
          obtain ⟨h0, h1⟩ := and2 h
          have h1 := of_decide_eq_true h1
          subst h1
          have M := bm_all f m G h0
          have step : ∀ (σ : L2.St) (H : Hp) (Q : VK), tE T rs b B W (.bm f m a es) σ H Q → tE T rs b B W a σ H fun x H1 => tyV X.K (bmN f).1 x H1 ∧ tA T rs b B W es σ H1 fun vs H2 => Mte (fun E => rMt T.K (T.Z.rsv rs) (b :: B) E (bmeth b f m)) x vs H2 Q := fun σ H Q q => by
            obtain ⟨st, ρ, env, S, er, q⟩ := q
            refine ⟨st, ρ, env, S, er, Fin.step (Fin.g q) fun d st1 v H1 ρ1 x1 S1 r1 q => ?_⟩
            cases hr : rcv f d st1 with
            | false => rw [hr] at q; exact q.elim
            | true =>
              rw [hr] at q
              refine ⟨M.rcv rs st1 H1 ρ1 d v S1 r1 hr, st1, ρ1, env, S1, er.ext x1, row_any q (fun d st1 hd => by cases d <;> first | rfl | exact absurd rfl (hd _)) fun ds st2 vs H2 ρ2 x2 S2 r2 q => ?_⟩
              exact ⟨WX.at W σ, st2, ρ2, d, ds, S2, r1.ext x2, r2, FinG.fin q⟩
          have hline : (apos.endLine == cpos.line) = true := h3
          cases xs with
          | nil =>
            refine PE.imp (pe_bm0 M.pa M.slot M.ty (mtEx fun E => M.mt rs E) (ha.pe rs b B W sc fn X o A G h6) (base_ok h2) hline) fun σ H Q q => ?_
            obtain ⟨st, ρ, env, S, er, q⟩ := step σ H Q q
            refine ⟨st, ρ, env, S, er, FinG.fin ((Fin.g q).imp fun d st1 H1 ρ1 x1 S1 q v r => ?_)⟩
            obtain ⟨q1, st2, ρ2, env2, S2, er2, q2⟩ := q v r
            refine ⟨q1, ?_⟩
            have en : es = .no := by
              cases es <;> first | rfl | cases h7
            subst en
            obtain ⟨ds, e, q2⟩ := FinG.ok S2 q2
            cases e
            exact q2 [] .nil
          | cons y ys =>
            obtain ⟨n1, n2⟩ := noStar_cons h5
            exact PE.imp (pe_bm M.pa M.slot M.ty (mtEx fun E => M.mt rs E) (ha.pe rs b B W sc fn X o A G h6) (hs.pa rs b B W sc fn X _ A G h7) (base_ok h2) (noStar_few h5 (of_decide_eq_true h4)) hline (star_cons n1) (noStar_back n2)) step
        | _ :: _, h => cases h
      | _ => cases h
    | _ => cases h
  pt := fun rs b B W sc fn X e A G h => by cases e <;> cases h
  pa := fun rs b B W sc fn X es A G h => by cases es <;> cases h
  pi := fun rs b B W sc fn X tg e A G h => by cases e <;> cases h

/-! ### defs -/
theorem fc_pe {es : ME} (f : Nat) (keep : Bool) (hs : Snd T es) (A : Fa T) (G : Gd T b B sc fn X W) {x : Str} {xs : List Expr} {p p' : Pos}
    (h : (glB sc x && decide (T.F.G.lookup x = some (.fn f)) && noStar xs && fitA T.F es sc fn xs && T.F.hot.isNone) = true) : PE X (.Call (.Name x p') xs [] p) (tE T rs b B W (.fc f keep es)) := by
  obtain ⟨h, hh⟩ := and2 h
  obtain ⟨h, h4⟩ := and2 h
  obtain ⟨h, h3⟩ := and2 h
  obtain ⟨h1, h2⟩ := and2 h
  obtain ⟨g1, g2, g3⟩ := gl_of G h1
  obtain ⟨a, m1, m2, m3⟩ := A.fnv x f (of_decide_eq_true h2)
  have hm : X.mg x = some (.ref a) := by rw [G.hmg]; exact m1
  have hk : PySem.W.keepIn X.K (.ref a) = true := by rw [G.hK]; exact m3
  have step : ∀ (σ : L2.St) (H : Hp) (Q : VK), tE T rs b B W (.fc f keep es) σ H Q → tA T rs b B W es σ H fun vs H1 => ∃ st ρ ds, Sim T.K (T.Z.rsv rs) (b :: B) st H1 ρ ∧ RDs T.K (T.Z.rsv rs) H1 ρ ds vs ∧ Fin T.K (T.Z.rsv rs) (b :: B) (WX.at W σ) H1 ρ (T.C.fn f keep ds st) Q := fun σ H Q q => by
    obtain ⟨st, ρ, env, S, er, q⟩ := q
    exact ⟨st, ρ, env, S, er, row_any (Fin.g q) (fun d st1 hd => by cases d <;> first | rfl | exact absurd rfl (hd _)) fun ds st1 vs H1 ρ1 x1 S1 r q => ⟨st1, ρ1, ds, S1, r, FinG.fin q⟩⟩
  refine ⟨fun pins s σ H Q I q => ?_⟩
  have q := step σ H Q q
  cases xs with
  | nil =>
    have en : es = .no := by
      cases es <;> first | rfl | cases h4
    subst en
    obtain ⟨st, ρ, env, S, er, q⟩ := q
    obtain ⟨ds, e, q⟩ := FinG.ok S q
    cases e
    obtain ⟨st, ρ, ds, S, rd, q⟩ := q [] .nil
    refine wpAny_Call_Name_kw (ld_glob I g1 hm ?_ g3)
    exact PySem.W.callWith_K0 I.kIn hk (run_in A G hh m2 I .nil S rd q)
  | cons y ys =>
    obtain ⟨n1, n2⟩ := noStar_cons h3
    refine wpAny_Call_Name_kw (ld_glob I g1 hm ?_ g3)
    refine PySem.W.callWith_K (h₀ := X.base) I.ok.mod.kin hk (thn ((hs.pa rs b B W sc fn X _ A G h4).run p pins s σ H _ I q) fun us s1 ⟨vs, H1, I1, r, q⟩ => ⟨I1.kIn, ?_⟩) (star_cons n1) (noStar_back n2)
    obtain ⟨st, ρ, ds, S, rd, q⟩ := q
    exact run_in A G hh m2 I1 r S rd q
theorem snd_fc {es : ME} (f : Nat) (keep : Bool) (hs : Snd T es) : Snd T (.fc f keep es) where
  pe := fun rs b B W sc fn X e A G h => by
    cases e with
    | Call g xs ks p =>
      cases g with
      | Name x p' =>
        match ks, h with
        | [], h => exact fc_pe f keep hs A G h
        | _ :: _, h => cases h
      | _ => cases h
    | _ => cases h
  pt := fun rs b B W sc fn X e A G h => by
    cases e with
    | Call g xs ks p =>
      cases g with
      | Name x p' =>
        match ks, h with
        | [], h => exact pt_of (fc_pe f keep hs A G h) G rfl
        | _ :: _, h => cases h
      | _ => cases h
    | _ => cases h
  pa := fun rs b B W sc fn X es A G h => by cases es <;> cases h
  pi := fun rs b B W sc fn X tg e A G h => by cases e <;> cases h
/-- nobody changes it any more -/
theorem snd_frz {a : ME} (ha : Snd T a) : Snd T (.frz a) where
  pe := fun rs b B W sc fn X e A G h => by
    have h : fitE T.F a sc fn e = true := by cases e <;> exact h
    refine PE.imp (ha.pe rs b B W sc fn X e A G h) fun σ H Q q => ?_
    obtain ⟨st, ρ, env, S, er, q⟩ := q
    refine ⟨st, ρ, env, S, er, Fin.step (Fin.g q) fun d st1 v H1 ρ1 x1 S1 r1 q => ?_⟩
    cases d with
    | loc k =>
      have q : FinG T.K (T.Z.rsv rs) (b :: B) (WX.at W σ) H1 ρ1 (match sget st1 k with
        | some (.lst xs) => if b ≤ k then .ok (.lst xs) (sput st1 k .dead) else .bad
        | _ => .bad) (fun d _ H' ρ' => ∀ v, RD T.K (T.Z.rsv rs) H' ρ' d v → Q v H') := q
      split at q
      · rename_i xs hk
        by_cases hb : b ≤ k
        · rw [if_pos hb] at q
          obtain ⟨a, vs, rfl, h1, h2, h3⟩ := loc_lst S1 r1 hk
          have hk1 := sget_lt hk
          have nm : Nm (T.Z.rsv rs) (sput ρ1 k none) a := ⟨by
            rintro ⟨j, e⟩
            by_cases hj : j = k
            · subst hj
              rw [sget_sput_same (by rw [← S1.len]; exact hk1)] at e; cases e
            · rw [sget_sput_ne hj] at e
              exact hj (S1.inj j k a e h1), fun z => (S1.rs a z).1 ⟨k, h1⟩⟩
          exact q H1 (sput ρ1 k none) Ext.kill (S1.kill hk1) _ (.lst (.inl ⟨h2, nm⟩) (h3.ext Ext.kill))
        · rw [if_neg hb] at q; exact q.elim
      · exact q.elim
    | _ => exact FinG.ok S1 q _ r1
  pt := fun rs b B W sc fn X e A G h => by cases e <;> cases h
  pa := fun rs b B W sc fn X es A G h => by cases es <;> cases h
  pi := fun rs b B W sc fn X tg e A G h => by cases e <;> cases h
end
end MP

set_option autoImplicit false
set_option linter.all false
set_option maxRecDepth 100000
/-! Mp14: what is walked, targets. -/
namespace MP
open PySem PySem.Spec PyProof.Rows L2
section
variable {T : Ct} {rs : List Addr} {b : Nat} {B : List Nat} {W : WX} {sc : Scope} {fn : Str → Bool} {X : Cx}

/-- walked as a value: a list, a tuple, a text -/
def iAny (K : PySem.W.Frag) (te : TE) : TI := fun σ H R => te σ H fun x H1 => (∃ a, x = .ref a ∧ (∃ xs, SqL K H1 a xs) ∧ R (Itl K a) H1) ∨ (∃ a, x = .ref a ∧ (∃ xs, SqT K H1 a xs) ∧ R (Itt K a) H1) ∨ ∃ z, x = .str z ∧ R (Its z) H1
theorem pi_any {tg e : Expr} {te : TE} (he : PE X e te) : PI X tg e (iAny X.K te) := by
  refine ⟨fun pins s σ H R I q => ?_⟩
  refine thn (he.run pins s σ H _ I q) fun v s1 ⟨x, H1, I1, r1, q1⟩ => ?_
  have fp : ∀ c, c ∈ [s1.heap.objs.size] → FpOk X pins H1 c := fun c hc => by
    have e : c = s1.heap.objs.size := by simpa using hc
    subst e
    exact I1.fpOk (Nat.le_refl _) (I1.hok.fresh (Nat.le_refl _))
  rcases q1 with ⟨a, rfl, ⟨xs, hq⟩, q⟩ | ⟨a, rfl, ⟨xs, hq⟩, q⟩ | ⟨z, rfl, q⟩
  · cases r1
    obtain ⟨its, rv, p, hz⟩ := I1.list hq
    refine wpAny_pyIter_list p.isList ?_
    exact ⟨s1.heap.objs.size, [s1.heap.objs.size], _, _, H1, rfl, I1.kept (t' := s1.toks) fun b o e => Heap.get?_push_of_some _ e, turn_list a _, ⟨_, Heap.get?_push_size _ rfl, rfl, rfl⟩, fp, q⟩
  · cases r1
    obtain ⟨its, rv, p, hz⟩ := I1.tuple hq
    refine wpAny_pyIter_tuple (show s1.heap.IsTuple a its.toArray from p) ?_
    exact ⟨s1.heap.objs.size, [s1.heap.objs.size], _, _, H1, rfl, I1.kept (t' := s1.toks) fun b o e => Heap.get?_push_of_some _ e, turn_tuple a _, ⟨_, Heap.get?_push_size _ rfl, rfl, rfl⟩, fp, q⟩
  · obtain ⟨t, rfl⟩ := r1
    cases ha : z.cps.all (· < 128)
    · exact wpAny_pyIter_wide ha (pi_one (tk := s1.toks) I1 _ (turn_str _ z t "str_iterator" (.inr rfl)) ⟨_, Heap.get?_push_size _ rfl, rfl, rfl⟩ q)
    · exact wpAny_pyIter_ascii ha (pi_one (tk := s1.toks) I1 _ (turn_str _ z t "str_ascii_iterator" (.inl rfl)) ⟨_, Heap.get?_push_size _ rfl, rfl, rfl⟩ q)
theorem snd_itr {a : ME} (ha : Snd T a) : Snd T (.itr a) where
  pe := fun rs b B W sc fn X e A G h => by cases e <;> cases h
  pt := fun rs b B W sc fn X e A G h => by cases e <;> cases h
  pa := fun rs b B W sc fn X es A G h => by cases es <;> cases h
  pi := fun rs b B W sc fn X tg e A G h => by
    have h : fitE T.F a sc fn e = true := by cases e <;> exact h
    refine PI.imp (PI.lim (pi_any (ha.pe rs b B W sc fn X e A G h))) fun σ H R q => ?_
    obtain ⟨st, ρ, env, S, er, q⟩ := q
    refine ⟨st, ρ, env, S, er, Fin.step q fun d st1 v H1 ρ1 x1 S1 r1 q => ?_⟩
    have rest : FinG T.K (T.Z.rsv rs) (b :: B) (WX.at W σ) H1 ρ1 (itrS d st1) (fun p st1 H1 ρ1 => ∀ J, Walks T.K (T.Z.rsv rs) (b :: B) J p.1 p.2 H1 ρ1 → p.1.length ≤ sizeLine → R J H1) →
        (∃ a, v = .ref a ∧ (∃ xs, SqL X.K H1 a xs) ∧ ((∀ a xs, SqL X.K H1 a xs ∨ SqT X.K H1 a xs → xs.length ≤ sizeLine) → R (Itl X.K a) H1)) ∨ (∃ a, v = .ref a ∧ (∃ xs, SqT X.K H1 a xs) ∧ ((∀ a xs, SqL X.K H1 a xs ∨ SqT X.K H1 a xs → xs.length ≤ sizeLine) → R (Itt X.K a) H1)) := fun q => by
      have q : FinG T.K (T.Z.rsv rs) (b :: B) (WX.at W σ) H1 ρ1 (match seqOf st1 d with
        | some xs => .ok (xs, srcOf st1 d) st1
        | none => .bad) _ := q
      cases hs : seqOf st1 d with
      | none => rw [hs] at q; exact q.elim
      | some ds =>
        rw [hs] at q
        have q := FinG.ok S1 q
        rw [G.hK]
        cases hl : lstOf st1 d with
        | some ys =>
          have e : ys = ds := by
            cases d <;> first | (cases hl; done) | (cases hl; cases hs; rfl) | (have hs : lstOf st1 (.loc _) = some ds := hs; rw [hl] at hs; exact Option.some.inj hs)
          subst e
          obtain ⟨a, ev, hw⟩ := src_lst S1 r1 hl
          obtain ⟨a', vs, ev', h1, h2⟩ := lstOf_rd S1 r1 hl
          rw [ev] at ev'
          cases ev'
          refine .inl ⟨a, ev, ⟨vs, .inl h1⟩, fun lim => ?_⟩
          exact q _ (walks_l fun l st1 H1 ρ1 hr x S hu => let ⟨vs, g1, g2⟩ := hw l st1 H1 ρ1 hr x S hu; ⟨vs, .inl g1, g2⟩) (by rw [h2.length]; exact lim a vs (.inl (.inl h1)))
        | none =>
          by_cases hkl : ∃ xs, d = .kl xs
          · obtain ⟨xs, rfl⟩ := hkl
            cases hs
            obtain ⟨a, ev, hw⟩ := src_kl r1
            obtain ⟨vs, h1, h2⟩ := hw rs H1 ρ1 (RsOk.same _ _) (Ext.refl _ _)
            exact .inl ⟨a, ev, ⟨vs, h1⟩, fun lim => q _ (walks_l fun l st1 H1 ρ1 hr x S hu => hw l H1 ρ1 hr x) (by rw [h2.length]; exact lim a vs (.inl h1))⟩
          obtain ⟨a, ev, hw⟩ := src_tup r1 hs hl fun xs e => hkl ⟨xs, e⟩
          obtain ⟨vs, h1, h2⟩ := hw rs H1 ρ1 (RsOk.same _ _) (Ext.refl _ _)
          have es : srcOf st1 d = [] := by
            cases d <;> first | rfl | (cases hs; done) | (have hs : lstOf st1 (.loc _) = some ds := hs; rw [hl] at hs; cases hs)
          refine .inr ⟨a, ev, ⟨vs, h1⟩, fun lim => ?_⟩
          refine q _ ?_ (by rw [h2.length]; exact lim a vs (.inr h1))
          rw [es]
          exact walks_t hw
    cases d with
    | str t =>
      have q : FinG T.K (T.Z.rsv rs) (b :: B) (WX.at W σ) H1 ρ1 (if t.length ≤ LINE then .ok (t.map (fun c => D.str [c]), []) st1 else .bad) _ := q
      by_cases hl : t.length ≤ LINE
      · rw [if_pos hl] at q
        cases r1 with
        | str _ ok =>
        refine .inr (.inr ⟨_, rfl, fun lim => FinG.ok S1 q _ (walks_s ok) ?_⟩)
        have := line_le
        simp only [List.length_map]; omega
      · rw [if_neg hl] at q; exact q.elim
    | _ => exact (rest q).elim .inl fun h => .inr (.inl h)
theorem rng_small {lo hi : Int} (h : -(2 ^ 60) ≤ lo ∧ lo ≤ 2 ^ 60 ∧ -(2 ^ 60) ≤ hi ∧ hi ≤ 2 ^ 60 ∧ hi - lo ≤ LINE) : -(2 ^ 62) ≤ lo ∧ lo < 2 ^ 62 ∧ -(2 ^ 62) ≤ hi ∧ hi < 2 ^ 62 ∧ (hi - lo).toNat ≤ sizeLine := by
  have := line_le
  have e : LINE = 1000000 := rfl
  omega
theorem snd_rng1 {a : ME} (ha : Snd T a) : Snd T (.rng1 a) where
  pe := fun rs b B W sc fn X e A G h => by cases e <;> cases h
  pt := fun rs b B W sc fn X e A G h => by cases e <;> cases h
  pa := fun rs b B W sc fn X es A G h => by cases es <;> cases h
  pi := fun rs b B W sc fn X tg e A G h => by
    cases e with
    | Call g xs ks p =>
      cases g with
      | Name x p' =>
        match xs, ks, h with
        | [y], [], h =>
          obtain ⟨h, h5⟩ := and2 (show (glB sc x && decide (T.F.G.lookup x = some .bi) && decide (x = ("range" : Str)) && !isStar y && fitE T.F a sc fn y) = true from h)
          obtain ⟨h, h4⟩ := and2 h
          obtain ⟨h, h3⟩ := and2 h
          obtain ⟨h1, h2⟩ := and2 h
          have h3 := of_decide_eq_true h3
          subst h3
          obtain ⟨g1, g2, g3⟩ := gl_of G h1
          have h4 : isStar y = false := by simpa using h4
          refine PI.imp (pi_range1 g1 (by rw [G.hmg]; exact A.bi _ (of_decide_eq_true h2)) (pa_cons (ha.pe rs b B W sc fn X y A G h5) pa_nil (star_cons h4)) (star_cons h4)) fun σ H R q => ?_
          obtain ⟨st, ρ, env, S, er, q⟩ := q
          refine ⟨st, ρ, env, S, er, Fin.step q fun d st1 v H1 ρ1 x1 S1 r1 q => ?_⟩
          cases d with
          | int n =>
            cases r1
            have q : FinG T.K (T.Z.rsv rs) (b :: B) (WX.at W σ) H1 ρ1 (if -(2 ^ 60) ≤ (0 : Int) ∧ (0 : Int) ≤ 2 ^ 60 ∧ -(2 ^ 60) ≤ n ∧ n ≤ 2 ^ 60 ∧ n - 0 ≤ LINE then .ok (rangeL 0 (n - 0).toNat, []) st1 else .bad) _ := q
            split at q
            · rename_i hc
              obtain ⟨_, _, z3, z4, z5⟩ := rng_small hc
              rw [Int.sub_zero] at q z5
              exact ⟨n, rfl, z3, z4, FinG.ok S1 q _ (walks_r 0 n.toNat) (by show (rangeL 0 n.toNat).length ≤ sizeLine; rw [rangeL_length]; exact z5)⟩
            · exact q.elim
          | _ => exact q.elim
      | _ => cases h
    | _ => cases h
theorem snd_rng2 {a c : ME} (ha : Snd T a) (hc : Snd T c) : Snd T (.rng2 a c) where
  pe := fun rs b B W sc fn X e A G h => by cases e <;> cases h
  pt := fun rs b B W sc fn X e A G h => by cases e <;> cases h
  pa := fun rs b B W sc fn X es A G h => by cases es <;> cases h
  pi := fun rs b B W sc fn X tg e A G h => by
    cases e with
    | Call g xs ks p =>
      cases g with
      | Name x p' =>
        match xs, ks, h with
        | [y, z], [], h =>
          obtain ⟨h, h7⟩ := and2 (show (glB sc x && decide (T.F.G.lookup x = some .bi) && decide (x = ("range" : Str)) && !isStar y && !isStar z && fitE T.F a sc fn y && fitE T.F c sc fn z) = true from h)
          obtain ⟨h, h6⟩ := and2 h
          obtain ⟨h, h5⟩ := and2 h
          obtain ⟨h, h4⟩ := and2 h
          obtain ⟨h, h3⟩ := and2 h
          obtain ⟨h1, h2⟩ := and2 h
          have h3 := of_decide_eq_true h3
          subst h3
          obtain ⟨g1, g2, g3⟩ := gl_of G h1
          have h4 : isStar y = false := by simpa using h4
          have h5 : isStar z = false := by simpa using h5
          refine PI.imp (pi_range2 g1 (by rw [G.hmg]; exact A.bi _ (of_decide_eq_true h2)) (pa_cons (ha.pe rs b B W sc fn X y A G h6) (pa_cons (hc.pe rs b B W sc fn X z A G h7) pa_nil (star_cons h5)) (star_cons h4)) (by rw [star_cons h4, star_cons h5]; rfl) (star_cons h5)) fun σ H R q => ?_
          obtain ⟨st, ρ, env, S, er, q⟩ := q
          refine ⟨st, ρ, env, S, er, Fin.step q fun d st1 v H1 ρ1 x1 S1 r1 q => ⟨st1, ρ1, env, S1, er.ext x1, Fin.step q fun d2 st2 v2 H2 ρ2 x2 S2 r2 q => ?_⟩⟩
          cases d with
          | int lo =>
            cases d2 with
            | int n =>
              cases r1
              cases r2
              have q : FinG T.K (T.Z.rsv rs) (b :: B) (WX.at W σ) H2 ρ2 (if -(2 ^ 60) ≤ lo ∧ lo ≤ 2 ^ 60 ∧ -(2 ^ 60) ≤ n ∧ n ≤ 2 ^ 60 ∧ n - lo ≤ LINE then .ok (rangeL lo (n - lo).toNat, []) st2 else .bad) _ := q
              split at q
              · rename_i hc
                obtain ⟨z1, z2, z3, z4, z5⟩ := rng_small hc
                exact ⟨lo, n, rfl, ⟨z1, z2, z3, z4⟩, FinG.ok S2 q _ (walks_r lo (n - lo).toNat) (by show (rangeL lo (n - lo).toNat).length ≤ sizeLine; rw [rangeL_length]; exact z5)⟩
              · exact q.elim
            | _ => exact q.elim
          | _ => exact q.elim
      | _ => cases h
    | _ => cases h
theorem snd_enm {a : ME} (ha : Snd T a) : Snd T (.enm a) where
  pe := fun rs b B W sc fn X e A G h => by cases e <;> cases h
  pt := fun rs b B W sc fn X e A G h => by cases e <;> cases h
  pa := fun rs b B W sc fn X es A G h => by cases es <;> cases h
  pi := fun rs b B W sc fn X tg e A G h => by
    cases tg with
    | Tuple elts kk tpos =>
      cases e with
      | Call g xs ks p =>
        cases g with
        | Name x p' =>
          match xs, ks, h with
          | [y], [], h =>
            obtain ⟨h, h5⟩ := and2 (show (glB sc x && decide (T.F.G.lookup x = some .bi) && decide (x = ("enumerate" : Str)) && !isStar y && fitE T.F a sc fn y) = true from h)
            obtain ⟨h, h4⟩ := and2 h
            obtain ⟨h, h3⟩ := and2 h
            obtain ⟨h1, h2⟩ := and2 h
            have h3 := of_decide_eq_true h3
            subst h3
            obtain ⟨g1, g2, g3⟩ := gl_of G h1
            have h4 : isStar y = false := by simpa using h4
            refine PI.imp (PI.lim (pi_enum g1 (by rw [G.hmg]; exact A.bi _ (of_decide_eq_true h2)) (pa_cons (ha.pe rs b B W sc fn X y A G h5) pa_nil (star_cons h4)) (star_cons h4))) fun σ H R q => ?_
            obtain ⟨st, ρ, env, S, er, q⟩ := q
            refine ⟨st, ρ, env, S, er, Fin.step q fun d st1 v H1 ρ1 x1 S1 r1 q => ?_⟩
            have q : FinG T.K (T.Z.rsv rs) (b :: B) (WX.at W σ) H1 ρ1 (match lstOf st1 d with
              | some xs => .ok (enumL 0 xs, srcOf st1 d) st1
              | none => .bad) _ := q
            cases hl : lstOf st1 d with
            | none => rw [hl] at q; exact q.elim
            | some ds =>
              rw [hl] at q
              obtain ⟨a, ev, hw⟩ := src_lst S1 r1 hl
              obtain ⟨a', vs, ev', h1, h2⟩ := lstOf_rd S1 r1 hl
              rw [ev] at ev'
              cases ev'
              subst ev
              refine ⟨a, vs, rfl, by rw [G.hK]; exact .inl h1, fun lim => ?_⟩
              rw [G.hK] at lim ⊢
              exact FinG.ok S1 q _ (walks_e fun l st1 H1 ρ1 hr x S hu => let ⟨vs, g1, g2⟩ := hw l st1 H1 ρ1 hr x S hu; ⟨vs, .inl g1, g2⟩) (by show (enumL 0 ds).length ≤ sizeLine; rw [enumL_length, h2.length]; exact lim a vs (.inl (.inl h1)))
        | _ => cases h
      | _ => cases h
    | _ => cases h
theorem tupOf_seq {st : Store} {d : MP.D} {xs : List MP.D} (h : tupOf d = some xs) : seqOf st d = some xs ∧ ∀ ys, d ≠ .kl ys := by
  cases d <;> first | (cases h; exact ⟨rfl, fun ys e => by cases e⟩) | cases h
theorem snd_zp {a c : ME} (ha : Snd T a) (hc : Snd T c) : Snd T (.zp a c) where
  pe := fun rs b B W sc fn X e A G h => by cases e <;> cases h
  pt := fun rs b B W sc fn X e A G h => by cases e <;> cases h
  pa := fun rs b B W sc fn X es A G h => by cases es <;> cases h
  pi := fun rs b B W sc fn X tg e A G h => by
    cases tg with
    | Tuple elts kk tpos =>
      cases e with
      | Call g xs ks p =>
        cases g with
        | Name x p' =>
          match xs, ks, h with
          | [y, z], [], h =>
            obtain ⟨h, h7⟩ := and2 (show (glB sc x && decide (T.F.G.lookup x = some .bi) && decide (x = ("zip" : Str)) && !isStar y && !isStar z && fitE T.F a sc fn y && fitE T.F c sc fn z) = true from h)
            obtain ⟨h, h6⟩ := and2 h
            obtain ⟨h, h5⟩ := and2 h
            obtain ⟨h, h4⟩ := and2 h
            obtain ⟨h, h3⟩ := and2 h
            obtain ⟨h1, h2⟩ := and2 h
            have h3 := of_decide_eq_true h3
            subst h3
            obtain ⟨g1, g2, g3⟩ := gl_of G h1
            have h4 : isStar y = false := by simpa using h4
            have h5 : isStar z = false := by simpa using h5
            refine PI.imp (PI.lim (RZ.pi_zipA g1 (by rw [G.hmg]; exact A.bi _ (of_decide_eq_true h2)) (pa_cons (ha.pe rs b B W sc fn X y A G h6) (pa_cons (hc.pe rs b B W sc fn X z A G h7) pa_nil (star_cons h5)) (star_cons h4)) (star_cons h4) (noStar_back (by show (!isStar z && true) = true; rw [h5]; rfl)))) fun σ H R q => ?_
            obtain ⟨st, ρ, env, S, er, q⟩ := q
            refine ⟨st, ρ, env, S, er, Fin.step q fun d st1 v H1 ρ1 x1 S1 r1 q => ⟨st1, ρ1, env, S1, er.ext x1, Fin.step q fun d2 st2 v2 H2 ρ2 x2 S2 r2 q => ?_⟩⟩
            have r1 := r1.ext x2
            have q : FinG T.K (T.Z.rsv rs) (b :: B) (WX.at W σ) H2 ρ2 (match lstOf st2 d, lstOf st2 d2 with
              | some xs, some ys => .ok (zipL xs ys, srcOf st2 d ++ srcOf st2 d2) st2
              | none, none => zpT d d2 st2
              | _, _ => .bad) _ := q
            rw [G.hK]
            cases hl : lstOf st2 d with
            | some ds =>
              cases hl2 : lstOf st2 d2 with
              | none => rw [hl, hl2] at q; exact q.elim
              | some ds2 =>
                rw [hl, hl2] at q
                obtain ⟨a, ev, hw⟩ := src_lst S2 r1 hl
                obtain ⟨a', vs, ev', k1, k2⟩ := lstOf_rd S2 r1 hl
                rw [ev] at ev'
                cases ev'
                subst ev
                obtain ⟨c', ew, hw2⟩ := src_lst S2 r2 hl2
                obtain ⟨c'', vs2, ew', k3, k4⟩ := lstOf_rd S2 r2 hl2
                rw [ew] at ew'
                cases ew'
                subst ew
                refine ⟨a, c', vs, vs2, rfl, .inl ⟨.inl k1, .inl k3, fun lim => ?_⟩⟩
                refine FinG.ok S2 q _ (walks_z (fun l st1 H1 ρ1 hr x S hu => let ⟨vs, g1, g2⟩ := hw l st1 H1 ρ1 hr x S hu; ⟨vs, .inl g1, g2⟩) fun l st1 H1 ρ1 hr x S hu => let ⟨vs, g1, g2⟩ := hw2 l st1 H1 ρ1 hr x S hu; ⟨vs, .inl g1, g2⟩) ?_
                have := lim a vs (.inl (.inl k1))
                show (zipL ds ds2).length ≤ sizeLine
                rw [zipL_length, k2.length]; omega
            | none =>
              cases hl2 : lstOf st2 d2 with
              | some ds2 => rw [hl, hl2] at q; exact q.elim
              | none =>
                rw [hl, hl2] at q
                have q : FinG T.K (T.Z.rsv rs) (b :: B) (WX.at W σ) H2 ρ2 (match tupOf d, tupOf d2 with
                  | some xs, some ys => .ok (zipL xs ys, []) st2
                  | _, _ => .bad) _ := q
                cases hs : tupOf d with
                | none => rw [hs] at q; exact q.elim
                | some ds =>
                  cases hs2 : tupOf d2 with
                  | none => rw [hs, hs2] at q; exact q.elim
                  | some ds2 =>
                    rw [hs, hs2] at q
                    obtain ⟨a, ev, hw⟩ := src_tup (st := st2) r1 (tupOf_seq hs).1 hl (tupOf_seq (st := st2) hs).2
                    obtain ⟨c', ew, hw2⟩ := src_tup (st := st2) r2 (tupOf_seq hs2).1 hl2 (tupOf_seq (st := st2) hs2).2
                    subst ev ew
                    obtain ⟨vs, k1, k2⟩ := hw rs H2 ρ2 (RsOk.same _ _) (Ext.refl _ _)
                    obtain ⟨vs2, k3, k4⟩ := hw2 rs H2 ρ2 (RsOk.same _ _) (Ext.refl _ _)
                    refine ⟨a, c', vs, vs2, rfl, .inr ⟨k1, k3, fun lim => ?_⟩⟩
                    refine FinG.ok S2 q _ (walks_zt hw hw2) ?_
                    have := lim a vs (.inr k1)
                    show (zipL ds ds2).length ≤ sizeLine
                    rw [zipL_length, k2.length]; omega
        | _ => cases h
      | _ => cases h
    | _ => cases h
end
end MP

set_option autoImplicit false
set_option linter.all false
set_option maxRecDepth 100000
/-! Mp15: targets, comprehensions of one clause. -/
namespace MP
open PySem PySem.Spec PyProof.Rows L2
section
variable {T : Ct} {rs : List Addr} {b : Nat} {B : List Nat} {W : WX} {sc : Scope} {fn : Str → Bool} {X : Cx}

/-! ### targets -/
/-- names other than these stand as they stood -/
def Off (l : List Nat) (σ σ' : L2.St) : Prop := σ'.length = σ.length ∧ ∀ j, j ∉ l → σ'[j]? = σ[j]?
theorem Off.refl (l : List Nat) (σ : L2.St) : Off l σ σ := ⟨rfl, fun _ _ => rfl⟩
theorem Off.trans {l m : List Nat} {σ σ1 σ2 : L2.St} (h : Off l σ σ1) (h' : Off m σ1 σ2) : Off (l ++ m) σ σ2 := ⟨h'.1.trans h.1, fun j hj => by
  rw [List.mem_append, not_or] at hj
  rw [h'.2 j hj.2, h.2 j hj.1]⟩
def tG (T : Ct) (rs : List Addr) (b : Nat) (B : List Nat) (m : ME) : TG := fun v σ H Q => ∃ st ρ env d env', Sim T.K (T.Z.rsv rs) (b :: B) st H ρ ∧ EnvR T.K (T.Z.rsv rs) T.cx H ρ env σ ∧ RD T.K (T.Z.rsv rs) H ρ d v ∧ asgN st m d env = some env' ∧
  ∀ σ', EnvR T.K (T.Z.rsv rs) T.cx H ρ env' σ' → Off (slots m) σ σ' → Q σ' H
def tGs (T : Ct) (rs : List Addr) (b : Nat) (B : List Nat) (m : ME) : TGs := fun vs σ H Q => ∃ st ρ env ds env', Sim T.K (T.Z.rsv rs) (b :: B) st H ρ ∧ EnvR T.K (T.Z.rsv rs) T.cx H ρ env σ ∧ RDs T.K (T.Z.rsv rs) H ρ ds vs ∧ asgN st m (.lst ds) env = some env' ∧
  ∀ σ', EnvR T.K (T.Z.rsv rs) T.cx H ρ env' σ' → Off (slots m) σ σ' → Q σ' H
theorem asg_cons {e : Expr} {es : List Expr} {env : PySem.Env} (h : isStar e = false) : (assignEach (e :: es) env).map (·.2) = assign e env :: (assignEach es env).map (·.2) := by
  cases e <;> first | rfl | cases h
theorem asg_each {env : PySem.Env} : ∀ {es : List Expr}, noStar es = true → (assignEach es env).length = es.length ∧ (assignEach es env).findIdx? (·.1) = none
  | [], _ => ⟨rfl, rfl⟩
  | e :: es, h => by
    obtain ⟨h1, h2⟩ := noStar_cons h
    obtain ⟨h3, h4⟩ := asg_each (env := env) h2
    have e1 : assignEach (e :: es) env = (false, assign e env) :: assignEach es env := by cases e <;> first | rfl | cases h1
    rw [e1]
    exact ⟨by simp [h3], by simp [List.findIdx?_cons, h4]⟩
theorem fitGs_ns : ∀ {m : ME} {es : List Expr} {F : Ft}, fitGs F sc fn m es = true → noStar es = true := by
  intro m
  induction m with
  | no => intro es F h; cases es <;> first | rfl | cases h
  | cons a r _ ih =>
    intro es F h
    cases es with
    | nil => cases h
    | cons e es =>
      obtain ⟨h, h3⟩ := and2 (show (!isStar e && fitG F sc fn a e && fitGs F sc fn r es) = true from h)
      obtain ⟨h1, h2⟩ := and2 h
      show (!isStar e && noStar es) = true
      rw [h1, ih h3]; rfl
  | _ => intro es F h; cases es <;> cases h
theorem asgN_len {st : Store} : ∀ {m : ME} {es : List Expr} {F : Ft} {ds : List D} {env env' : Env}, fitGs F sc fn m es = true → asgN st m (.lst ds) env = some env' → ds.length = es.length := by
  intro m
  induction m with
  | no =>
    intro es F ds env env' h e
    cases es <;> first | cases h | skip
    cases ds with
    | nil => rfl
    | cons _ _ => cases e
  | cons a r _ ih =>
    intro es F ds env env' h e
    cases es with
    | nil => cases h
    | cons x es =>
      obtain ⟨h, h3⟩ := and2 (show (!isStar x && fitG F sc fn a x && fitGs F sc fn r es) = true from h)
      cases ds with
      | nil => cases e
      | cons d ds =>
        have e : (match asgN st a d env with
          | some env' => asgN st r (.lst ds) env'
          | none => none) = some env' := e
        split at e
        · simp [ih h3 e]
        · cases e
  | _ => intro es F ds env env' h e; cases es <;> cases h
structure SndG (T : Ct) (m : ME) : Prop where
  pg : ∀ rs b B W sc fn X e, Gd T b B sc fn X W → fitG T.F sc fn m e = true → PG X e (tG T rs b B m)
  pgs : ∀ rs b B W sc fn X es, Gd T b B sc fn X W → fitGs T.F sc fn m es = true → PGs X es (tGs T rs b B m)
theorem loc_of (G : Gd T b B sc fn X W) {x : Str} (h : locB sc fn x = true) : Loc X.env.scope x ∧ (X.fn x = true ∨ X.env.scope.names.lookup x = some .local) := by
  rw [G.sc]
  unfold locB at h
  split at h
  · rename_i e; exact ⟨.inl e, .inr e⟩
  · rename_i e; exact ⟨.inr e, .inl (G.fn x h)⟩
  · cases h
theorem cx_slot (G : Gd T b B sc fn X W) {i : Nat} (h : decide (T.F.hot ≠ some (some i)) = true) : cxI T.cx i = true := by
  have h := of_decide_eq_true h
  cases hh : T.F.hot with
  | none => rw [(G.cold hh).1]; rfl
  | some j =>
    obtain ⟨c, w, p, a, C, d, oe, e, _⟩ := G.hots j hh
    rw [e]
    cases j with
    | none => rfl
    | some j =>
      show (j != i) = true
      rw [hh] at h
      simp only [bne_iff_ne, ne_eq]
      intro z
      exact h (by rw [z])
theorem sndG (m : ME) : SndG T m := by
  induction m with
  | var i =>
    refine ⟨fun rs b B W sc fn X e G h => ?_, fun rs b B W sc fn X es G h => (by cases es <;> cases h)⟩
    cases e with
    | Name x p =>
      obtain ⟨h1, h2⟩ := and2 (and2 (show (decide (T.F.N[i]? = some x) && locB sc fn x && decide (T.F.hot ≠ some (some i))) = true from h)).1
      have hx := cx_slot G (and2 (show (decide (T.F.N[i]? = some x) && locB sc fn x && decide (T.F.hot ≠ some (some i))) = true from h)).2
      obtain ⟨l1, l2⟩ := loc_of G h2
      refine PG.imp (pg_name G.nd (slot_of G h1) l1 l2) fun v σ H Q q => ?_
      obtain ⟨st, ρ, env, d, env', S, er, r, e, q⟩ := q
      cases e
      exact q _ (er.set r i hx) ⟨by simp, fun j hj => by
        have : i ≠ j := fun e => hj (by rw [e]; exact List.mem_singleton.mpr rfl)
        rw [List.getElem?_set_ne this]⟩
    | _ => cases h
  | tup es ih =>
    refine ⟨fun rs b B W sc fn X e G h => ?_, fun rs b B W sc fn X es G h => (by cases es <;> cases h)⟩
    cases e with
    | Tuple ts k p =>
      obtain ⟨h, hh⟩ := and2 (show (fitGs T.F sc fn es ts && T.F.hot.isNone) = true from h)
      obtain ⟨a1, a2⟩ := asg_each (env := X.env) (fitGs_ns h)
      have P := ih.pgs rs b B W sc fn X ts G h
      refine PG.imp (PG.or (pg_tup (G.calm hh) P a1 a2) (pg_lst (G.calm hh) P a1 a2)) fun v σ H Q q => ?_
      obtain ⟨st, ρ, env, d, env', S, er, r, e, q⟩ := q
      have e : (match seqOf st d with
        | some xs => asgN st es (.lst xs) env
        | none => none) = some env' := e
      split at e
      · rename_i xs hs
        obtain ⟨a, vs, rfl, hq, rr⟩ := seqOf_rd S r hs
        have hl := asgN_len h e
        rw [rr.length] at hl
        rw [G.hK]
        rcases hq with hq | hq
        · exact .inr ⟨a, vs, rfl, hq, hl, st, ρ, env, xs, env', S, er, rr, e, q⟩
        · exact .inl ⟨a, vs, rfl, hq, hl, st, ρ, env, xs, env', S, er, rr, e, q⟩
      · cases e
    | _ => cases h
  | no =>
    refine ⟨fun rs b B W sc fn X e G h => (by cases e <;> cases h), fun rs b B W sc fn X es G h => ?_⟩
    cases es with
    | nil =>
      refine PGs.imp pgs_nil fun vs σ H Q q => ?_
      obtain ⟨st, ρ, env, ds, env', S, er, r, e, q⟩ := q
      cases r with
      | nil =>
        cases e
        exact ⟨rfl, q σ er (Off.refl _ _)⟩
      | cons _ _ => cases e
    | cons _ _ => cases h
  | cons a r iha ihr =>
    refine ⟨fun rs b B W sc fn X e G h => (by cases e <;> cases h), fun rs b B W sc fn X es G h => ?_⟩
    cases es with
    | nil => cases h
    | cons x es =>
      obtain ⟨h, h3⟩ := and2 (show (!isStar x && fitG T.F sc fn a x && fitGs T.F sc fn r es) = true from h)
      obtain ⟨h1, h2⟩ := and2 h
      refine PGs.imp (pgs_cons (iha.pg rs b B W sc fn X x G h2) (ihr.pgs rs b B W sc fn X es G h3) (asg_cons (by simpa using h1))) fun vs σ H Q q => ?_
      obtain ⟨st, ρ, env, ds, env', S, er, rr, e, q⟩ := q
      cases rr with
      | nil => cases e
      | cons rd rr =>
        rename_i d v ds vs
        have e : (match asgN st a d env with
          | some env' => asgN st r (.lst ds) env'
          | none => none) = some env' := e
        split at e
        · rename_i env1 he1
          refine ⟨_, _, rfl, st, ρ, env, d, env1, S, er, rd, he1, fun σ1 er1 o1 => ?_⟩
          exact ⟨st, ρ, env1, ds, env', S, er1, rr, e, fun σ2 er2 o2 => q σ2 er2 (o1.trans o2)⟩
        · cases e
  | _ => exact ⟨fun rs b B W sc fn X e G h => (by cases e <;> cases h), fun rs b B W sc fn X es G h => (by cases es <;> cases h)⟩
theorem wipe_off {l own : List Nat} {σ σ' : L2.St} (h : Off l σ σ') (hs : ∀ i ∈ l, i ∈ own) : L2.wipe σ' own = L2.wipe σ own := by
  refine List.ext_getElem? fun j => ?_
  by_cases hj : j ∈ own
  · have none_at : ∀ (τ : L2.St) (vs : List Nat), j ∈ vs → (L2.wipe τ vs)[j]? = if j < τ.length then some none else none := by
      intro τ vs
      induction vs with
      | nil => intro h; cases h
      | cons v vs ih =>
        intro hm
        unfold L2.wipe
        by_cases hv : v = j
        · subst hv
          by_cases hl : v < τ.length
          · rw [List.getElem?_set_self (by rw [L2.wipe_length]; exact hl), if_pos hl]
          · rw [List.getElem?_eq_none (by rw [List.length_set, L2.wipe_length]; omega), if_neg hl]
        · rw [List.getElem?_set_ne hv]
          rcases List.mem_cons.mp hm with e | hm
          · exact absurd e.symm hv
          · exact ih hm
    rw [none_at σ' own hj, none_at σ own hj, h.1]
  · rw [wipe_get hj, wipe_get hj]
    exact h.2 j fun z => hj (hs j z)

/-! ### comprehensions -/
theorem ownP_map (F : Ft) (own : List Nat) : (ownP F own).map (·.2) = own := by
  unfold ownP
  rw [List.map_map]
  have : ((fun p : Str × Nat => p.2) ∘ fun i => ((F.N[i]?).getD ("" : Str), i)) = id := by funext i; rfl
  rw [this, List.map_id]
theorem then_assoc {α β γ : Type} (r : Res α) (f : α → Store → Res β) (g : β → Store → Res γ) : (r.then f).then g = r.then fun a st => (f a st).then g := by cases r <;> rfl
theorem FinG.calmT {K : PySem.W.Frag} {Z Z' : Ad} {B : List Nat} {E E' : XK} {H H' : Hp} {ρ ρ' : Rho} {α β : Type} {r : Res α} {f : α → Store → Res β} {Tt : β → Store → Hp → Rho → Prop} {Tb : α → Store → Hp → Rho → Prop} (h : FinG K Z B E H ρ (r.calm.then f) Tt)
    (k : ∀ a st1 H1 ρ1, Ext H' ρ' H1 ρ1 → Sim K Z' B st1 H1 ρ1 → FinG K Z B E H ρ (f a st1) Tt → Tb a st1 H1 ρ1) : FinG K Z' B E' H' ρ' r Tb := by
  cases r with
  | ok a st => exact fun H1 ρ1 x S => k a st H1 ρ1 x S h
  | exc x st => exact h.elim
  | bad => exact h.elim
theorem Fin.calmE {K : PySem.W.Frag} {Z Z' : Ad} {B : List Nat} {E E' : XK} {H H' : Hp} {ρ ρ' : Rho} {β : Type} {r : Res D} {f : D → Store → Res β} {Tt : β → Store → Hp → Rho → Prop} {Q : VK} (h : FinG K Z B E H ρ (r.calm.then f) Tt)
    (k : ∀ d st1 v H1 ρ1, Ext H' ρ' H1 ρ1 → Sim K Z' B st1 H1 ρ1 → RD K Z' H1 ρ1 d v → FinG K Z B E H ρ (f d st1) Tt → Q v H1) : Fin K Z' B E' H' ρ' r Q := by
  cases r with
  | ok a st => exact fun v H1 ρ1 x S r => k a st v H1 ρ1 x S r h
  | exc x st => exact h.elim
  | bad => exact h.elim
theorem Ext.own {H H' : Hp} {ρ ρ' : Rho} {p : Addr} {o : HO} (x : Ext H ρ H' ρ') (hp : H p = none) : Ext H ρ (upd H' p o) ρ' where
  keep := fun a u h hm => by rw [upd_ne (ne_of_none h hp)]; exact x.keep a u h hm
  there := fun a h => by
    by_cases e : a = p
    · subst e; exact hp
    · rw [upd_ne e] at h; exact x.there a h
  le := x.le
  old := x.old
  new := x.new
/-- no exception leaves a comprehension -/
abbrev noW : WX := fun _ _ _ _ => False
/-- the tests of a clause -/
theorem pts_of {c : ME} (hc : Snd T c) (A : Fa T) (G : Gd T b B sc fn X W) {ifs : List Expr} (h : (match (generalizing := false) ifs with
    | [] => noB c
    | [x] => !noB c && fitT T.F c sc fn x
    | _ => false) = true) : PTs X ifs fun σ H Q => ∃ st ρ env, Sim T.K (T.Z.rsv rs) (b :: B) st H ρ ∧ EnvR T.K (T.Z.rsv rs) T.cx H ρ env σ ∧ FinG T.K (T.Z.rsv rs) (b :: B) (WX.at W σ) H ρ (if noB c then .ok true st else needB (den T.C b c env st)) fun k _ H' _ => Q k H' := by
  match ifs, h with
  | [], h =>
    refine ⟨fun pins s σ H Q I q => pts_nil.run pins s σ H Q I ?_⟩
    obtain ⟨st, ρ, env, S, er, q⟩ := q
    rw [if_pos h] at q
    exact FinG.ok S q
  | [x], h =>
    obtain ⟨h1, h2⟩ := and2 h
    refine ⟨fun pins s σ H Q I q => (pts_one (hc.pt rs b B W sc fn X x A G h2)).run pins s σ H Q I ?_⟩
    obtain ⟨st, ρ, env, S, er, q⟩ := q
    have h1 : noB c = false := by simpa using h1
    rw [if_neg (by rw [h1]; decide)] at q
    exact ⟨st, ρ, env, S, er, q⟩
  | _ :: _ :: _, h => cases h
/-- the turns of a comprehension -/
theorem lc_turns {J : It} {ds : List D} {sr : Src} {H1 : Hp} {ρ1 : Rho} {st1 : Store} {env : Env} {σ : L2.St} {E : XK} {own : List Nat} {t c e : ME} {m : Bool} {Q : VK} {D : Addr} (hcx : T.cx = none) (hD : H1 D = none) (hlen : ds.length ≤ sizeLine)
    (hw : Walks T.K (T.Z.rsv rs) (b :: B) J ds sr H1 ρ1) (S1 : Sim T.K (T.Z.rsv rs) (b :: B) st1 H1 ρ1) (er : EnvR T.K (T.Z.rsv rs) T.cx H1 ρ1 env σ) (hs : ∀ i ∈ slots t, i ∈ own)
    (q : FinG T.K (T.Z.rsv rs) (b :: B) E H1 ρ1 ((compGo (fun s x => asgN s t x (wipeE env own)) (fun v s => if noB c then .ok true s else (needB (den T.C b c v s)).calm) (fun v s => (den T.C b e v s).calm) sr ds st1).then fun ds st2 => newL m ds st2)
      fun d _ H' ρ' => ∀ v, RD T.K (T.Z.rsv rs) H' ρ' d v → Q v H') :
    ∃ Wt : Nat → Nat → Hp → Prop, (∃ m, Wt 0 m (upd H1 D (.lst []))) ∧ ∀ i m H, Wt i m H →
      (J.stop i H ∧ Q (.ref D) H) ∨ (J.go i H ∧ ∃ Nx : Hp → Prop, (∀ H', Nx H' → ∃ m', m' < m ∧ Wt (i + 1) m' H') ∧ ∀ x H', J.yld i H x H' → tG T (D :: rs) b B t x (L2.wipe σ own) H' fun σ2 H2 => L2.wipe σ2 own = L2.wipe σ own ∧
        (fun σ H Q => ∃ st ρ env, Sim T.K (T.Z.rsv (D :: rs)) (b :: B) st H ρ ∧ EnvR T.K (T.Z.rsv (D :: rs)) T.cx H ρ env σ ∧ FinG T.K (T.Z.rsv (D :: rs)) (b :: B) (WX.at noW σ) H ρ (if noB c then .ok true st else needB (den T.C b c env st)) fun k _ H' _ => Q k H') σ2 H2 fun k H3 =>
          if k = true then tE T (D :: rs) b B noW e σ2 H3 fun y H4 => ∃ acc, H4 D = some (.lst acc) ∧ acc.length < sizeLine ∧ Nx (upd H4 D (.lst (acc ++ [y]))) else Nx H3) := by
  have hDr : D ∉ (T.Z.rsv rs).rs := (S1.nm hD).2
  have rok : RsOk (T.Z.rsv rs) H1 (D :: rs) := fun a ha => by
    rcases List.mem_cons.mp ha with e | ha
    · exact .inr (by rw [e]; exact hD)
    · exact .inl ha
  refine ⟨fun i n H => ∃ st ρ acc ds0, n = ds.length - i ∧ i ≤ ds.length ∧ Ext H1 ρ1 H ρ ∧ Sim T.K (T.Z.rsv (D :: rs)) (b :: B) st H ρ ∧ H D = some (.lst acc) ∧ RDs T.K (T.Z.rsv (D :: rs)) H ρ ds0 acc ∧ acc.length ≤ i ∧
    FinG T.K (T.Z.rsv rs) (b :: B) E H1 ρ1 ((compGo (fun s x => asgN s t x (wipeE env own)) (fun v s => if noB c then .ok true s else (needB (den T.C b c v s)).calm) (fun v s => (den T.C b e v s).calm) sr (ds.drop i) st).then fun es st2 => newL m (ds0 ++ es) st2)
      fun d _ H' ρ' => ∀ v, RD T.K (T.Z.rsv rs) H' ρ' d v → Q v H', ⟨ds.length, st1, ρ1, [], [], rfl, Nat.zero_le _, Ext.laid hD, S1.res hD, upd_same, .nil, Nat.zero_le _, q⟩, ?_⟩
  rintro i n H ⟨st, ρ, acc, ds0, rfl, hi, x, S, hacc, racc, hal, q⟩
  have S0 : Sim T.K (T.Z.rsv rs) (b :: B) st H ρ := S.fre
  by_cases hlt : i < ds.length
  · have ed : ds.drop i = ds[i] :: ds.drop (i + 1) := List.drop_eq_getElem_cons hlt
    rw [ed] at q
    have hget : ds[i]? = some ds[i] := by simp [hlt]
    generalize ds[i] = d at hget ed q
    have q : FinG T.K (T.Z.rsv rs) (b :: B) E H1 ρ1 ((if unchanged st sr then (match asgN st t d (wipeE env own) with
      | some env' => ((if noB c then .ok true st else (needB (den T.C b c env' st)).calm) : Res Bool).then fun k st1 => if k then ((den T.C b e env' st1).calm).then fun d st2 => (compGo (fun s x => asgN s t x (wipeE env own)) (fun v s => if noB c then .ok true s else (needB (den T.C b c v s)).calm) (fun v s => (den T.C b e v s).calm) sr (ds.drop (i + 1)) st2).then fun ds st3 => .ok (d :: ds) st3 else compGo (fun s x => asgN s t x (wipeE env own)) (fun v s => if noB c then .ok true s else (needB (den T.C b c v s)).calm) (fun v s => (den T.C b e v s).calm) sr (ds.drop (i + 1)) st1
      | none => .bad) else .bad).then fun es st2 => newL m (ds0 ++ es) st2) _ := q
    by_cases hu : unchanged st sr = true
    · rw [if_pos hu] at q
      obtain ⟨_, hstep⟩ := hw (D :: rs) st H ρ rok x S hu
      obtain ⟨hgo, hy⟩ := hstep i d hget
      cases ha : asgN st t d (wipeE env own) with
      | none => rw [ha] at q; exact q.elim
      | some env' =>
        rw [ha] at q
        have q : FinG T.K (T.Z.rsv rs) (b :: B) E H1 ρ1 ((((if noB c then .ok true st else (needB (den T.C b c env' st)).calm) : Res Bool).then fun k st1 => if k then ((den T.C b e env' st1).calm).then fun d st2 => (compGo (fun s x => asgN s t x (wipeE env own)) (fun v s => if noB c then .ok true s else (needB (den T.C b c v s)).calm) (fun v s => (den T.C b e v s).calm) sr (ds.drop (i + 1)) st2).then fun ds st3 => .ok (d :: ds) st3 else compGo (fun s x => asgN s t x (wipeE env own)) (fun v s => if noB c then .ok true s else (needB (den T.C b c v s)).calm) (fun v s => (den T.C b e v s).calm) sr (ds.drop (i + 1)) st1).then fun es st2 => newL m (ds0 ++ es) st2) _ := q
        rw [then_assoc] at q
        refine .inr ⟨hgo, fun H' => ∃ st ρ acc ds0, Ext H1 ρ1 H' ρ ∧ Sim T.K (T.Z.rsv (D :: rs)) (b :: B) st H' ρ ∧ H' D = some (.lst acc) ∧ RDs T.K (T.Z.rsv (D :: rs)) H' ρ ds0 acc ∧ acc.length ≤ i + 1 ∧
          FinG T.K (T.Z.rsv rs) (b :: B) E H1 ρ1 ((compGo (fun s x => asgN s t x (wipeE env own)) (fun v s => if noB c then .ok true s else (needB (den T.C b c v s)).calm) (fun v s => (den T.C b e v s).calm) sr (ds.drop (i + 1)) st).then fun es st2 => newL m (ds0 ++ es) st2)
            fun d _ H' ρ' => ∀ v, RD T.K (T.Z.rsv rs) H' ρ' d v → Q v H', fun H' ⟨st, ρ, acc, ds0, h1, h2, h3, h4, h5, h6⟩ => ⟨ds.length - (i + 1), by omega, st, ρ, acc, ds0, rfl, hlt, h1, h2, h3, h4, h5, h6⟩, fun xv H' hyv => ?_⟩
        obtain ⟨ρ2, x2, S2, rx⟩ := hy xv H' hyv
        have erR : EnvR T.K (T.Z.rsv (D :: rs)) T.cx H' ρ2 (wipeE env own) (L2.wipe σ own) := by
          have er2 : EnvR T.K (T.Z.rsv (D :: rs)) none H' ρ2 env σ := ⟨er.len, fun j d hj => by
            obtain ⟨v, h1, h2⟩ := er.val j d hj
            exact ⟨v, h1, h2.extR rok (x.trans x2)⟩, CurR.none, fun c w p a C d i e => nomatch e⟩
          rw [hcx]
          exact er2.wipe own
        refine ⟨st, ρ2, wipeE env own, d, env', S2, erR, rx, ha, fun σ2 er3 off => ⟨?_, ?_⟩⟩
        · rw [wipe_off off hs]
          have : ∀ τ : L2.St, L2.wipe (L2.wipe τ own) own = L2.wipe τ own := fun τ => wipe_off (l := own) ⟨by rw [L2.wipe_length], fun j hj => wipe_get hj⟩ fun _ h => h
          exact this σ
        · have x12 := x.trans x2
          refine ⟨st, ρ2, env', S2, er3, ?_⟩
          have aD : H' D = some (.lst acc) := x2.keep D _ hacc (S.rs D List.mem_cons_self).1
          have racc2 := racc.ext x2
          -- what follows the test
          have go : ∀ k st3 H3 ρ3, Ext H' ρ2 H3 ρ3 → Sim T.K (T.Z.rsv (D :: rs)) (b :: B) st3 H3 ρ3 → FinG T.K (T.Z.rsv rs) (b :: B) E H1 ρ1 ((if k then ((den T.C b e env' st3).calm).then fun d st2 => (compGo (fun s x => asgN s t x (wipeE env own)) (fun v s => if noB c then .ok true s else (needB (den T.C b c v s)).calm) (fun v s => (den T.C b e v s).calm) sr (ds.drop (i + 1)) st2).then fun ds st3 => .ok (d :: ds) st3 else compGo (fun s x => asgN s t x (wipeE env own)) (fun v s => if noB c then .ok true s else (needB (den T.C b c v s)).calm) (fun v s => (den T.C b e v s).calm) sr (ds.drop (i + 1)) st3).then fun es st2 => newL m (ds0 ++ es) st2)
              (fun d _ H' ρ' => ∀ v, RD T.K (T.Z.rsv rs) H' ρ' d v → Q v H') →
              if k = true then tE T (D :: rs) b B noW e σ2 H3 fun y H4 => ∃ acc, H4 D = some (.lst acc) ∧ acc.length < sizeLine ∧ ∃ st ρ acc' ds0, Ext H1 ρ1 (upd H4 D (.lst (acc ++ [y]))) ρ ∧ Sim T.K (T.Z.rsv (D :: rs)) (b :: B) st (upd H4 D (.lst (acc ++ [y]))) ρ ∧ (upd H4 D (.lst (acc ++ [y]))) D = some (.lst acc') ∧ RDs T.K (T.Z.rsv (D :: rs)) (upd H4 D (.lst (acc ++ [y]))) ρ ds0 acc' ∧ acc'.length ≤ i + 1 ∧
                FinG T.K (T.Z.rsv rs) (b :: B) E H1 ρ1 ((compGo (fun s x => asgN s t x (wipeE env own)) (fun v s => if noB c then .ok true s else (needB (den T.C b c v s)).calm) (fun v s => (den T.C b e v s).calm) sr (ds.drop (i + 1)) st).then fun es st2 => newL m (ds0 ++ es) st2)
                  fun d _ H' ρ' => ∀ v, RD T.K (T.Z.rsv rs) H' ρ' d v → Q v H'
              else ∃ st ρ acc ds0, Ext H1 ρ1 H3 ρ ∧ Sim T.K (T.Z.rsv (D :: rs)) (b :: B) st H3 ρ ∧ H3 D = some (.lst acc) ∧ RDs T.K (T.Z.rsv (D :: rs)) H3 ρ ds0 acc ∧ acc.length ≤ i + 1 ∧
                FinG T.K (T.Z.rsv rs) (b :: B) E H1 ρ1 ((compGo (fun s x => asgN s t x (wipeE env own)) (fun v s => if noB c then .ok true s else (needB (den T.C b c v s)).calm) (fun v s => (den T.C b e v s).calm) sr (ds.drop (i + 1)) st).then fun es st2 => newL m (ds0 ++ es) st2)
                  fun d _ H' ρ' => ∀ v, RD T.K (T.Z.rsv rs) H' ρ' d v → Q v H' := fun k st3 H3 ρ3 x3 S3 q => by
            have aD3 : H3 D = some (.lst acc) := x3.keep D _ aD (S2.rs D List.mem_cons_self).1
            cases k with
            | false =>
              rw [if_neg Bool.false_ne_true] at q ⊢
              exact ⟨st3, ρ3, acc, ds0, x12.trans x3, S3, aD3, racc2.ext x3, by omega, q⟩
            | true =>
              rw [if_pos rfl] at q ⊢
              rw [then_assoc] at q
              refine ⟨st3, ρ3, env', S3, er3.ext x3, Fin.calmE q fun d st4 y H4 ρ4 x4 S4 ry q => ?_⟩
              rw [then_assoc] at q
              have aD4 : H4 D = some (.lst acc) := x4.keep D _ aD3 (S3.rs D List.mem_cons_self).1
              refine ⟨acc, aD4, by omega, st4, ρ4, acc ++ [y], ds0 ++ [d], ((x12.trans x3).trans x4).own hD, S4.own List.mem_cons_self, upd_same, (((racc2.ext x3).ext x4).append (.cons ry .nil)).own List.mem_cons_self, by simp; omega, ?_⟩
              have ef : (fun (es : List MP.D) (st2 : Store) => newL m (ds0 ++ [d] ++ es) st2) = fun (ds : List MP.D) (st3 : Store) => (Res.ok (d :: ds) st3 : Res (List MP.D)).then fun es st2 => newL m (ds0 ++ es) st2 := by
                funext es st2
                show newL m (ds0 ++ [d] ++ es) st2 = newL m (ds0 ++ d :: es) st2
                rw [List.append_assoc]; rfl
              rw [ef]
              exact q
          by_cases hn : noB c = true
          · rw [if_pos hn] at q ⊢
            exact fun H3 ρ3 x3 S3 => go true st H3 ρ3 x3 S3 q
          · rw [if_neg hn] at q ⊢
            exact FinG.calmT q go
    · rw [if_neg hu] at q; exact q.elim
  · have hie : i = ds.length := by omega
    subst hie
    rw [List.drop_length] at q
    have q : FinG T.K (T.Z.rsv rs) (b :: B) E H1 ρ1 ((if unchanged st sr then (.ok [] st : Res (List MP.D)) else .bad).then fun es st2 => newL m (ds0 ++ es) st2) _ := q
    by_cases hu : unchanged st sr = true
    · rw [if_pos hu] at q
      have q : FinG T.K (T.Z.rsv rs) (b :: B) E H1 ρ1 (newL m (ds0 ++ []) st) _ := q
      rw [List.append_nil] at q
      obtain ⟨hstop, _⟩ := hw (D :: rs) st H ρ rok x S hu
      refine .inl ⟨hstop, ?_⟩
      cases m with
      | false =>
        have q : FinG T.K (T.Z.rsv rs) (b :: B) E H1 ρ1 (Res.ok (MP.D.lst ds0) st) _ := q
        exact q H ρ x S0 _ (.lst (.inl ⟨hacc, (S.rs D List.mem_cons_self).1, hDr⟩) racc.fre)
      | true =>
        have q : FinG T.K (T.Z.rsv rs) (b :: B) E H1 ρ1 (Res.ok (MP.D.loc st.length) (Ob.lst ds0 :: st)) _ := q
        refine q H (some D :: ρ) (x.adopt hD ⟨_, hacc⟩) (S.adopt hDr (.lst hacc racc.adopt)) _ (.loc (by simp [S.len]) fun a e => ?_)
        rw [S.len, sget_top] at e
        cases e
        rfl
    · rw [if_neg hu] at q; exact q.elim
theorem PE.ex {ι : Type} {e : Expr} {t : ι → TE} (h : ∀ i, PE X e (t i)) : PE X e fun σ H Q => ∃ i, t i σ H Q := ⟨fun pins s σ H Q I ⟨i, q⟩ => (h i).run pins s σ H Q I q⟩
theorem PG.ex {ι : Type} {e : Expr} {t : ι → TG} (h : ∀ i, PG X e (t i)) : PG X e fun v σ H Q => ∃ i, t i v σ H Q := ⟨fun pins s σ H v u Q I r ⟨i, q⟩ => (h i).run pins s σ H v u Q I r q⟩
theorem PTs.ex {ι : Type} {ifs : List Expr} {t : ι → TT} (h : ∀ i, PTs X ifs (t i)) : PTs X ifs fun σ H Q => ∃ i, t i σ H Q := ⟨fun pins s σ H Q I ⟨i, q⟩ => (h i).run pins s σ H Q I q⟩
theorem PI.ex {ι : Type} {tg e : Expr} {t : ι → TI} (h : ∀ i, PI X tg e (t i)) : PI X tg e fun σ H R => ∃ i, t i σ H R := ⟨fun pins s σ H R I ⟨i, q⟩ => (h i).run pins s σ H R I q⟩
/-- a clause's tests, as they are read -/
def tC (T : Ct) (rs : List Addr) (b : Nat) (B : List Nat) (c : ME) : TT := fun σ H Q => ∃ st ρ env, Sim T.K (T.Z.rsv rs) (b :: B) st H ρ ∧ EnvR T.K (T.Z.rsv rs) T.cx H ρ env σ ∧ FinG T.K (T.Z.rsv rs) (b :: B) (WX.at noW σ) H ρ (if noB c then .ok true st else needB (den T.C b c env st)) fun k _ H' _ => Q k H'
theorem lc_rule {t it c e : ME} {m : Bool} {own : List Nat} (hi : Snd T it) (hc : Snd T c) (he : Snd T e) (A : Fa T) (G : Gd T b B sc fn X W) {tg iter elt : Expr} {ifs : List Expr} {scope : Scope}
    (h : (blkC T.F.N sc scope (ownP T.F own) && (slots t).all (fun i => decide (i ∈ own)) && notSet iter && fitI T.F it sc fn tg iter && fitG T.F (relS scope sc) (cellB scope) t tg && (match (generalizing := false) ifs with
          | [] => noB c
          | [x] => !noB c && fitT T.F c (relS scope sc) (cellB scope) x
          | _ => false) && fitE T.F e (relS scope sc) (cellB scope) elt && T.F.hot.isNone) = true) :
    BlkOk X.N X.env.scope scope (ownP T.F own) ∧ PI X tg iter (tI T rs b B W it) ∧ (∀ x, foldedSetIterable iter X.env x = pure x) ∧
    (∀ (s : Shared) (H : Hp) (C : Addr) (cl : List (Str × Addr)) (fp : List Addr), PG (X.blk s H scope (compEnvC scope cl C X.env) fp) tg fun v σ H Q => ∃ l, tG T l b B t v σ H Q) ∧
    (∀ (s : Shared) (H : Hp) (C : Addr) (cl : List (Str × Addr)) (fp : List Addr), PTs (X.blk s H scope (compEnvC scope cl C X.env) fp) ifs fun σ H Q => ∃ l, tC T l b B c σ H Q) ∧
    (∀ (s : Shared) (H : Hp) (C : Addr) (cl : List (Str × Addr)) (fp : List Addr), PE (X.blk s H scope (compEnvC scope cl C X.env) fp) elt fun σ H Q => ∃ l, tE T l b B noW e σ H Q) ∧
    ∀ σ H Q, tE T rs b B W (.lc m own t it c e) σ H Q → tLc (tI T rs b B W it) (fun v σ H Q => ∃ l, tG T l b B t v σ H Q) (fun σ H Q => ∃ l, tC T l b B c σ H Q) (fun σ H Q => ∃ l, tE T l b B noW e σ H Q) ((ownP T.F own).map (·.2)) σ H Q := by
  obtain ⟨h, hh⟩ := and2 h
  obtain ⟨h, h7⟩ := and2 h
  obtain ⟨h, h6⟩ := and2 h
  obtain ⟨h, h5⟩ := and2 h
  obtain ⟨h, h4⟩ := and2 h
  obtain ⟨h, h3⟩ := and2 h
  obtain ⟨h1, h2⟩ := and2 h
  have hs : ∀ i ∈ slots t, i ∈ own := fun i hi => of_decide_eq_true (List.all_eq_true.mp h2 i hi)
  refine ⟨by rw [G.hN, G.sc]; exact blkOk_by h1, hi.pi rs b B W sc fn X tg iter A G h4, set_ok h3, fun s H C cl fp => PG.ex fun l => (sndG t).pg l b B noW _ _ _ tg (G.blk hh scope s H C cl fp) h5,
    fun s H C cl fp => PTs.ex fun l => pts_of (W := noW) hc A (G.blk hh scope s H C cl fp) h6, fun s H C cl fp => PE.ex fun l => he.pe l b B noW _ _ _ elt A (G.blk hh scope s H C cl fp) h7, fun σ H Q q => ?_⟩
  obtain ⟨st, ρ, env, S, er, q⟩ := q
  refine ⟨st, ρ, env, S, er, (FinG.bind (Fin.g q)).imp fun pr st1 H1 ρ1 x1 S1 q J hw hlen D hD => ?_⟩
  have q : FinG T.K (T.Z.rsv rs) (b :: B) (WX.at W σ) H1 ρ1 ((compGo (fun s x => asgN s t x (wipeE env own)) (fun v s => if noB c then .ok true s else (needB (den T.C b c v s)).calm) (fun v s => (den T.C b e v s).calm) pr.2 pr.1 st1).then fun ds st2 => newL m ds st2) _ := q
  rw [ownP_map]
  obtain ⟨Wt, h0, hst⟩ := lc_turns (T := T) (G.cold (Option.isNone_iff_eq_none.mp hh)).1 hD hlen hw S1 (er.ext x1) hs q
  refine ⟨Wt, h0, fun i n H hW => ?_⟩
  rcases hst i n H hW with hz | ⟨hgo, Nx, hN, hy⟩
  · exact .inl hz
  · refine .inr ⟨hgo, Nx, hN, fun x H' y => ⟨D :: rs, ?_⟩⟩
    obtain ⟨st, ρ, env, d, env', k1, k2, k3, k4, k5⟩ := hy x H' y
    refine ⟨st, ρ, env, d, env', k1, k2, k3, k4, fun σ' e1 e2 => ?_⟩
    obtain ⟨w1, w2⟩ := k5 σ' e1 e2
    refine ⟨w1, D :: rs, ?_⟩
    obtain ⟨st, ρ, env, k1, k2, k3⟩ := w2
    refine ⟨st, ρ, env, k1, k2, k3.imp fun k st2 H2 ρ2 _ _ w => ?_⟩
    cases k with
    | true => exact ⟨D :: rs, w⟩
    | false => exact w
theorem snd_lc {t it c e : ME} (m : Bool) (own : List Nat) (hi : Snd T it) (hc : Snd T c) (he : Snd T e) : Snd T (.lc m own t it c e) where
  pe := fun rs b B W sc fn X ex A G h => by
    cases ex with
    | ListComp elt gens scope p =>
      match gens, h with
      | [⟨tg, iter, ifs, 0⟩], h =>
        obtain ⟨r1, r2, r3, r4, r5, r6, r7⟩ := lc_rule (rs := rs) (m := m) hi hc he A G h
        exact PE.imp (pe_lc (G.calm (and2 h).2) G.nd r2 r1 r4 r5 r6 r3) r7
    | _ => cases h
  pt := fun rs b B W sc fn X e A G h => by cases e <;> cases h
  pa := fun rs b B W sc fn X es A G h => by cases es <;> cases h
  pi := fun rs b B W sc fn X tg e A G h => by cases e <;> cases h
end
end MP

set_option autoImplicit false
set_option linter.all false
set_option maxRecDepth 100000
/-! Mp16: statements. -/
namespace MP
open PySem PySem.Spec PyProof.Rows L2

/-! ### the check -/
def swapB (sc : Scope) (value tg : Expr) : Bool := match value, tg with
  | .ListComp _ _ s p, .Name t pos => (if sc.kind.isAnnotationScope then ScopeKind.function else sc.kind) == .function && sc.names.lookup t == some .local && pos.line == p.line && !(s.names.any fun (n, k) => n == t && (k == .local || k == .cell))
  | .SetComp _ _ s p, .Name t pos => (if sc.kind.isAnnotationScope then ScopeKind.function else sc.kind) == .function && sc.names.lookup t == some .local && pos.line == p.line && !(s.names.any fun (n, k) => n == t && (k == .local || k == .cell))
  | .DictComp _ _ _ s p, .Name t pos => (if sc.kind.isAnnotationScope then ScopeKind.function else sc.kind) == .function && sc.names.lookup t == some .local && pos.line == p.line && !(s.names.any fun (n, k) => n == t && (k == .local || k == .cell))
  | _, _ => false
theorem swap_eq {value tg : Expr} {n : Nat} {env : PySem.Env} : swapsWith value (some tg) n env = pure (swapB env.scope value tg) := by
  cases value <;> first | (cases tg <;> rfl) | (simp [swapsWith, swapB]; done)
def noComp : Expr → Bool
  | .ListComp _ _ _ _ => false
  | .SetComp _ _ _ _ => false
  | .DictComp _ _ _ _ _ => false
  | _ => true
theorem swap_none {value : Expr} {n : Nat} {env : PySem.Env} (h : noComp value = true) : swapsWith value none n env = pure false := by
  cases value <;> first | rfl | cases h
def noTup : Expr → Bool
  | .Tuple _ _ _ => false
  | _ => true
def noPair (tg value : Expr) : Bool := noTup value || (match tg with
  | .Tuple _ _ _ => false
  | .List _ _ => false
  | _ => true)
theorem pair_none {tg value : Expr} {env : PySem.Env} (h : noPair tg value = true) : swappedStores [tg] value env = pure none := by
  unfold noPair at h
  cases value with
  | Tuple vs k p => cases tg <;> first | rfl | cases h
  | _ => cases tg <;> rfl
def isNev : MS → Bool
  | .nev => true
  | _ => false
/-- the arguments of an error: none or one -/
def rsB (F : Ft) (sc : Scope) (fn : Str → Bool) : ME → List Expr → Bool
  | .no, [] => true
  | .cons a .no, [e] => !isStar e && fitE F a sc fn e
  | _, _ => false
theorem rsB_cases {F : Ft} {sc : Scope} {fn : Str → Bool} {es : ME} {xs : List Expr} (h : rsB F sc fn es xs = true) : (es = .no ∧ xs = []) ∨ ∃ a e, es = .cons a .no ∧ xs = [e] ∧ isStar e = false ∧ fitE F a sc fn e = true := by
  unfold rsB at h
  split at h
  · exact .inl ⟨rfl, rfl⟩
  · rename_i a e
    rw [Bool.and_eq_true, Bool.not_eq_true'] at h
    exact .inr ⟨a, e, rfl, rfl, h.1, h.2⟩
  · cases h
mutual
def fitS : Ft → Scope → (Str → Bool) → MS → Stmt → Bool
  | _, _, _, .nev, _ => true
  | F, sc, fn, .asg t e, .Assign [tg] value _ => fitG F sc fn t tg && fitE F e sc fn value && noPair tg value && (!swapB sc value tg || (match e, tg, value with
    | .lc _ _ _ _ _ _, .Name _ _, .ListComp _ [⟨_, _, _, 0⟩] _ _ => true
    | _, _, _ => false))
  | F, sc, fn, .sasg o i e, .Assign [.Subscript x y _] value _ => notSl y && fitE F o sc fn x && fitE F i sc fn y && fitE F e sc fn value
  | F, sc, fn, .aug i o e, .AugAssign (.Name x _) op value _ => decide (o = .add) && decide (op = .Add) && decide (F.N[i]? = some x) && locB sc fn x && fitE F e sc fn value && decide (F.hot ≠ some (some i))
  | F, sc, fn, .ex e, .Expr value _ => noComp value && fitE F e sc fn value
  | F, sc, fn, .ite c a r, .If t p q _ => fitT F c sc fn t && fitB F sc fn a p && fitB F sc fn r q
  | F, sc, fn, .wh c r, .While t p [] _ => fitT F c sc fn t && fitB F sc fn r p
  | F, sc, fn, .fr t it r, .For tg iter p [] _ => notSet iter && fitG F sc fn t tg && fitI F it sc fn tg iter && fitB F sc fn r p && F.hot.isNone
  | F, sc, fn, .ret e, .Return (some v) _ => fitE F e sc fn v
  | _, _, _, .ret e, .Return none _ => (match e with
    | .k .non => true
    | _ => false)
  | _, _, _, .brk, .Break _ => true
  | F, sc, fn, .rs c es, .Raise (some (.Call (.Name x _) xs [] _)) none _ => glB sc x && decide (F.G.lookup x = some (.cls c)) && rsB F sc fn es xs && F.hot.isNone
  | F, sc, fn, .tr s c i h, .Try body [.ExceptHandler (some (.Name x _)) (some n) (b0 :: suite) _] [] [] _ => fitB F sc fn s body && glB sc x && decide (F.G.lookup x = some (.cls c)) && decide (F.N[i]? = some n) && decide (sc.names.lookup n = some .local) && fitB { F with hot := some (some i) } sc fn h (b0 :: suite) && F.hot.isNone
  | F, sc, fn, .tro s c h, .Try body [.ExceptHandler (some (.Name x _)) none (b0 :: suite) _] [] [] _ => fitB F sc fn s body && glB sc x && decide (F.G.lookup x = some (.cls c)) && fitB { F with hot := some none } sc fn h (b0 :: suite) && F.hot.isNone
  | _, _, _, _, _ => false
def fitB : Ft → Scope → (Str → Bool) → MS → List Stmt → Bool
  | _, _, _, .skip, [] => true
  | F, sc, fn, .seq a r, s :: rest => fitS F sc fn a s && fitB F sc fn r rest
  | _, _, _, .nev, _ => true
  | _, _, _, _, _ => false
end

section
variable {T : Ct} {rs : List Addr} {b : Nat} {B : List Nat} {W : WX} {sc : Scope} {fn : Str → Bool} {X : Cx}
/-- what a statement must bring -/
def FinS (T : Ct) (rs : List Addr) (B : List Nat) (W : WX) (H : Hp) (ρ : Rho) (r : Fl) (De : Ends) : Prop := match r with
  | .nx env st => ∀ H' ρ' σ', Ext H ρ H' ρ' → Sim T.K (T.Z.rsv rs) B st H' ρ' → EnvR T.K (T.Z.rsv rs) T.cx H' ρ' env σ' → De.nx σ' H'
  | .rt d st => ∀ v H' ρ', Ext H ρ H' ρ' → Sim T.K (T.Z.rsv rs) B st H' ρ' → RD T.K (T.Z.rsv rs) H' ρ' d v → De.rt v H'
  | .bk env st => ∀ H' ρ' σ', Ext H ρ H' ρ' → Sim T.K (T.Z.rsv rs) B st H' ρ' → EnvR T.K (T.Z.rsv rs) T.cx H' ρ' env σ' → De.bk σ' H'
  | .exc x env st => ∀ c dx H' ρ' σ', Ext H ρ H' ρ' → Sim T.K (T.Z.rsv rs) B st H' ρ' → EnvR T.K (T.Z.rsv rs) T.cx H' ρ' env σ' → RX T.K (T.Z.rsv rs) H' ρ' x c dx → W c dx σ' H'
  | .bad => False
theorem FinS.ext {H H' : Hp} {ρ ρ' : Rho} {r : Fl} {De : Ends} (x : Ext H ρ H' ρ') (h : FinS T rs B W H ρ r De) : FinS T rs B W H' ρ' r De := by
  cases r with
  | nx env st => exact fun H2 ρ2 σ y => h H2 ρ2 σ (x.trans y)
  | rt d st => exact fun v H2 ρ2 y => h v H2 ρ2 (x.trans y)
  | bk env st => exact fun H2 ρ2 σ y => h H2 ρ2 σ (x.trans y)
  | exc e env st => exact fun c dx H2 ρ2 σ y => h c dx H2 ρ2 σ (x.trans y)
  | bad => exact h
theorem FinS.fl {α : Type} {H : Hp} {ρ : Rho} {r : Res α} {env : MP.Env} {σ : L2.St} {f : α → Store → Fl} {De : Ends} (er : EnvR T.K (T.Z.rsv rs) T.cx H ρ env σ) (h : FinS T rs B W H ρ (r.fl env f) De) :
    FinG T.K (T.Z.rsv rs) B (WX.at W σ) H ρ r fun a st1 H1 ρ1 => FinS T rs B W H1 ρ1 (f a st1) De := by
  cases r with
  | ok a st => exact fun H1 ρ1 x S => FinS.ext x h
  | exc e st => exact fun c dx H1 ρ1 x S r => h c dx H1 ρ1 σ x S (er.ext x) r
  | bad => exact h
theorem FinS.nx {H : Hp} {ρ : Rho} {env : MP.Env} {σ : L2.St} {st : Store} {De : Ends} (h : FinS T rs B W H ρ (.nx env st) De) (S : Sim T.K (T.Z.rsv rs) B st H ρ) (er : EnvR T.K (T.Z.rsv rs) T.cx H ρ env σ) : De.nx σ H := h H ρ σ (Ext.refl _ _) S er
/-- a statement's reading -/
def tS (T : Ct) (rs : List Addr) (b : Nat) (B : List Nat) (W : WX) (m : MS) : TS := fun De σ H => ∃ st ρ env, Sim T.K (T.Z.rsv rs) (b :: B) st H ρ ∧ EnvR T.K (T.Z.rsv rs) T.cx H ρ env σ ∧ FinS T rs (b :: B) W H ρ (exec T.C b m env st) De
theorem PS.imp {s : Stmt} {t t' : TS} (h : PS X s t) (k : ∀ De σ H, t' De σ H → t De σ H) : PS X s t' := ⟨fun pins s σ H De I q => h.run pins s σ H De I (k De σ H q)⟩
theorem PSs.imp {s : List Stmt} {t t' : TS} (h : PSs X s t) (k : ∀ De σ H, t' De σ H → t De σ H) : PSs X s t' := ⟨fun pins s σ H De I q => h.run pins s σ H De I (k De σ H q)⟩
/-- a def's body -/
structure Gs (T : Ct) (b : Nat) (B : List Nat) (sc : Scope) (fn : Str → Bool) (X : Cx) (W : WX) : Prop extends Gd T b B sc fn X W where
  po : PassesOwn (model X.prog X.w) X.A X.env X.xe
  stk : X.stack = X.env :: X.outer
  frm : X.env.frame = some X.env.locals
structure SndS (T : Ct) (m : MS) : Prop where
  ps : ∀ rs b B W sc fn X s, Fa T → Gs T b B sc fn X W → fitS T.F sc fn m s = true → PS X s (tS T rs b B W m)
  pb : ∀ rs b B W sc fn X s, Fa T → Gs T b B sc fn X W → fitB T.F sc fn m s = true → PSs X s (tS T rs b B W m)
variable (all : ∀ m : ME, Snd T m)
include all
omit all in
theorem fitG_ns {F : Ft} {t : ME} {tg : Expr} (h : fitG F sc fn t tg = true) : isStar tg = false := by
  cases tg with
  | Starred _ _ => cases t <;> cases h
  | _ => rfl
theorem ss_asg (t e : ME) : SndS T (.asg t e) where
  ps := fun rs b B W sc fn X s A G h => by
    cases s with
    | Assign tgs value pos =>
      match tgs, h with
      | [tg], h =>
        obtain ⟨h, h4⟩ := and2 (show (fitG T.F sc fn t tg && fitE T.F e sc fn value && noPair tg value && (!swapB sc value tg || (match (generalizing := false) e, tg, value with
          | .lc _ _ _ _ _ _, .Name _ _, .ListComp _ [⟨_, _, _, 0⟩] _ _ => true
          | _, _, _ => false))) = true from h)
        obtain ⟨h, h3⟩ := and2 h
        obtain ⟨h1, h2⟩ := and2 h
        cases hsw : swapB sc value tg with
        | false =>
          refine PS.imp (ps_asg ((all e).pe rs b B W sc fn X value A G.toGd h2) ((sndG t).pg rs b B W sc fn X tg G.toGd h1) (by show swapsWith value (some tg) pos.line X.env = _; rw [swap_eq, G.sc, hsw]) (pair_none h3) (asg_cons (fitG_ns h1))) fun De σ H q => ?_
          obtain ⟨st, ρ, env, S, er, q⟩ := q
          refine ⟨st, ρ, env, S, er, FinG.fin ((FinS.fl er q).imp fun d st1 H1 ρ1 x1 S1 q v r => ?_)⟩
          have q : FinS T rs (b :: B) W H1 ρ1 (Fl.of (asgN st1 t d env) st1) De := q
          cases ha : asgN st1 t d env with
          | none => rw [ha] at q; exact q.elim
          | some env' =>
            rw [ha] at q
            exact ⟨st1, ρ1, env, d, env', S1, er.ext x1, r, ha, fun σ' e' _ => FinS.nx q S1 e'⟩
        | true =>
          rw [hsw] at h4
          have h4 : (match (generalizing := false) e, tg, value with
            | .lc _ _ _ _ _ _, .Name _ _, .ListComp _ [⟨_, _, _, 0⟩] _ _ => true
            | _, _, _ => false) = true := h4
          cases e with
          | lc m own t' it c el =>
            cases tg with
            | Name y py =>
              cases value with
              | ListComp elt gens scope p' =>
                match gens, h2, h3, h4, hsw with
                | [⟨tg', iter, ifs, 0⟩], h2, h3, h4, hsw =>
                  have L := lc_rule (rs := rs) (m := m) (W := W) (all it) (all c) (all el) A G.toGd h2
                  obtain ⟨r1, r2, r3, r4, r5, r6, r7⟩ := L
                  cases t with
                  | var i =>
                    obtain ⟨g1, g3⟩ := and2 (show (decide (T.F.N[i]? = some y) && locB sc fn y && decide (T.F.hot ≠ some (some i))) = true from h1)
                    obtain ⟨g1, g2⟩ := and2 g1
                    have hl : X.env.scope.names.lookup y = some .local := by
                      rw [G.sc]
                      have h5 : ((if sc.kind.isAnnotationScope then ScopeKind.function else sc.kind) == .function && sc.names.lookup y == some .local && py.line == p'.line && !(scope.names.any fun (n, k) => n == y && (k == .local || k == .cell))) = true := hsw
                      obtain ⟨h5, _⟩ := and2 h5
                      obtain ⟨h5, _⟩ := and2 h5
                      obtain ⟨_, h5⟩ := and2 h5
                      exact eq_of_beq h5
                    refine PS.imp (ps_setLc (G.calm (and2 h2).2) G.nd (slot_of G.toGd g1) hl (by rw [swap_eq, G.sc, hsw]) r2 r1 r4 r5 r6 r3) fun De σ H q => ?_
                    obtain ⟨st, ρ, env, S, er, q⟩ := q
                    refine r7 σ H _ ⟨st, ρ, env, S, er, FinG.fin ((FinS.fl er q).imp fun d st1 H1 ρ1 x1 S1 q v r => ?_)⟩
                    have q : FinS T rs (b :: B) W H1 ρ1 (.nx (env.set i (some d)) st1) De := q
                    exact FinS.nx q S1 ((er.ext x1).set r i (cx_slot G.toGd g3))
                  | _ => cases h1
              | _ => cases h4
            | _ => cases h4
          | _ => cases h4
    | _ => cases h
  pb := fun rs b B W sc fn X s A G h => by cases s <;> cases h
theorem ss_sasg (o i e : ME) : SndS T (.sasg o i e) where
  ps := fun rs b B W sc fn X s A G h => by
    cases s with
    | Assign tgs value pos =>
      match tgs, h with
      | [.Subscript x y p], h =>
        obtain ⟨h, h4⟩ := and2 (show (notSl y && fitE T.F o sc fn x && fitE T.F i sc fn y && fitE T.F e sc fn value) = true from h)
        obtain ⟨h, h3⟩ := and2 h
        obtain ⟨h1, h2⟩ := and2 h
        have S1 := set_all (X := X) (K := T.K) (Z := T.Z.rsv rs) (B := B) (b := b) G.hK G.toGd.hu G.top
        refine PS.imp (ps_asg ((all e).pe rs b B W sc fn X value A G.toGd h4) (pg_sub ((all o).pe rs b B W sc fn X x A G.toGd h2) ((all i).pe rs b B W sc fn X y A G.toGd h3) S1 (by intro v; cases y <;> first | rfl | cases h1)) (by
          show swapsWith value (some (.Subscript x y p)) pos.line X.env = _
          rw [swap_eq]
          cases value <;> rfl) (pair_none (by cases value <;> rfl))) fun De σ H q => ?_
        obtain ⟨st, ρ, env, S, er, q⟩ := q
        refine ⟨st, ρ, env, S, er, FinG.fin ((FinS.fl er q).imp fun d st1 H1 ρ1 x1 S1 q v r => ?_)⟩
        refine ⟨st1, ρ1, env, S1, er.ext x1, FinG.fin ((FinS.fl (er.ext x1) q).imp fun d2 st2 H2 ρ2 x2 S2 q v2 r2 => ?_)⟩
        refine ⟨st2, ρ2, env, S2, (er.ext x1).ext x2, FinG.fin ((FinS.fl ((er.ext x1).ext x2) q).imp fun d3 st3 H3 ρ3 x3 S3 q v3 r3 => ?_)⟩
        have q : FinS T rs (b :: B) W H3 ρ3 (match putD b d2 d3 d st3 with
          | some st4 => .nx env st4
          | none => .bad) De := q
        cases hp : putD b d2 d3 d st3 with
        | none => rw [hp] at q; exact q.elim
        | some st4 =>
          rw [hp] at q
          exact ⟨st3, ρ3, d2, d3, d, S3, r2.ext x3, r3, (r.ext x2).ext x3, st4, hp, fun H4 ρ4 x4 S4 => q H4 ρ4 σ x4 S4 ((((er.ext x1).ext x2).ext x3).ext x4)⟩
    | _ => cases h
  pb := fun rs b B W sc fn X s A G h => by cases s <;> cases h
theorem ss_aug (i : Nat) (o : BOp) (e : ME) : SndS T (.aug i o e) where
  ps := fun rs b B W sc fn X s A G h => by
    cases s with
    | AugAssign tg op value pos =>
      cases tg with
      | Name x p =>
        obtain ⟨h, hx⟩ := and2 (show (decide (o = .add) && decide (op = .Add) && decide (T.F.N[i]? = some x) && locB sc fn x && fitE T.F e sc fn value && decide (T.F.hot ≠ some (some i))) = true from h)
        have hx := cx_slot G.toGd hx
        obtain ⟨h, h5⟩ := and2 h
        obtain ⟨h, h4⟩ := and2 h
        obtain ⟨h, h3⟩ := and2 h
        obtain ⟨h1, h2⟩ := and2 h
        have h1 := of_decide_eq_true h1
        have h2 := of_decide_eq_true h2
        subst h1 h2
        obtain ⟨l1, l2⟩ := loc_of G.toGd h4
        refine PS.imp (ps_aug G.nd (slot_of G.toGd h3) l1 ((all e).pe rs b B W sc fn X value A G.toGd h5) ip_add l2) fun De σ H q => ?_
        obtain ⟨st, ρ, env, S, er, q⟩ := q
        have q : FinS T rs (b :: B) W H ρ (match env[i]? with
          | some (some x) => (den T.C b e env st).fl env fun y st1 => (match x, y with
            | .int _, .int _ => (binop .add false x y st1).fl env fun z st2 => .nx (env.set i (some z)) st2
            | _, _ => .bad)
          | _ => .bad) De := q
        split at q
        · rename_i d hd
          obtain ⟨v, hv, rv⟩ := er.val i d hd
          refine ⟨v, hv, st, ρ, env, S, er, FinG.fin ((FinS.fl er q).imp fun d2 st1 H1 ρ1 x1 S1 q v2 r2 => ?_)⟩
          have rv := rv.ext x1
          cases d with
          | int n =>
            cases d2 with
            | int k =>
              cases rv
              cases r2
              have q : FinS T rs (b :: B) W H1 ρ1 (.nx (env.set i (some (.int (n + k)))) st1) De := q
              exact ⟨n, k, rfl, rfl, FinS.nx q S1 ((er.ext x1).set (.int _) i hx)⟩
            | _ => exact q.elim
          | _ => exact q.elim
        · exact q.elim
      | _ => cases h
    | _ => cases h
  pb := fun rs b B W sc fn X s A G h => by cases s <;> cases h
theorem ss_ex (e : ME) : SndS T (.ex e) where
  ps := fun rs b B W sc fn X s A G h => by
    cases s with
    | Expr value pos =>
      obtain ⟨h1, h2⟩ := and2 (show (noComp value && fitE T.F e sc fn value) = true from h)
      refine PS.imp (ps_expr ((all e).pe rs b B W sc fn X value A G.toGd h2) (swap_none h1)) fun De σ H q => ?_
      obtain ⟨st, ρ, env, S, er, q⟩ := q
      exact ⟨st, ρ, env, S, er, FinG.fin ((FinS.fl er q).imp fun d st1 H1 ρ1 x1 S1 q v r => FinS.nx q S1 (er.ext x1))⟩
    | _ => cases h
  pb := fun rs b B W sc fn X s A G h => by cases s <;> cases h
theorem ss_ret (e : ME) : SndS T (.ret e) where
  ps := fun rs b B W sc fn X s A G h => by
    cases s with
    | Return v pos =>
      cases v with
      | some v =>
        refine PS.imp (ps_ret ((all e).pe rs b B W sc fn X v A G.toGd h)) fun De σ H q => ?_
        obtain ⟨st, ρ, env, S, er, q⟩ := q
        exact ⟨st, ρ, env, S, er, FinG.fin ((FinS.fl er q).imp fun d st1 H1 ρ1 x1 S1 q v r => q v H1 ρ1 (Ext.refl _ _) S1 r)⟩
      | none =>
        have e2 : e = .k .non := by
          revert h
          cases e with
          | k d => cases d <;> first | (intro _; rfl) | (intro h; cases h)
          | _ => intro h; cases h
        subst e2
        refine PS.imp ps_retN fun De σ H q => ?_
        obtain ⟨st, ρ, env, S, er, q⟩ := q
        exact q .non H ρ (Ext.refl _ _) S .non
    | _ => cases h
  pb := fun rs b B W sc fn X s A G h => by cases s <;> cases h
omit all in
theorem ss_brk : SndS T .brk where
  ps := fun rs b B W sc fn X s A G h => by
    cases s with
    | Break pos =>
      refine PS.imp ps_break fun De σ H q => ?_
      obtain ⟨st, ρ, env, S, er, q⟩ := q
      exact q H ρ σ (Ext.refl _ _) S er
    | _ => cases h
  pb := fun rs b B W sc fn X s A G h => by cases s <;> cases h
omit all in
theorem ss_nev : SndS T .nev where
  ps := fun rs b B W sc fn X s A G h => PS.imp ps_never fun De σ H ⟨st, ρ, env, S, er, q⟩ => q
  pb := fun rs b B W sc fn X s A G h => PSs.imp pss_never fun De σ H ⟨st, ρ, env, S, er, q⟩ => q
omit all in
theorem ss_skip : SndS T .skip where
  ps := fun rs b B W sc fn X s A G h => by cases s <;> cases h
  pb := fun rs b B W sc fn X s A G h => by
    cases s with
    | nil => exact PSs.imp pss_nil fun De σ H ⟨st, ρ, env, S, er, q⟩ => FinS.nx q S er
    | cons _ _ => cases h
omit all in
theorem next_fin {H : Hp} {ρ : Rho} {r : Fl} {f : MP.Env → Store → Fl} {De : Ends} {Nx : L2.St → Hp → Prop} (h : FinS T rs B W H ρ (r.next f) De) (k : ∀ env st H1 ρ1 σ, Ext H ρ H1 ρ1 → Sim T.K (T.Z.rsv rs) B st H1 ρ1 → EnvR T.K (T.Z.rsv rs) T.cx H1 ρ1 env σ → FinS T rs B W H1 ρ1 (f env st) De → Nx σ H1) :
    FinS T rs B W H ρ r { De with nx := Nx } := by
  cases r with
  | nx env st => exact fun H1 ρ1 σ x S e => k env st H1 ρ1 σ x S e (FinS.ext x h)
  | rt d st => exact h
  | bk env st => exact h
  | exc x env st => exact h
  | bad => exact h
omit all in
theorem ss_seq {a r : MS} (ha : SndS T a) (hr : SndS T r) : SndS T (.seq a r) where
  ps := fun rs b B W sc fn X s A G h => by cases s <;> cases h
  pb := fun rs b B W sc fn X s A G h => by
    cases s with
    | nil => cases h
    | cons s rest =>
      obtain ⟨h1, h2⟩ := and2 (show (fitS T.F sc fn a s && fitB T.F sc fn r rest) = true from h)
      refine PSs.imp (pss_cons (ha.ps rs b B W sc fn X s A G h1) (hr.pb rs b B W sc fn X rest A G h2)) fun De σ H q => ?_
      obtain ⟨st, ρ, env, S, er, q⟩ := q
      exact ⟨st, ρ, env, S, er, next_fin q fun env st H1 ρ1 σ x S e q => ⟨st, ρ1, env, S, e, q⟩⟩
theorem ss_ite {a r : MS} (c : ME) (ha : SndS T a) (hr : SndS T r) : SndS T (.ite c a r) where
  ps := fun rs b B W sc fn X s A G h => by
    cases s with
    | If t p q pos =>
      obtain ⟨h, h3⟩ := and2 (show (fitT T.F c sc fn t && fitB T.F sc fn a p && fitB T.F sc fn r q) = true from h)
      obtain ⟨h1, h2⟩ := and2 h
      refine PS.imp (ps_if ((all c).pt rs b B W sc fn X t A G.toGd h1) (ha.pb rs b B W sc fn X p A G h2) (hr.pb rs b B W sc fn X q A G h3)) fun De σ H q => ?_
      obtain ⟨st, ρ, env, S, er, q⟩ := q
      refine ⟨st, ρ, env, S, er, (FinS.fl er q).imp fun k st1 H1 ρ1 x1 S1 q => ?_⟩
      cases k with
      | true => exact ⟨st1, ρ1, env, S1, er.ext x1, q⟩
      | false => exact ⟨st1, ρ1, env, S1, er.ext x1, q⟩
    | _ => cases h
  pb := fun rs b B W sc fn X s A G h => by cases s <;> cases h
theorem ss_wh {r : MS} (c : ME) (hr : SndS T r) : SndS T (.wh c r) where
  ps := fun rs b B W sc fn X s A G h => by
    cases s with
    | While t p els pos =>
      cases els with
      | nil =>
        obtain ⟨h1, h2⟩ := and2 (show (fitT T.F c sc fn t && fitB T.F sc fn r p) = true from h)
        refine PS.imp (ps_while G.po ((all c).pt rs b B W sc fn X t A G.toGd h1) (hr.pb rs b B W sc fn X p A G h2)) fun De σ H q => ?_
        refine ⟨fun n σ H => ∃ st ρ env, Sim T.K (T.Z.rsv rs) (b :: B) st H ρ ∧ EnvR T.K (T.Z.rsv rs) T.cx H ρ env σ ∧ FinS T rs (b :: B) W H ρ (whileGo (fun v s => needB (den T.C b c v s)) (exec T.C b r) n env st) De, ⟨TURNS, q⟩, ?_⟩
        rintro n σ H ⟨st, ρ, env, S, er, q⟩
        cases n with
        | zero => exact q.elim
        | succ n =>
          refine ⟨st, ρ, env, S, er, (FinS.fl er q).imp fun k st1 H1 ρ1 x1 S1 q => ?_⟩
          cases k with
          | false => exact FinS.nx q S1 (er.ext x1)
          | true =>
            refine ⟨fun σ' H' => ∃ st ρ env, Sim T.K (T.Z.rsv rs) (b :: B) st H' ρ ∧ EnvR T.K (T.Z.rsv rs) T.cx H' ρ env σ' ∧ FinS T rs (b :: B) W H' ρ (whileGo (fun v s => needB (den T.C b c v s)) (exec T.C b r) n env st) De, fun σ' H' hN => ⟨n, Nat.lt_succ_self n, hN⟩, st1, ρ1, env, S1, er.ext x1, ?_⟩
            have q : FinS T rs (b :: B) W H1 ρ1 (match exec T.C b r env st1 with
              | .nx env2 st2 => whileGo (fun v s => needB (den T.C b c v s)) (exec T.C b r) n env2 st2
              | .bk env2 st2 => .nx env2 st2
              | e => e) De := q
            cases hx : exec T.C b r env st1 with
            | nx env2 st2 => rw [hx] at q; exact fun H2 ρ2 σ2 x2 S2 e2 => ⟨st2, ρ2, env2, S2, e2, FinS.ext x2 q⟩
            | bk env2 st2 => rw [hx] at q; exact q
            | rt d st2 => rw [hx] at q; exact q
            | exc x env2 st2 => rw [hx] at q; exact q
            | bad => rw [hx] at q; exact q
      | cons _ _ => cases h
    | _ => cases h
  pb := fun rs b B W sc fn X s A G h => by cases s <;> cases h
theorem ss_fr {r : MS} (t it : ME) (hr : SndS T r) : SndS T (.fr t it r) where
  ps := fun rs b B W sc fn X s A G h => by
    cases s with
    | For tg iter p els pos =>
      cases els with
      | nil =>
        obtain ⟨h, hh⟩ := and2 (show (notSet iter && fitG T.F sc fn t tg && fitI T.F it sc fn tg iter && fitB T.F sc fn r p && T.F.hot.isNone) = true from h)
        obtain ⟨h, h4⟩ := and2 h
        obtain ⟨h, h3⟩ := and2 h
        obtain ⟨h1, h2⟩ := and2 h
        refine PS.imp (ps_for G.po (G.calm hh) ((all it).pi rs b B W sc fn X tg iter A G.toGd h3) ((sndG t).pg rs b B W sc fn X tg G.toGd h2) (hr.pb rs b B W sc fn X p A G h4) (set_ok h1)) fun De σ H q => ?_
        obtain ⟨st, ρ, env, S, er, q⟩ := q
        refine ⟨st, ρ, env, S, er, (FinS.fl er q).imp fun pr st1 H1 ρ1 x1 S1 q J hw hlen => ?_⟩
        have q : FinS T rs (b :: B) W H1 ρ1 (forGo (fun s d v => asgN s t d v) (exec T.C b r) pr.2 pr.1 env st1) De := q
        generalize pr.1 = ds at hw hlen q
        generalize pr.2 = sr at hw q
        refine ⟨fun i n σ H => ∃ st ρ env, n = ds.length - i ∧ i ≤ ds.length ∧ Ext H1 ρ1 H ρ ∧ Sim T.K (T.Z.rsv rs) (b :: B) st H ρ ∧ EnvR T.K (T.Z.rsv rs) T.cx H ρ env σ ∧ FinS T rs (b :: B) W H ρ (forGo (fun s d v => asgN s t d v) (exec T.C b r) sr (ds.drop i) env st) De,
          ⟨ds.length, st1, ρ1, env, rfl, Nat.zero_le _, Ext.refl _ _, S1, er.ext x1, q⟩, ?_⟩
        rintro i n σ H ⟨st, ρ, env, rfl, hi, x, S, er, q⟩
        by_cases hlt : i < ds.length
        · have ed : ds.drop i = ds[i] :: ds.drop (i + 1) := List.drop_eq_getElem_cons hlt
          rw [ed] at q
          have hget : ds[i]? = some ds[i] := by simp [hlt]
          generalize ds[i] = d at hget ed q
          have q : FinS T rs (b :: B) W H ρ (if unchanged st sr then (match asgN st t d env with
            | some env1 => (match exec T.C b r env1 st with
              | .nx env2 st2 => forGo (fun s d v => asgN s t d v) (exec T.C b r) sr (ds.drop (i + 1)) env2 st2
              | .bk env2 st2 => .nx env2 st2
              | e => e)
            | none => .bad) else .bad) De := q
          by_cases hu : unchanged st sr = true
          · rw [if_pos hu] at q
            obtain ⟨_, hstep⟩ := hw rs st H ρ (RsOk.same _ _) x S hu
            obtain ⟨hgo, hy⟩ := hstep i d hget
            refine .inr ⟨hgo, fun σ' H' => ∃ st ρ env, Ext H1 ρ1 H' ρ ∧ Sim T.K (T.Z.rsv rs) (b :: B) st H' ρ ∧ EnvR T.K (T.Z.rsv rs) T.cx H' ρ env σ' ∧ FinS T rs (b :: B) W H' ρ (forGo (fun s d v => asgN s t d v) (exec T.C b r) sr (ds.drop (i + 1)) env st) De, fun σ' H' ⟨st, ρ, env, k1, k2, k3, k4⟩ => ⟨ds.length - (i + 1), by omega, st, ρ, env, rfl, hlt, k1, k2, k3, k4⟩, fun xv H' hyv => ?_⟩
            obtain ⟨ρ2, x2, S2, rx⟩ := hy xv H' hyv
            cases ha : asgN st t d env with
            | none => rw [ha] at q; exact q.elim
            | some env1 =>
              rw [ha] at q
              refine ⟨st, ρ2, env, d, env1, S2, er.ext x2, rx, ha, fun σ2 e2 _ => ⟨st, ρ2, env1, S2, e2, ?_⟩⟩
              have q : FinS T rs (b :: B) W H' ρ2 (match exec T.C b r env1 st with
                | .nx env2 st2 => forGo (fun s d v => asgN s t d v) (exec T.C b r) sr (ds.drop (i + 1)) env2 st2
                | .bk env2 st2 => .nx env2 st2
                | e => e) De := FinS.ext x2 q
              cases hx : exec T.C b r env1 st with
              | nx env2 st2 => rw [hx] at q; exact fun H2 ρ3 σ3 x3 S3 e3 => ⟨st2, ρ3, env2, (x.trans x2).trans x3, S3, e3, FinS.ext x3 q⟩
              | bk env2 st2 => rw [hx] at q; exact q
              | rt d st2 => rw [hx] at q; exact q
              | exc x env2 st2 => rw [hx] at q; exact q
              | bad => rw [hx] at q; exact q
          · rw [if_neg hu] at q; exact q.elim
        · have hie : i = ds.length := by omega
          subst hie
          rw [List.drop_length] at q
          have q : FinS T rs (b :: B) W H ρ (if unchanged st sr then .nx env st else .bad) De := q
          by_cases hu : unchanged st sr = true
          · rw [if_pos hu] at q
            obtain ⟨hstop, _⟩ := hw rs st H ρ (RsOk.same _ _) x S hu
            exact .inl ⟨hstop, FinS.nx q S er⟩
          · rw [if_neg hu] at q; exact q.elim
      | cons _ _ => cases h
    | _ => cases h
  pb := fun rs b B W sc fn X s A G h => by cases s <;> cases h
end
end MP

set_option autoImplicit false
set_option linter.all false
set_option maxRecDepth 100000
/-! Mx1: what is handled: its word, its place, its class. -/
namespace MP
open PySem PySem.Spec PyProof.Rows L2
section
open PySem.W PySem.Calls
variable {prog : Program} {w : World} {A : Around} {E : Value → Shared → Prop} {s : Shared} {K : Frag} {x D : Addr} {ox : Obj} {od : Option Obj}
theorem fo_cls {C : Addr} {n : Str} {a g : Value} (h0 : (clsIn K C).isSome = true) (h1 : findIn K (.ref C) n = some (some a)) (h2 : specialIn K a "__get__" = some (some g)) (h3 : takesIn K a = some true) : findObj K C od n = some (.bind g a) := by
  obtain ⟨cd, e⟩ := Option.isSome_iff_exists.mp h0
  simp only [findObj, e, h1, h2, h3, Option.bind_some]
/-- an error's class, asked of one that has its dict -/
theorem x_class {Q : Option Value → Shared → Prop} (C : ExcC K D) (X : K.In s.heap) (I : InstAt s.heap x ox D od) (h : Q (some (.ref D)) { s with toks := s.toks + 1 }) : wpAny (model prog w) A (getAttr? (.ref x) "__class__") Q E s := by
  have hf : findObj K D od "__class__" = some (.bind (.builtin "getset_descriptor.__get__") (.builtin "object.__class__")) := fo_cls (by obtain ⟨cd, e, _⟩ := any_some C.hd; rw [e] <;> rfl) C.ha C.hn C.ht
  obtain ⟨hp, g, d, t, os⟩ := s
  have T0 := I.type (M := model prog w)
  have T1 := looks_findIn (M := model prog w) X C.hg
  have T2 := looks_findIn (M := model prog w) X C.hk
  have T3 := looks_find (M := model prog w) X I hf
  have T4 : Looks (model prog w) hp (isInstance (.ref x) (.type "BaseException")) true := T0.andThen (looks_subIn X C.hs)
  have b0 : (false && onTheHeap (Value.builtin "BaseException.__getattribute__")) = false := rfl
  have b2 : (Value.builtin "BaseException.__getattribute__" == Value.builtin "object.__getattribute__") = false := by decide +kernel
  have b1 : (onTheHeap (Value.ref D) && Value.builtin "BaseException.__getattribute__" == Value.builtin "object.__getattribute__") = false := by rw [b2] <;> rfl
  unfold getAttr? getAttrBy? getAttrBy
  refine wpAny_bind (wpAny_mkText (wpAny_bind (wpAny_attempt (wpAny_holding (wpAny_bind (T0.at (wpAny_bind (T1.at ?_))))))))
  show wpAny _ _ (if (onTheHeap (Value.ref D) && Value.builtin "BaseException.__getattribute__" == Value.builtin "object.__getattribute__") = true then _ else _) _ _ _
  rw [b1, if_neg Bool.false_ne_true]
  unfold getAttrByItsOwn hookBefore
  refine wpAny_bind ?_
  rw [if_pos (by rfl : onTheHeap (Value.ref D) = true)]
  refine T2.at ?_
  refine wpAny_bind (wpAny_attempt (wpAny_holding ?_))
  unfold callGetattribute
  rw [b0, if_neg Bool.false_ne_true]
  unfold boundAndCalled
  rw [PySem.F.excAttr_ValueError.ga.bind (.ref x)]
  refine wpAny_bind (wpAny_pure ?_)
  show wpAny _ _ (call (.builtin "BaseException.__getattribute__") [.ref x, .str "__class__" t]) _ _ _
  refine wpAny_call (codeAny_call_builtin PySem.F.excAttr_ValueError.ga.plain PySem.F.entry_bexc_ga ?_)
  refine @check_slot (model prog w) _ _ ⟨hp, g, d, t + 1, os⟩ "BaseException.__getattribute__" "BaseException" "__getattribute__" (.ref x) [.str "__class__" t] [] _ (by decide +kernel) (by decide +kernel) T4 (PySem.F.args_bexc_ga (.ref x) (.str "__class__" t)) ?_
  unfold Builtin.«object.__getattribute__»
  refine wpAny_bind (wpAny_of_eq (a := ((Value.ref x : Value), [Value.str "__class__" t])) (by first | rfl | (simp only [slotArgs] <;> rfl)) ?_)
  refine wpAny_bind (wpAny_pure (wpAny_bind (T0.at (wpAny_bind (T3.at ?_)))))
  show wpAny _ _ (holding [Value.builtin "object.__class__"] (call (.builtin "getset_descriptor.__get__") [.builtin "object.__class__", .ref x, .ref D]) >>= ret) _ _ _
  refine wpAny_bind (wpAny_holding (wpAny_call (class_get (s := ⟨hp, g, d, t + 1, os⟩) (ox := ox) (od := od) X I C.hm ?_)))
  refine wpAny_pure ?_
  show wpAny _ _ (handedOut (.ref D)) _ _ _
  rw [handedOut_of (v := .ref D) rfl]
  first
    | exact wpAny_pure (wpAny_pure h)
    | exact wpAny_pure h
    | exact wpAny_pure (wpAny_bind (wpAny_pure (wpAny_pure h)))
theorem x_kit (C : ExcC K D) : KitX K (.ref x) (.ref D) (fun h => InstAt h x ox D od) where
  ty := fun _ _ _ I => I.type
  it := fun _ _ X _ => by
    obtain ⟨cd, e, _⟩ := any_some C.hd
    unfold clsIn at e
    split at e
    · rename_i ho
      intro A' Q' E' s' k q
      unfold isType loadHead
      exact wpAny_bind (wpAny_loadPart (k _ _ (X _ _ ho)) (wpAny_pure q))
    · cases e
  ne := fun h tp dd its n sl X htp => by
    obtain ⟨cd, e, _⟩ := any_some C.hd
    refine Bool.eq_false_iff.mpr fun q => ?_
    have e2 : D = tp := Value.ref.inj (beq_iff_eq.mp q)
    subst e2
    unfold clsIn at e
    split at e
    · rename_i ho
      have z := (X _ _ ho).symm.trans htp
      cases z
    · cases e
  ca := fun X I k => x_class C X I k
end
end MP

set_option autoImplicit false
set_option linter.all false
set_option maxRecDepth 100000
/-! Mx2: the terms that ask what is handled. -/
namespace MP
open PySem PySem.Spec PyProof.Rows L2
section
variable {T : Ct} {rs : List Addr} {b : Nat} {B : List Nat} {W : WX} {sc : Scope} {fn : Str → Bool} {X : Cx}
/-- an attribute of what is handled -/
theorem pe_hfld {a C d : Addr} {oe : Obj} {n : Str} {e : Expr} {te : TE} {pos : Pos} (T : XfC X.K C) (hno : PySem.W.findIn X.K (.ref C) n = some none) (hp : (a, oe) ∈ X.pn) (hz : Zc (.ref C) (some d) oe) (hf : ∃ vs, oe.data = .fields vs) (he : PE X e te)
    (hb : attributeBase e n X.env (eval e X.env) = eval e X.env) : PE X (.Attribute e n pos) fun σ H Q => te σ H fun x H1 => x = .ref a ∧ ∃ (fs : List (Str × V)) (v : V), H1 d = some (.xd fs) ∧ fs.lookup n = some v ∧ Q v H1 := by
  refine ⟨fun pins s σ H Q I h => ?_⟩
  refine attr_of hb (thn (he.run pins s σ H _ I h) fun u s1 hh => ?_)
  obtain ⟨x, H1, I1, rx, ex, fs, v, ea, l, q⟩ := hh
  subst ex
  obtain rfl : u = Value.ref a := rx
  have ha := (I1.pin (a, oe) (List.mem_append_left _ hp)).1
  obtain ⟨vs, hd⟩ := hf
  have hx : ObjOk X.prog X.w H1 s1.heap d (.xd fs) := I1.hok d _ ea
  obtain ⟨mA, hns, hr⟩ := hx
  obtain ⟨od, ho, hl⟩ := lookIn_ns hns
  obtain ⟨u, hu, ru⟩ := RelO.some_of (v := v) (o := mA n) (by rw [← l]; exact hr n)
  have J : PySem.W.InstAt s1.heap a oe C (some od) := ⟨ha, hz.1, by unfold PySem.W.notCls; rw [hd] <;> rfl, by rw [hz.2] <;> exact ho⟩
  exact HandSPX.exc_get I1.kIn J T.ga T.gg T.exC (PySem.W.findObj_own T.hdC hno rfl (by rw [hl, hu])) (handed_of ru) ⟨v, H1, I1.tok _, ru, q⟩
/-- isinstance of what is handled -/
theorem call_hisi {a C d : Addr} {oe : Obj} (E : ExcC X.K C) (hp : (a, oe) ∈ X.pn) (hz : Zc (.ref C) (some d) oe) (hf : ∃ vs, oe.data = .fields vs) : CallR X (.builtin "isinstance") fun xs H Q => ∃ (c : V) (cv : Value) (k : Bool) (fs : List (Str × V)), xs = [.ref a, c] ∧ (∀ u, RelV c u → u = cv) ∧ PySem.W.kitOne X.K (.ref C) cv = some k ∧ H d = some (.xd fs) ∧ Q (.bl k) H := by
  intro pins s σ H xs us Q I r h
  obtain ⟨c, cv, k, fs, rfl, hcv, e, ea, q⟩ := h
  obtain ⟨v1, v2, rfl, r1, r2⟩ : ∃ v1 v2, us = [v1, v2] ∧ RelV (.ref a) v1 ∧ RelV c v2 := by
    cases r with
    | cons r1 r =>
      cases r with
      | cons r2 r => cases r; exact ⟨_, _, rfl, r1, r2⟩
  obtain rfl : v1 = Value.ref a := r1
  have e2 := hcv _ r2
  subst e2
  have hget := (I.pin (a, oe) (List.mem_append_left _ hp)).1
  obtain ⟨vs, hv⟩ := hf
  have hx : ObjOk X.prog X.w H s.heap d (.xd fs) := I.hok d _ ea
  obtain ⟨mA, hns, _⟩ := hx
  obtain ⟨od, ho, _⟩ := lookIn_ns hns
  have J : PySem.W.InstAt s.heap a oe C (some od) := ⟨hget, hz.1, by unfold PySem.W.notCls; rw [hv] <;> rfl, by rw [hz.2] <;> exact ho⟩
  exact PySem.W.kia_one (x_kit E) I.kIn J e (fun z => nomatch z) fun tk => ⟨.bl k, H, I.kept (t' := tk) fun _ _ z => z, rfl, q⟩
/-- the name of what is handled -/
theorem pe_exn (G : Gd T b B sc fn X W) {e : Expr} (h : exnB T.F sc e = true) : ∃ i x p, e = .Name x p ∧ T.F.hot = some (some i) ∧ PE X e fun σ H Q => ∃ v, σ[i]? = some (some v) ∧ Q v H := by
  cases e with
  | Name x p =>
    have h : (match T.F.hot with
      | some (some i) => decide (T.F.N[i]? = some x) && visB sc x && (x == ("__debug__" : Str)) == false && (x == ("__classdict__" : Str)) == false
      | _ => false) = true := h
    split at h
    · rename_i i hh
      obtain ⟨h, h4⟩ := and2 h
      obtain ⟨h, h3⟩ := and2 h
      obtain ⟨h1, h2⟩ := and2 h
      exact ⟨i, x, p, rfl, hh, pe_var (slot_of G h1) (vis_of G h2) (by simpa using h3) (by simpa using h4)⟩
    · cases h
  | _ => cases h
theorem xat (G : Gd T b B sc fn X W) {i : Nat} (hh : T.F.hot = some (some i)) : ∃ c w p a C d oe, T.C.cur = some (c, w, p) ∧ T.C.err c = true ∧ (a, oe) ∈ X.pn ∧ Zc (.ref C) (some d) oe ∧ (∃ vs, oe.data = .fields vs) ∧
    ∀ H ρ env σ, EnvR T.K (T.Z.rsv rs) T.cx H ρ env σ → σ[i]? = some (some (.ref a)) ∧ ∃ (fs : List (Str × V)) (vw vp : V), T.Z.cls c = some C ∧ H d = some (.xd fs) ∧ fs.lookup ("word" : Str) = some vw ∧ fs.lookup ("place" : Str) = some vp ∧ RD T.K (T.Z.rsv rs) H ρ w vw ∧ RD T.K (T.Z.rsv rs) H ρ p vp := by
  obtain ⟨c, w, p, a, C, d, oe, e1, e2, e6, e3, e4, e5⟩ := G.hots (some i) hh
  refine ⟨c, w, p, a, C, d, oe, e2, e6, e3, e4, e5, fun H ρ env σ er => ?_⟩
  obtain ⟨fs, vw, vp, h1, h2, h3, h4, h5, h6, h7⟩ := er.cur c w p a C d (some i) e1
  exact ⟨er.exn c w p a C d i e1, fs, vw, vp, h1, h2, h4, h5, h6, h7⟩
theorem snd_none {m : ME} (h1 : ∀ sc fn e, fitT T.F m sc fn e = false) (h2 : ∀ sc fn e, fitA T.F m sc fn e = false) (h3 : ∀ sc fn t e, fitI T.F m sc fn t e = false) (pe : ∀ rs b B W sc fn X e, Fa T → Gd T b B sc fn X W → fitE T.F m sc fn e = true → PE X e (tE T rs b B W m)) : Snd T m where
  pe := pe
  pt := fun rs b B W sc fn X e A G h => by rw [h1] at h; cases h
  pa := fun rs b B W sc fn X es A G h => by rw [h2] at h; cases h
  pi := fun rs b B W sc fn X tg e A G h => by rw [h3] at h; cases h
/-- where the class lies -/
theorem x_at_cls (er : ∀ H ρ env σ, EnvR T.K (T.Z.rsv rs) T.cx H ρ env σ → True) : True := trivial
theorem snd_xw : Snd T .xw := snd_none (fun sc fn e => by cases e <;> rfl) (fun sc fn e => by cases e <;> rfl) (fun sc fn t e => by cases e <;> rfl) fun rs b B W sc fn X e A G h => by
  cases e with
  | Attribute x name pos =>
    obtain ⟨h1, h2⟩ := and2 (show (exnB T.F sc x && decide (name = ("word" : Str))) = true from h)
    have h2 := of_decide_eq_true h2
    subst h2
    obtain ⟨i, y, p, rfl, hh, px⟩ := pe_exn G h1
    obtain ⟨c, w, pl, a, C, d, oe, e1, e2, e3, e4, e5, e6⟩ := xat (rs := rs) G hh
    refine ⟨fun pins s σ H Q I q => ?_⟩
    obtain ⟨st, ρ, env, S, er, q⟩ := q
    obtain ⟨s1, fs, vw, vp, z1, z2, z3, z4, z5, z6⟩ := e6 H ρ env σ er
    have E := A.exc c C z1 e2
    rw [← G.hK] at E
    refine (pe_hfld E.xf E.nw e3 e4 e5 px (base_ok rfl)).run pins s σ H Q I ⟨_, s1, rfl, fs, vw, z2, z3, ?_⟩
    have q : Fin T.K (T.Z.rsv rs) (b :: B) (WX.at W σ) H ρ (match T.C.cur with
      | some (_, w, _) => .ok w st
      | none => .bad) Q := q
    rw [e1] at q
    exact Fin.here S z5 q
  | _ => cases h
theorem snd_xp : Snd T .xp := snd_none (fun sc fn e => by cases e <;> rfl) (fun sc fn e => by cases e <;> rfl) (fun sc fn t e => by cases e <;> rfl) fun rs b B W sc fn X e A G h => by
  cases e with
  | Attribute x name pos =>
    obtain ⟨h1, h2⟩ := and2 (show (exnB T.F sc x && decide (name = ("place" : Str))) = true from h)
    have h2 := of_decide_eq_true h2
    subst h2
    obtain ⟨i, y, p, rfl, hh, px⟩ := pe_exn G h1
    obtain ⟨c, w, pl, a, C, d, oe, e1, e2, e3, e4, e5, e6⟩ := xat (rs := rs) G hh
    refine ⟨fun pins s σ H Q I q => ?_⟩
    obtain ⟨st, ρ, env, S, er, q⟩ := q
    obtain ⟨s1, fs, vw, vp, z1, z2, z3, z4, z5, z6⟩ := e6 H ρ env σ er
    have E := A.exc c C z1 e2
    rw [← G.hK] at E
    refine (pe_hfld E.xf E.np e3 e4 e5 px (base_ok rfl)).run pins s σ H Q I ⟨_, s1, rfl, fs, vp, z2, z4, ?_⟩
    have q : Fin T.K (T.Z.rsv rs) (b :: B) (WX.at W σ) H ρ (match T.C.cur with
      | some (_, _, p) => .ok p st
      | none => .bad) Q := q
    rw [e1] at q
    exact Fin.here S z6 q
  | _ => cases h
theorem xi_pe (c : Nat) (A : Fa T) (G : Gd T b B sc fn X W) {g y : Str} {x : Expr} {p1 p2 p3 : Pos} (h : (glB sc g && decide (T.F.G.lookup g = some .bi) && decide (g = ("isinstance" : Str)) && exnB T.F sc x && glB sc y && decide (T.F.G.lookup y = some (.cls c))) = true) :
    PE X (.Call (.Name g p1) [x, .Name y p2] [] p3) (tE T rs b B W (.xi c)) := by
  obtain ⟨h, h6⟩ := and2 h
  obtain ⟨h, h5⟩ := and2 h
  obtain ⟨h, h4⟩ := and2 h
  obtain ⟨h, h3⟩ := and2 h
  obtain ⟨h1, h2⟩ := and2 h
  have h3 := of_decide_eq_true h3
  subst h3
  obtain ⟨g1, g2, g3⟩ := gl_of G h1
  obtain ⟨k1, k2, k3⟩ := gl_of G h5
  obtain ⟨i, n, p, rfl, hh, px⟩ := pe_exn G h4
  obtain ⟨c', w, pl, a, C, d, oe, e1, e2, e3, e4, e5, e6⟩ := xat (rs := rs) G hh
  obtain ⟨C2, m1, m2, m3⟩ := A.cls y c (of_decide_eq_true h6)
  refine ⟨fun pins s σ H Q I q => ?_⟩
  obtain ⟨st, ρ, env, S, er, q⟩ := q
  obtain ⟨s1, fs, vw, vp, z1, z2, z3, z4, z5, z6⟩ := e6 H ρ env σ er
  have E := A.exc c' C z1 e2
  have q : Fin T.K (T.Z.rsv rs) (b :: B) (WX.at W σ) H ρ (match T.C.cur with
    | some (k, _, _) => if T.C.err c then .ok (.bl (T.C.isa k c)) st else .bad
    | none => .bad) Q := q
  rw [e1] at q
  cases hw : T.C.err c with
  | false => simp only [hw] at q; exact q.elim
  | true =>
    simp only [hw, if_true] at q
    have X2 := (A.exm c' c C C2 z1 m2 e2 hw).2
    rw [← G.hK] at E X2
    refine (pe_callB (call_hisi E.xc e3 e4 e5) g1 (by rw [G.hmg]; exact A.bi _ (of_decide_eq_true h2)) (by decide +kernel) (pa_cons px (pa_cons (pe_glob k1 (by rw [G.hmg]; exact m1) (show RelV (.ref C2) (.ref C2) from rfl) k3) pa_nil))).run pins s σ H Q I ?_
    exact ⟨_, s1, _, _, _, fs, rfl, fun u hu => hu, X2, z2, Fin.here S (.bl _) q⟩
theorem xv_pe (A : Fa T) (G : Gd T b B sc fn X W) {g y : Str} {x : Expr} {p1 p2 p3 : Pos} (h : (glB sc g && decide (T.F.G.lookup g = some .bi) && decide (g = ("isinstance" : Str)) && exnB T.F sc x && glB sc y && decide (T.F.G.lookup y = some .bi) && decide (y = ("ValueError" : Str))) = true) :
    PE X (.Call (.Name g p1) [x, .Name y p2] [] p3) (tE T rs b B W .xv) := by
  obtain ⟨h, h7⟩ := and2 h
  obtain ⟨h, h6⟩ := and2 h
  obtain ⟨h, h5⟩ := and2 h
  obtain ⟨h, h4⟩ := and2 h
  obtain ⟨h, h3⟩ := and2 h
  obtain ⟨h1, h2⟩ := and2 h
  have h3 := of_decide_eq_true h3
  have h7 := of_decide_eq_true h7
  subst h3 h7
  obtain ⟨g1, g2, g3⟩ := gl_of G h1
  obtain ⟨k1, k2, k3⟩ := gl_of G h5
  obtain ⟨i, n, p, rfl, hh, px⟩ := pe_exn G h4
  obtain ⟨c', w, pl, a, C, d, oe, e1, e2, e3, e4, e5, e6⟩ := xat (rs := rs) G hh
  refine ⟨fun pins s σ H Q I q => ?_⟩
  obtain ⟨st, ρ, env, S, er, q⟩ := q
  obtain ⟨s1, fs, vw, vp, z1, z2, z3, z4, z5, z6⟩ := e6 H ρ env σ er
  have E := A.exc c' C z1 e2
  have q : Fin T.K (T.Z.rsv rs) (b :: B) (WX.at W σ) H ρ (match T.C.cur with
    | some _ => .ok (.bl true) st
    | none => .bad) Q := q
  rw [e1] at q
  rw [← G.hK] at E
  refine (pe_callB (call_hisi E.xc e3 e4 e5) g1 (by rw [G.hmg]; exact A.bi _ (of_decide_eq_true h2)) (by decide +kernel) (pa_cons px (pa_cons (pe_bltn k1 (by rw [G.hmg]; exact A.bi _ (of_decide_eq_true h6)) (v := .ty "ValueError") PyProof.Rows.Boot.«ValueError» rfl k2 k3) pa_nil))).run pins s σ H Q I ?_
  exact ⟨_, s1, _, _, _, fs, rfl, fun u hu => hu, E.ve, z2, Fin.here S (.bl _) q⟩
theorem snd_xi (c : Nat) : Snd T (.xi c) where
  pe := fun rs b B W sc fn X e A G h => by
    cases e with
    | Call g xs ks p =>
      cases g with
      | Name x p' =>
        match xs, ks, h with
        | [x, .Name y p2], [], h => exact xi_pe c A G h
      | _ => cases h
    | _ => cases h
  pt := fun rs b B W sc fn X e A G h => by
    cases e with
    | Call g xs ks p =>
      cases g with
      | Name x p' =>
        match xs, ks, h with
        | [x, .Name y p2], [], h => exact pt_of (xi_pe c A G h) G rfl
      | _ => cases h
    | _ => cases h
  pa := fun rs b B W sc fn X es A G h => by cases es <;> cases h
  pi := fun rs b B W sc fn X tg e A G h => by cases e <;> cases h
theorem snd_xv : Snd T .xv where
  pe := fun rs b B W sc fn X e A G h => by
    cases e with
    | Call g xs ks p =>
      cases g with
      | Name x p' =>
        match xs, ks, h with
        | [x, .Name y p2], [], h => exact xv_pe A G h
      | _ => cases h
    | _ => cases h
  pt := fun rs b B W sc fn X e A G h => by
    cases e with
    | Call g xs ks p =>
      cases g with
      | Name x p' =>
        match xs, ks, h with
        | [x, .Name y p2], [], h => exact pt_of (xv_pe A G h) G rfl
      | _ => cases h
    | _ => cases h
  pa := fun rs b B W sc fn X es A G h => by cases es <;> cases h
  pi := fun rs b B W sc fn X tg e A G h => by cases e <;> cases h
end
end MP

set_option autoImplicit false
set_option linter.all false
set_option maxRecDepth 100000
/-! Mx3: raise, try. -/
namespace MP
open PySem PySem.Spec PyProof.Rows L2
theorem PSs.ex {ι : Type} {X : Cx} {s : List Stmt} {t : ι → TS} (h : ∀ i, PSs X s (t i)) : PSs X s fun De σ H => ∃ i, t i De σ H := ⟨fun pins s σ H De I ⟨i, q⟩ => (h i).run pins s σ H De I q⟩
theorem PSs.prem {p : Prop} {X : Cx} {s : List Stmt} {t : TS} (h : p → PSs X s t) : PSs X s fun De σ H => p ∧ t De σ H := ⟨fun pins s σ H De I ⟨e, q⟩ => (h e).run pins s σ H De I q⟩
/-- within a suite -/
def Ct.suite (T : Ct) (k : Nat) (w p : D) (a C d : Addr) (i : Option Nat) : Ct := { T with C := { T.C with cur := some (k, w, p) }, F := { T.F with hot := some i }, cx := some ((k, w, p), (a, C, d), i) }
section
variable {T : Ct} {rs : List Addr} {b : Nat} {B : List Nat} {W : WX} {sc : Scope} {fn : Str → Bool} {X : Cx}
theorem ss_rs (all : ∀ m : ME, Snd T m) (c : Nat) (es : ME) : SndS T (.rs c es) where
  ps := fun rs b B W sc fn X s A G h => by
    have key : ∀ (x : Str) (p p2 pos : Pos) (xs : List Expr), fitS T.F sc fn (.rs c es) (.Raise (some (.Call (.Name x p) xs [] p2)) none pos) = true → PS X (.Raise (some (.Call (.Name x p) xs [] p2)) none pos) (tS T rs b B W (.rs c es)) := fun x p p2 pos xs h => by
      obtain ⟨h, hh⟩ := and2 (show (glB sc x && decide (T.F.G.lookup x = some (.cls c)) && rsB T.F sc fn es xs && T.F.hot.isNone) = true from h)
      obtain ⟨h, h3⟩ := and2 h
      obtain ⟨h1, h2⟩ := and2 h
      obtain ⟨g1, g2, g3⟩ := gl_of G.toGd h1
      obtain ⟨C, m1, m2, m3⟩ := A.cls x c (of_decide_eq_true h2)
      have open_ : ∀ (De : Ends) (σ : L2.St) (H : Hp), tS T rs b B W (.rs c es) De σ H → ∃ st ρ env, Sim T.K (T.Z.rsv rs) (b :: B) st H ρ ∧ EnvR T.K (T.Z.rsv rs) T.cx H ρ env σ ∧ FinS T rs (b :: B) W H ρ (match T.C.word c with
          | some w => (den T.C b es env st).fl env (raiseD c w env)
          | none => .bad) De := fun De σ H q => q
      cases hw : T.C.word c with
      | none =>
        refine PS.imp ps_never fun De σ H q => ?_
        obtain ⟨st, ρ, env, S, er, q⟩ := open_ De σ H q
        rw [hw] at q
        exact q
      | some w =>
        have M := (A.mkx c C w m2 hw).2 X x p p2 G.hP G.hw G.hK G.hmg G.hb ((G.room (Option.isNone_iff_eq_none.mp hh)).mono (by omega)) g1 g3 (by rw [G.hmg]; exact m1)
        have ok := (A.mkx c C w m2 hw).1
        have fin : ∀ (De : Ends) (σ : L2.St) (env : MP.Env) (H1 : Hp) (ρ1 : Rho) (st1 : Store) (pd : D) (pv : V), Sim T.K (T.Z.rsv rs) (b :: B) st1 H1 ρ1 → EnvR T.K (T.Z.rsv rs) T.cx H1 ρ1 env σ → RD T.K (T.Z.rsv rs) H1 ρ1 pd pv → FinS T rs (b :: B) W H1 ρ1 (.exc (.exc c (.str w) pd) env st1) De →
            ∀ (d : Addr) (fs : List (Str × V)), H1 d = none → fs.lookup ("word" : Str) = some (.str ⟨w.toArray⟩) → fs.lookup ("place" : Str) = some pv → W (.ref C) (some d) σ (upd H1 d (.xd fs)) := fun De σ env H1 ρ1 st1 pd pv S1 er rp q d fs hd e1 e2 =>
          q (.ref C) (some d) _ ρ1 σ (Ext.laid hd) (S1.laid hd) (er.ext (Ext.laid hd)) (.mk m2 upd_same (S1.nm hd) e1 e2 (.str w ok) (rp.ext (Ext.laid hd)))
        rcases rsB_cases h3 with ⟨rfl, rfl⟩ | ⟨a, e, rfl, rfl, h4, h5⟩
        · refine PS.imp (ps_raise (G.calm hh) G.tk M.1) fun De σ H q => ?_
          obtain ⟨st, ρ, env, S, er, q⟩ := open_ De σ H q
          rw [hw] at q
          exact fin De σ env H ρ st .non .non S er .non q
        · refine PS.imp (ps_raise (G.calm hh) G.tk (M.2 e _ h4 ((all a).pe rs b B W sc fn X e A G.toGd h5))) fun De σ H q => ?_
          obtain ⟨st, ρ, env, S, er, q⟩ := open_ De σ H q
          rw [hw] at q
          have q2 : FinG T.K (T.Z.rsv rs) (b :: B) (WX.at W σ) H ρ ((den T.C b a env st).then fun x st1 => (Res.ok (D.tup []) st1).then fun xs st2 => (match xs with
            | .tup ys => .ok (.tup (x :: ys)) st2
            | _ => .bad)) fun x st1 H1 ρ1 => FinS T rs (b :: B) W H1 ρ1 (raiseD c w env x st1) De := FinS.fl er q
          refine ⟨st, ρ, env, S, er, FinG.fin ((FinG.bind q2).imp fun x1 st1 H1 ρ1 x1' S1 q v r => ?_)⟩
          have q : FinG T.K (T.Z.rsv rs) (b :: B) (WX.at W σ) H1 ρ1 (.ok (D.tup [x1]) st1) fun x st1 H1 ρ1 => FinS T rs (b :: B) W H1 ρ1 (raiseD c w env x st1) De := q
          exact fin De σ env H1 ρ1 st1 x1 v S1 (er.ext x1') r (FinG.ok S1 q)
    cases s with
    | Raise e c' pos =>
      cases e with
      | none => cases h
      | some e =>
        cases e with
        | Call g xs ks p2 =>
          cases g with
          | Name x p =>
            cases ks with
            | cons _ _ => cases h
            | nil =>
              cases c' with
              | none => exact key x p p2 pos xs h
              | some _ => cases h
          | _ => cases h
        | _ => cases h
    | _ => cases h
  pb := fun rs b B W sc fn X s A G h => by cases s <;> cases h
/-- a suite's names and what it handles -/
theorem Gs.tr (G : Gs T b B sc fn X W) (hh : T.F.hot = none) (pn : List (Addr × Obj)) (xe : Value → Shared → Prop) (W' : WX) (tk : L2.Takes (X.tr pn xe) W') (po : PassesOwn (model X.prog X.w) X.A X.env xe) : Gs T b B sc fn (X.tr pn xe) W' where
  hN := G.hN
  nd := G.nd
  hP := G.hP
  hw := G.hw
  hK := G.hK
  hmg := G.hmg
  hb := G.hb
  sc := G.sc
  cold := G.cold
  hots := fun i e => by rw [hh] at e; cases e
  gd := G.gd
  room := G.room
  hu := G.hu
  tk := tk
  fn := G.fn
  top := G.top
  po := po
  stk := G.stk
  frm := G.frm
theorem Fa.suite (A : Fa T) (k : Nat) (w p : D) (a C d : Addr) (i : Option Nat) : Fa (T.suite k w p a C d i) := ⟨A.bi, A.fnv, A.dat, A.run, A.cls, A.exc, A.exm, A.mkx, A.mkv, A.mkb⟩
theorem Gs.suite (G : Gs T b B sc fn X W) (k : Nat) (w p : D) (a C d : Addr) (i : Option Nat) (oe : Obj) (pn : List (Addr × Obj)) (hk : T.C.err k = true) (hz : Zc (.ref C) (some d) oe) (hf : ∃ vs, oe.data = .fields vs) :
    Gs (T.suite k w p a C d i) b B sc fn (X.suite a ((a, oe) :: pn)) noW where
  hN := G.hN
  nd := G.nd
  hP := G.hP
  hw := G.hw
  hK := G.hK
  hmg := G.hmg
  hb := G.hb
  sc := G.sc
  cold := fun e => nomatch e
  hots := fun j e => by
    cases e
    exact ⟨k, w, p, a, C, d, oe, rfl, rfl, hk, List.mem_cons_self, hz, hf⟩
  gd := G.gd
  room := fun e => nomatch e
  hu := G.hu
  tk := fun u s' ⟨_, _, _, _, _, _, _, _, _, _, _, _, _, _, _, _, h⟩ => h.elim
  fn := G.fn
  top := G.top
  po := PassesOwn.never
  stk := G.stk
  frm := G.frm
/-- a suite's reading -/
def tSu (T : Ct) (rs : List Addr) (b : Nat) (B : List Nat) (i : Option Nat) (h : MS) (a : Addr) (cls : Value) (d : Option Addr) : TS := fun De σ H => ∃ (k : Nat) (w p : D) (C dd : Addr), (cls = .ref C ∧ d = some dd ∧ T.C.err k = true) ∧ tS (T.suite k w p a C dd i) rs b B noW h De σ H
theorem su_ok {h : MS} {i : Option Nat} (hs : ∀ T' : Ct, SndS T' h) (A : Fa T) (G : Gs T b B sc fn X W) {suite : List Stmt} (fit : fitB { T.F with hot := some i } sc fn h suite = true) (a : Addr) (oe : Obj) (cls : Value) (d : Option Addr) (pn : List (Addr × Obj)) (hz : Zc cls d oe) (hf : ∃ vs, oe.data = .fields vs) :
    PSs (X.suite a ((a, oe) :: pn)) suite (tSu T rs b B i h a cls d) := by
  refine PSs.ex fun k => PSs.ex fun w => PSs.ex fun p => PSs.ex fun C => PSs.ex fun dd => PSs.prem fun ⟨e1, e2, hk⟩ => ?_
  subst e1 e2
  exact (hs (T.suite k w p a C dd i)).pb rs b B noW sc fn _ suite (A.suite k w p a C dd i) (G.suite k w p a C dd i oe pn hk hz hf) fit
/-- the names within a suite -/
theorem EnvR.hot {K : PySem.W.Frag} {Z : Ad} {H : Hp} {ρ : Rho} {env : Env} {σ : L2.St} {k i : Nat} {w p : D} {a C d : Addr} {fs : List (Str × V)} {vw vp : V} (h : EnvR K Z none H ρ env σ) (hi : i < env.length) (hc : Z.cls k = some C) (hd : H d = some (.xd fs)) (hm : Nm Z ρ d)
    (e1 : fs.lookup ("word" : Str) = some vw) (e2 : fs.lookup ("place" : Str) = some vp) (r1 : RD K Z H ρ w vw) (r2 : RD K Z H ρ p vp) : EnvR K Z (some ((k, w, p), (a, C, d), some i)) H ρ (env.set i none) (σ.set i (some (.ref a))) where
  len := by simp [h.len]
  val := (h.unset i (some (.ref a)) rfl).val
  cur := fun c' w' p' a' C' d' i' e => by cases e; exact ⟨fs, vw, vp, hc, hd, hm, e1, e2, r1, r2⟩
  exn := fun c' w' p' a' C' d' i' e => by
    cases e
    rw [List.getElem?_set_self (by rw [← h.len]; exact hi)]
theorem EnvR.hot0 {K : PySem.W.Frag} {Z : Ad} {H : Hp} {ρ : Rho} {env : Env} {σ : L2.St} {k : Nat} {w p : D} {a C d : Addr} {fs : List (Str × V)} {vw vp : V} (h : EnvR K Z none H ρ env σ) (hc : Z.cls k = some C) (hd : H d = some (.xd fs)) (hm : Nm Z ρ d)
    (e1 : fs.lookup ("word" : Str) = some vw) (e2 : fs.lookup ("place" : Str) = some vp) (r1 : RD K Z H ρ w vw) (r2 : RD K Z H ρ p vp) : EnvR K Z (some ((k, w, p), (a, C, d), none)) H ρ env σ where
  len := h.len
  val := h.val
  cur := fun c' w' p' a' C' d' i' e => by cases e; exact ⟨fs, vw, vp, hc, hd, hm, e1, e2, r1, r2⟩
  exn := fun c' w' p' a' C' d' i' e => by cases e
theorem gone_fin {k i : Nat} {w p : D} {a C d : Addr} {H : Hp} {ρ : Rho} {r : Fl} {De : Ends} (hcx : T.cx = none) (h : FinS T rs B W H ρ (r.gone i) De) :
    FinS (T.suite k w p a C d (some i)) rs B noW H ρ r { nx := fun σ' H' => De.nx (σ'.set i none) H', rt := De.rt, bk := fun σ' H' => De.bk (σ'.set i none) H', ct := fun σ' H' => De.ct (σ'.set i none) H' } := by
  cases r with
  | nx env st => exact fun H1 ρ1 σ x S e => h H1 ρ1 (σ.set i none) x S (by rw [hcx]; exact e.cold.unset i none rfl)
  | rt d st => exact h
  | bk env st => exact fun H1 ρ1 σ x S e => h H1 ρ1 (σ.set i none) x S (by rw [hcx]; exact e.cold.unset i none rfl)
  | exc x env st => exact h.elim
  | bad => exact h
theorem calm_fin {k : Nat} {w p : D} {a C d : Addr} {H : Hp} {ρ : Rho} {r : Fl} {De : Ends} (hcx : T.cx = none) (h : FinS T rs B W H ρ r.calm De) : FinS (T.suite k w p a C d none) rs B noW H ρ r De := by
  cases r with
  | nx env st => exact fun H1 ρ1 σ x S e => h H1 ρ1 σ x S (by rw [hcx]; exact e.cold)
  | rt d st => exact h
  | bk env st => exact fun H1 ρ1 σ x S e => h H1 ρ1 σ x S (by rw [hcx]; exact e.cold)
  | exc x env st => exact h.elim
  | bad => exact h
theorem ss_tr {s h : MS} (c i : Nat) (ihs : SndS T s) (ihh : ∀ T' : Ct, SndS T' h) : SndS T (.tr s c i h) where
  ps := fun rs b B W sc fn X st A G fit => by
    have key : ∀ (x n : Str) (np pos pos' : Pos) (body suite : List Stmt) (b0 : Stmt), fitS T.F sc fn (.tr s c i h) (.Try body [.ExceptHandler (some (.Name x np)) (some n) (b0 :: suite) pos'] [] [] pos) = true →
        PS X (.Try body [.ExceptHandler (some (.Name x np)) (some n) (b0 :: suite) pos'] [] [] pos) (tS T rs b B W (.tr s c i h)) := fun x n np pos pos' body suite b0 fit => by
      obtain ⟨fit, hh⟩ := and2 (show (fitB T.F sc fn s body && glB sc x && decide (T.F.G.lookup x = some (.cls c)) && decide (T.F.N[i]? = some n) && decide (sc.names.lookup n = some .local) && fitB { T.F with hot := some (some i) } sc fn h (b0 :: suite) && T.F.hot.isNone) = true from fit)
      obtain ⟨fit, h6⟩ := and2 fit
      obtain ⟨fit, h5⟩ := and2 fit
      obtain ⟨fit, h4⟩ := and2 fit
      obtain ⟨fit, h3⟩ := and2 fit
      obtain ⟨h1, h2⟩ := and2 fit
      obtain ⟨g1, g2, g3⟩ := gl_of G.toGd h2
      obtain ⟨Ct, m1, m2, m3⟩ := A.cls x c (of_decide_eq_true h3)
      have hhn : T.F.hot = none := Option.isNone_iff_eq_none.mp hh
      have hcx := (G.cold hhn).1
      have hl : X.env.kindOf n = some .local := by
        show X.env.scope.names.lookup n = some .local
        rw [G.sc]; exact of_decide_eq_true h5
      refine PS.imp (ps_try_as (tb := fun W' => tS T rs b B W' s) (ts := tSu T rs b B (some i) h) G.stk G.frm G.nd (slot_of G.toGd h4) hl ⟨g1, g3, .inl (show X.mg x = some (.ref Ct) by rw [G.hmg]; exact m1)⟩ G.tk
        (fun W' pn xe tk po => ihs.pb rs b B W' sc fn (X.tr pn xe) body A (G.tr hhn pn xe W' tk po) h1)
        (fun a oe cls d pn hz hf => su_ok ihh A G h6 a oe cls d pn hz hf)) fun De σ H q => ?_
      obtain ⟨st, ρ, env, S, er, q⟩ := q
      refine ⟨st, ρ, env, S, er, ?_⟩
      have q : FinS T rs (b :: B) W H ρ (match exec T.C b s env st with
        | .exc (.exc k w p) env1 st1 => if T.C.err k && T.C.err c then (if T.C.isa k c then (if i < env1.length then (exec { T.C with cur := some (k, w, p) } b h (env1.set i none) st1).gone i else .bad) else .exc (.exc k w p) env1 st1) else .bad
        | .exc _ _ _ => .bad
        | r => r) De := q
      cases hx : exec T.C b s env st with
      | nx env1 st1 => rw [hx] at q; exact q
      | rt d st1 => rw [hx] at q; exact q
      | bk env1 st1 => rw [hx] at q; exact q
      | bad => rw [hx] at q; exact q.elim
      | exc x1 env1 st1 =>
        rw [hx] at q
        intro cv dx H1 ρ1 σ1 x1' S1 er1 rx
        cases rx with
        | mk hc hd hm e1 e2 r1 r2 =>
          rename_i k w p C d fs vw vp
          have q : FinS T rs (b :: B) W H ρ (if (T.C.err k && T.C.err c) = true then (if T.C.isa k c then (if i < env1.length then (exec { T.C with cur := some (k, w, p) } b h (env1.set i none) st1).gone i else .bad) else .exc (.exc k w p) env1 st1) else .bad) De := q
          split at q
          · rename_i hw
            obtain ⟨w1, w2⟩ := and2 hw
            have hex := (A.exm k c C Ct hc m2 w1 w2).1
            rw [← G.hK] at hex
            refine ⟨_, hex, fun hy a na => ?_, fun hn => ?_⟩
            · rw [if_pos hy] at q
              split at q
              · rename_i hi
                rw [hcx] at er1
                exact ⟨k, w, p, C, d, ⟨rfl, rfl, w1⟩, st1, ρ1, env1.set i none, S1, er1.hot hi hc hd hm e1 e2 r1 r2, gone_fin hcx (FinS.ext x1' q)⟩
              · exact q.elim
            · rw [if_neg (by rw [hn]; decide)] at q
              exact q _ _ H1 ρ1 σ1 x1' S1 er1 (.mk hc hd hm e1 e2 r1 r2)
          · exact q.elim
    cases st with
    | Try body hs orelse fin pos =>
      cases hs with
      | nil => cases fit
      | cons h0 hs =>
        cases h0 with
        | ExceptHandler ty nm suite pos' =>
          cases ty with
          | none => cases fit
          | some ty =>
            cases ty with
            | Name x np =>
              cases nm with
              | none => cases fit
              | some n =>
                cases suite with
                | nil => cases fit
                | cons b0 suite =>
                  cases hs with
                  | cons _ _ => cases fit
                  | nil =>
                    cases orelse with
                    | cons _ _ => cases fit
                    | nil =>
                      cases fin with
                      | cons _ _ => cases fit
                      | nil => exact key x n np pos pos' body suite b0 fit
            | _ => cases fit
    | _ => cases fit
  pb := fun rs b B W sc fn X s A G h => by cases s <;> cases h
theorem ss_tro {s h : MS} (c : Nat) (ihs : SndS T s) (ihh : ∀ T' : Ct, SndS T' h) : SndS T (.tro s c h) where
  ps := fun rs b B W sc fn X st A G fit => by
    have key : ∀ (x : Str) (np pos pos' : Pos) (body suite : List Stmt) (b0 : Stmt), fitS T.F sc fn (.tro s c h) (.Try body [.ExceptHandler (some (.Name x np)) none (b0 :: suite) pos'] [] [] pos) = true →
        PS X (.Try body [.ExceptHandler (some (.Name x np)) none (b0 :: suite) pos'] [] [] pos) (tS T rs b B W (.tro s c h)) := fun x np pos pos' body suite b0 fit => by
      obtain ⟨fit, hh⟩ := and2 (show (fitB T.F sc fn s body && glB sc x && decide (T.F.G.lookup x = some (.cls c)) && fitB { T.F with hot := some none } sc fn h (b0 :: suite) && T.F.hot.isNone) = true from fit)
      obtain ⟨fit, h6⟩ := and2 fit
      obtain ⟨fit, h3⟩ := and2 fit
      obtain ⟨h1, h2⟩ := and2 fit
      obtain ⟨g1, g2, g3⟩ := gl_of G.toGd h2
      obtain ⟨Ct, m1, m2, m3⟩ := A.cls x c (of_decide_eq_true h3)
      have hhn : T.F.hot = none := Option.isNone_iff_eq_none.mp hh
      have hcx := (G.cold hhn).1
      refine PS.imp (ps_try_only (tb := fun W' => tS T rs b B W' s) (ts := tSu T rs b B none h) G.stk G.frm ⟨g1, g3, .inl (show X.mg x = some (.ref Ct) by rw [G.hmg]; exact m1)⟩ G.tk
        (fun W' pn xe tk po => ihs.pb rs b B W' sc fn (X.tr pn xe) body A (G.tr hhn pn xe W' tk po) h1)
        (fun a oe cls d pn hz hf => su_ok ihh A G h6 a oe cls d pn hz hf)) fun De σ H q => ?_
      obtain ⟨st, ρ, env, S, er, q⟩ := q
      refine ⟨st, ρ, env, S, er, ?_⟩
      have q : FinS T rs (b :: B) W H ρ (match exec T.C b s env st with
        | .exc (.exc k w p) env1 st1 => if T.C.err k && T.C.err c then (if T.C.isa k c then (exec { T.C with cur := some (k, w, p) } b h env1 st1).calm else .exc (.exc k w p) env1 st1) else .bad
        | .exc _ _ _ => .bad
        | r => r) De := q
      cases hx : exec T.C b s env st with
      | nx env1 st1 => rw [hx] at q; exact q
      | rt d st1 => rw [hx] at q; exact q
      | bk env1 st1 => rw [hx] at q; exact q
      | bad => rw [hx] at q; exact q.elim
      | exc x1 env1 st1 =>
        rw [hx] at q
        intro cv dx H1 ρ1 σ1 x1' S1 er1 rx
        cases rx with
        | mk hc hd hm e1 e2 r1 r2 =>
          rename_i k w p C d fs vw vp
          have q : FinS T rs (b :: B) W H ρ (if (T.C.err k && T.C.err c) = true then (if T.C.isa k c then (exec { T.C with cur := some (k, w, p) } b h env1 st1).calm else .exc (.exc k w p) env1 st1) else .bad) De := q
          split at q
          · rename_i hw
            obtain ⟨w1, w2⟩ := and2 hw
            have hex := (A.exm k c C Ct hc m2 w1 w2).1
            rw [← G.hK] at hex
            refine ⟨_, hex, fun hy a na => ?_, fun hn => ?_⟩
            · rw [if_pos hy] at q
              rw [hcx] at er1
              exact ⟨k, w, p, C, d, ⟨rfl, rfl, w1⟩, st1, ρ1, env1, S1, er1.hot0 hc hd hm e1 e2 r1 r2, calm_fin hcx (FinS.ext x1' q)⟩
            · rw [if_neg (by rw [hn]; decide)] at q
              exact q _ _ H1 ρ1 σ1 x1' S1 er1 (.mk hc hd hm e1 e2 r1 r2)
          · exact q.elim
    cases st with
    | Try body hs orelse fin pos =>
      cases hs with
      | nil => cases fit
      | cons h0 hs =>
        cases h0 with
        | ExceptHandler ty nm suite pos' =>
          cases ty with
          | none => cases fit
          | some ty =>
            cases ty with
            | Name x np =>
              cases nm with
              | some _ => cases fit
              | none =>
                cases suite with
                | nil => cases fit
                | cons b0 suite =>
                  cases hs with
                  | cons _ _ => cases fit
                  | nil =>
                    cases orelse with
                    | cons _ _ => cases fit
                    | nil =>
                      cases fin with
                      | cons _ _ => cases fit
                      | nil => exact key x np pos pos' body suite b0 fit
            | _ => cases fit
    | _ => cases fit
  pb := fun rs b B W sc fn X s A G h => by cases s <;> cases h
theorem sndS (all : ∀ (T : Ct) (m : ME), Snd T m) : ∀ (m : MS) (T : Ct), SndS T m := by
  intro m
  induction m with
  | skip => exact fun T => ss_skip
  | nev => exact fun T => ss_nev
  | seq a r iha ihr => exact fun T => ss_seq (iha T) (ihr T)
  | asg t e => exact fun T => ss_asg (all T) t e
  | sasg o i e => exact fun T => ss_sasg (all T) o i e
  | aug i o e => exact fun T => ss_aug (all T) i o e
  | ex e => exact fun T => ss_ex (all T) e
  | ite c a r iha ihr => exact fun T => ss_ite (all T) c (iha T) (ihr T)
  | wh c r ihr => exact fun T => ss_wh (all T) c (ihr T)
  | fr t it r ihr => exact fun T => ss_fr (all T) t it (ihr T)
  | ret e => exact fun T => ss_ret (all T) e
  | brk => exact fun T => ss_brk
  | rs c es => exact fun T => ss_rs (all T) c es
  | tr s c i h ihs ihh => exact fun T => ss_tr c i (ihs T) ihh
  | tro s c h ihs ihh => exact fun T => ss_tro c (ihs T) ihh
  | _ => exact fun T => ⟨fun rs b B W sc fn X s A G h => (by cases s <;> cases h), fun rs b B W sc fn X s A G h => (by cases s <;> cases h)⟩
end
end MP

set_option autoImplicit false
set_option linter.all false
set_option maxRecDepth 100000
/-! My1: errors that are kept: made, asked for their class, word and place. -/
namespace MP
open PySem PySem.Spec PyProof.Rows L2
section
variable {T : Ct} {rs : List Addr} {b : Nat} {B : List Nat} {W : WX} {sc : Scope} {fn : Str → Bool} {X : Cx}
/-- an attribute of an error that is kept -/
theorem pe_xfld {n : Str} {e : Expr} {te : TE} {pos : Pos} (he : PE X e te) (hb : attributeBase e n X.env (eval e X.env) = eval e X.env) : PE X (.Attribute e n pos) fun σ H Q => te σ H fun x H1 => ∃ (a C d : Addr) (fs : List (Str × V)) (v : V), x = .ref a ∧ XfC X.K C ∧ PySem.W.findIn X.K (.ref C) n = some none ∧ H1 a = some (exo a C (some d)) ∧ H1 d = some (exd d fs) ∧ fs.lookup n = some v ∧ Q v H1 := by
  refine ⟨fun pins s σ H Q I h => ?_⟩
  refine attr_of hb (thn (he.run pins s σ H _ I h) fun u s1 hh => ?_)
  obtain ⟨x, H1, I1, rx, a, C, d, fs, v, ex, T, hno, ea, ed, l, q⟩ := hh
  subst ex
  obtain rfl : u = Value.ref a := rx
  obtain ⟨t1, ha⟩ := exo_at I1.hok ea
  obtain ⟨mA, hns, hr⟩ := exd_at I1.hok ed
  obtain ⟨od, ho, hl⟩ := lookIn_ns hns
  obtain ⟨u, hu, ru⟩ := RelO.some_of (v := v) (o := mA n) (by rw [← l]; exact hr n)
  have J : PySem.W.InstAt s1.heap a { cls := .ref C, dict := some d, data := .fields #[.ref t1, .none, .none, .none, .bool false, .none] } C (some od) := ⟨ha, rfl, rfl, ho⟩
  exact HandSPX.exc_get I1.kIn J T.ga T.gg T.exC (PySem.W.findObj_own T.hdC hno rfl (by rw [hl, hu])) (handed_of ru) ⟨v, H1, I1.tok _, ru, q⟩
/-- isinstance of an error that is kept -/
theorem call_xisi : CallR X (.builtin "isinstance") fun xs H Q => ∃ (a C d : Addr) (c : V) (cv : Value) (k : Bool) (fs : List (Str × V)), xs = [.ref a, c] ∧ ExcC X.K C ∧ (∀ u, RelV c u → u = cv) ∧ PySem.W.kitOne X.K (.ref C) cv = some k ∧ H a = some (exo a C (some d)) ∧ H d = some (exd d fs) ∧ Q (.bl k) H := by
  intro pins s σ H xs us Q I r h
  obtain ⟨a, C, d, c, cv, k, fs, rfl, E, hcv, e, ea, ed, q⟩ := h
  obtain ⟨v1, v2, rfl, r1, r2⟩ : ∃ v1 v2, us = [v1, v2] ∧ RelV (.ref a) v1 ∧ RelV c v2 := by
    cases r with
    | cons r1 r =>
      cases r with
      | cons r2 r => cases r; exact ⟨_, _, rfl, r1, r2⟩
  obtain rfl : v1 = Value.ref a := r1
  have e2 := hcv _ r2
  subst e2
  obtain ⟨t1, ha⟩ := exo_at I.hok ea
  obtain ⟨mA, hns, hr⟩ := exd_at I.hok ed
  obtain ⟨od, ho, _⟩ := lookIn_ns hns
  have J : PySem.W.InstAt s.heap a { cls := .ref C, dict := some d, data := .fields #[.ref t1, .none, .none, .none, .bool false, .none] } C (some od) := ⟨ha, rfl, rfl, ho⟩
  exact PySem.W.kia_one (x_kit E) I.kIn J e (fun z => nomatch z) fun tk => ⟨.bl k, H, I.kept (t' := tk) fun _ _ z => z, rfl, q⟩
/-- an error as it lies -/
theorem exc_rd {K : PySem.W.Frag} {Z : Ad} {H : Hp} {ρ : Rho} {c : Nat} {w p : D} {v : V} (r : RD K Z H ρ (.exc c w p) v) : ∃ (a C d : Addr) (fs : List (Str × V)) (vw vp : V), v = .ref a ∧ Z.cls c = some C ∧ H a = some (exo a C (some d)) ∧ H d = some (exd d fs) ∧ fs.lookup ("word" : Str) = some vw ∧ fs.lookup ("place" : Str) = some vp ∧ RD K Z H ρ w vw ∧ RD K Z H ρ p vp := by
  cases r with
  | exc hc h hm h2 hm2 e1 e2 rw rp => exact ⟨_, _, _, _, _, _, rfl, hc, h, h2, e1, e2, rw, rp⟩
theorem mkC_ok (A : Fa T) (G : Gd T b B sc fn X W) {x : Str} {c : Nat} (h : mkC T.F sc x c = true) : ∃ C, T.Z.cls c = some C ∧ T.mg x = some (.ref C) ∧ Gl X x ∧ (x == ("__debug__" : Str)) = false ∧ Room 3 X.A := by
  obtain ⟨h, hh⟩ := and2 (show (glB sc x && decide (T.F.G.lookup x = some (.cls c)) && T.F.hot.isNone) = true from h)
  obtain ⟨h1, h2⟩ := and2 h
  obtain ⟨g1, g2, g3⟩ := gl_of G h1
  obtain ⟨C, m1, m2, m3⟩ := A.cls x c (of_decide_eq_true h2)
  exact ⟨C, m2, m1, g1, g3, (G.room (Option.isNone_iff_eq_none.mp hh)).mono (by omega)⟩
/-- what is made of an own class -/
theorem mkv_at (A : Fa T) (G : Gd T b B sc fn X W) {x : Str} {c : Nat} {w : List Nat} (h : mkC T.F sc x c = true) (hw : T.C.word c = some w) (p pos : Pos) : ∃ C, T.Z.cls c = some C ∧ okS w ∧ PE X (.Call (.Name x p) [] [] pos) (tMkV C (gOwn w) tNil) ∧ (∀ (e : Expr) (es : List Expr) (t : TA), noStar (e :: es) = true → PA X (e :: es) t → PE X (.Call (.Name x p) (e :: es) [] pos) (tMkV C (gOwn w) t)) ∧
    ∀ (kws : List Keyword) (t : TA), kws.map (·.arg) = (["place"] : List Str).map some → PK X kws t → PE X (.Call (.Name x p) [] kws pos) (tMkV C (gLen 1 (gOwn w)) t) := by
  obtain ⟨C, m2, m1, g1, g3, room⟩ := mkC_ok A G h
  obtain ⟨h1, h2, h3⟩ := A.mkv c C w m2 hw X x p pos G.hP G.hw G.hK G.hmg G.hb room g1 g3 (by rw [G.hmg]; exact m1)
  exact ⟨C, m2, (A.mkx c C w m2 hw).1, h1, h2, h3⟩
theorem mkb_at (A : Fa T) (G : Gd T b B sc fn X W) {x : Str} {c : Nat} (h : mkC T.F sc x c = true) (hw : T.C.bare c = true) (p pos : Pos) : ∃ C, T.Z.cls c = some C ∧ PE X (.Call (.Name x p) [] [] pos) (tMkV C gBase tNil) ∧ (∀ (e : Expr) (es : List Expr) (t : TA), noStar (e :: es) = true → PA X (e :: es) t → PE X (.Call (.Name x p) (e :: es) [] pos) (tMkV C gBase t)) ∧
    ∀ (kws : List Keyword) (t : TA), kws.map (·.arg) = (["word", "place"] : List Str).map some → PK X kws t → PE X (.Call (.Name x p) [] kws pos) (tMkV C (gLen 2 gBase) t) := by
  obtain ⟨C, m2, m1, g1, g3, room⟩ := mkC_ok A G h
  obtain ⟨h1, h2, h3⟩ := A.mkb c C m2 hw X x p pos G.hP G.hw G.hK G.hmg G.hb room g1 g3 (by rw [G.hmg]; exact m1)
  exact ⟨C, m2, h1, h2, h3⟩
theorem pe_never {e : Expr} : PE X e fun _ _ _ => False := ⟨fun _ _ _ _ _ _ h => h.elim⟩
theorem open_tE {m : ME} {σ : L2.St} {H : Hp} {Q : VK} (q : tE T rs b B W m σ H Q) : ∃ st ρ env, Sim T.K (T.Z.rsv rs) (b :: B) st H ρ ∧ EnvR T.K (T.Z.rsv rs) T.cx H ρ env σ ∧ Fin T.K (T.Z.rsv rs) (b :: B) (WX.at W σ) H ρ (den T.C b m env st) Q := q
/-- an error without arguments -/
theorem snd_mx0 (c : Nat) : Snd T (.mx0 c) := snd_none (fun sc fn e => by cases e <;> rfl) (fun sc fn e => by cases e <;> rfl) (fun sc fn t e => by cases e <;> rfl) fun rs b B W sc fn X e A G h => by
  have key : ∀ (x : Str) (p pos : Pos), mkC T.F sc x c = true → PE X (.Call (.Name x p) [] [] pos) (tE T rs b B W (.mx0 c)) := fun x p pos h => by
    have den_ : ∀ (env : MP.Env) (st : Store), den T.C b (.mx0 c) env st = (match T.C.word c with
      | some w => .ok (.exc c (.str w) .non) st
      | none => .bad) := fun _ _ => rfl
    cases hw : T.C.word c with
    | none =>
      refine PE.imp pe_never fun σ H Q q => ?_
      obtain ⟨st, ρ, env, S, er, q⟩ := open_tE q
      rw [den_, hw] at q
      exact q
    | some w =>
      obtain ⟨C, m2, ok, M, _⟩ := mkv_at A G h hw p pos
      refine PE.imp M fun σ H Q q => ?_
      obtain ⟨st, ρ, env, S, er, q⟩ := open_tE q
      rw [den_, hw] at q
      exact ⟨_, _, rfl, fun a d fs ha hd hne e1 e2 => Fin.newE S ha hd hne m2 e1 e2 (.str w ok) .non q⟩
  cases e with
  | Call g xs ks p =>
    cases g with
    | Name x p' =>
      cases xs with
      | nil =>
        cases ks with
        | nil => exact key x p' p h
        | cons => cases h
      | cons => cases ks <;> cases h
    | _ => cases h
  | _ => cases h
theorem snd_mx1 {a : ME} (c : Nat) (ha : Snd T a) : Snd T (.mx1 c a) := snd_none (fun sc fn e => by cases e <;> rfl) (fun sc fn e => by cases e <;> rfl) (fun sc fn t e => by cases e <;> rfl) fun rs b B W sc fn X e A G h => by
  have den_ : ∀ (env : MP.Env) (st : Store), den T.C b (.mx1 c a) env st = (match T.C.word c with
    | some w => (den T.C b a env st).then fun p st1 => .ok (.exc c (.str w) p) st1
    | none => .bad) := fun _ _ => rfl
  have step : ∀ (w : List Nat) (C : Addr) (g : List V → Option (V × V)), (∀ v, g [v] = some (.str ⟨w.toArray⟩, v)) → T.C.word c = some w → T.Z.cls c = some C → okS w → ∀ (σ : L2.St) (H : Hp) (Q : VK), tE T rs b B W (.mx1 c a) σ H Q → tMkV C g (tCons (tE T rs b B W a) tNil) σ H Q := fun w C g hg hw m2 ok σ H Q q => by
    obtain ⟨st, ρ, env, S, er, q⟩ := open_tE q
    rw [den_, hw] at q
    exact ⟨st, ρ, env, S, er, FinG.fin ((FinG.bind (Fin.g q)).imp fun p st1 H1 ρ1 x1 S1 q v r => ⟨_, _, hg v, fun a' d fs h1 h2 h3 h4 h5 => Fin.newE S1 h1 h2 h3 m2 h4 h5 (.str w ok) r (FinG.fin q)⟩)⟩
  have none_ : ∀ (e : Expr), T.C.word c = none → PE X e (tE T rs b B W (.mx1 c a)) := fun e hw => by
    refine PE.imp pe_never fun σ H Q q => ?_
    obtain ⟨st, ρ, env, S, er, q⟩ := open_tE q
    rw [den_, hw] at q
    exact q
  have key1 : ∀ (x : Str) (p pos : Pos) (e : Expr), (mkC T.F sc x c && !isStar e && fitE T.F a sc fn e) = true → PE X (.Call (.Name x p) [e] [] pos) (tE T rs b B W (.mx1 c a)) := fun x p pos e h => by
    obtain ⟨h, h3⟩ := and2 h
    obtain ⟨h1, h2⟩ := and2 h
    cases hw : T.C.word c with
    | none => exact none_ _ hw
    | some w =>
      obtain ⟨C, m2, ok, _, M, _⟩ := mkv_at A G h1 hw p pos
      refine PE.imp (M e [] _ (by show (!isStar e && true) = true; rw [h2]; rfl) (pa_cons (ha.pe rs b B W sc fn X e A G h3) pa_nil (star_cons (by simpa using h2)))) fun σ H Q q => step w C _ (fun _ => rfl) hw m2 ok σ H Q q
  have key2 : ∀ (x : Str) (p pos kp : Pos) (k : Option Str) (e : Expr), (mkC T.F sc x c && decide (k = some ("place" : Str)) && fitE T.F a sc fn e) = true → PE X (.Call (.Name x p) [] [⟨k, e, kp⟩] pos) (tE T rs b B W (.mx1 c a)) := fun x p pos kp k e h => by
    obtain ⟨h, h3⟩ := and2 h
    obtain ⟨h1, h2⟩ := and2 h
    have h2 := of_decide_eq_true h2
    subst h2
    cases hw : T.C.word c with
    | none => exact none_ _ hw
    | some w =>
      obtain ⟨C, m2, ok, _, _, M⟩ := mkv_at A G h1 hw p pos
      refine PE.imp (M [⟨some "place", e, kp⟩] _ rfl (pk_cons (ha.pe rs b B W sc fn X e A G h3) pk_nil)) fun σ H Q q => step w C _ (fun _ => rfl) hw m2 ok σ H Q q
  cases e with
  | Call g xs ks p =>
    cases g with
    | Name x p' =>
      match xs, ks, h with
      | [e], [], h => exact key1 x p' p e h
      | [], [⟨k, e, kp⟩], h => exact key2 x p' p kp k e h
    | _ => cases h
  | _ => cases h
theorem snd_my1 {a : ME} (c : Nat) (ha : Snd T a) : Snd T (.my1 c a) := snd_none (fun sc fn e => by cases e <;> rfl) (fun sc fn e => by cases e <;> rfl) (fun sc fn t e => by cases e <;> rfl) fun rs b B W sc fn X e A G h => by
  have den_ : ∀ (env : MP.Env) (st : Store), den T.C b (.my1 c a) env st = if T.C.bare c then (den T.C b a env st).then fun w st1 => .ok (.exc c w .non) st1 else .bad := fun _ _ => rfl
  have key1 : ∀ (x : Str) (p pos : Pos) (e : Expr), (mkC T.F sc x c && !isStar e && fitE T.F a sc fn e) = true → PE X (.Call (.Name x p) [e] [] pos) (tE T rs b B W (.my1 c a)) := fun x p pos e h => by
    obtain ⟨h, h3⟩ := and2 h
    obtain ⟨h1, h2⟩ := and2 h
    cases hw : T.C.bare c with
    | false =>
      refine PE.imp pe_never fun σ H Q q => ?_
      obtain ⟨st, ρ, env, S, er, q⟩ := open_tE q
      rw [den_, hw] at q
      exact q
    | true =>
      obtain ⟨C, m2, _, M, _⟩ := mkb_at A G h1 hw p pos
      refine PE.imp (M e [] _ (by show (!isStar e && true) = true; rw [h2]; rfl) (pa_cons (ha.pe rs b B W sc fn X e A G h3) pa_nil (star_cons (by simpa using h2)))) fun σ H Q q => ?_
      obtain ⟨st, ρ, env, S, er, q⟩ := open_tE q
      rw [den_, hw, if_pos rfl] at q
      exact ⟨st, ρ, env, S, er, FinG.fin ((FinG.bind (Fin.g q)).imp fun p st1 H1 ρ1 x1 S1 q v r => ⟨_, _, rfl, fun a' d fs h1 h2 h3 h4 h5 => Fin.newE S1 h1 h2 h3 m2 h4 h5 r .non (FinG.fin q)⟩)⟩
  cases e with
  | Call g xs ks p =>
    cases g with
    | Name x p' =>
      match xs, ks, h with
      | [e], [], h => exact key1 x p' p e h
    | _ => cases h
  | _ => cases h
theorem snd_my2 {a a2 : ME} (c : Nat) (ha : Snd T a) (ha2 : Snd T a2) : Snd T (.my2 c a a2) := snd_none (fun sc fn e => by cases e <;> rfl) (fun sc fn e => by cases e <;> rfl) (fun sc fn t e => by cases e <;> rfl) fun rs b B W sc fn X e A G h => by
  have den_ : ∀ (env : MP.Env) (st : Store), den T.C b (.my2 c a a2) env st = if T.C.bare c then (den T.C b a env st).then fun w st1 => (den T.C b a2 env st1).then fun p st2 => .ok (.exc c w p) st2 else .bad := fun _ _ => rfl
  have none_ : ∀ (e : Expr), T.C.bare c = false → PE X e (tE T rs b B W (.my2 c a a2)) := fun e hw => by
    refine PE.imp pe_never fun σ H Q q => ?_
    obtain ⟨st, ρ, env, S, er, q⟩ := open_tE q
    rw [den_, hw] at q
    exact q
  have step : ∀ (C : Addr) (g : List V → Option (V × V)), (∀ v v2, g [v, v2] = some (v, v2)) → T.C.bare c = true → T.Z.cls c = some C → ∀ (σ : L2.St) (H : Hp) (Q : VK), tE T rs b B W (.my2 c a a2) σ H Q → tMkV C g (tCons (tE T rs b B W a) (tCons (tE T rs b B W a2) tNil)) σ H Q := fun C g hg hw m2 σ H Q q => by
    obtain ⟨st, ρ, env, S, er, q⟩ := open_tE q
    rw [den_, hw, if_pos rfl] at q
    exact ⟨st, ρ, env, S, er, FinG.fin ((FinG.bind (Fin.g q)).imp fun wd st1 H1 ρ1 x1 S1 q v r => ⟨st1, ρ1, env, S1, er.ext x1, FinG.fin ((FinG.bind q).imp fun p st2 H2 ρ2 x2 S2 q v2 r2 => ⟨_, _, hg v v2, fun a' d fs h1 h2 h3 h4 h5 => Fin.newE S2 h1 h2 h3 m2 h4 h5 (r.ext x2) r2 (FinG.fin q)⟩)⟩)⟩
  have key1 : ∀ (x : Str) (p pos : Pos) (e f : Expr), (mkC T.F sc x c && !isStar e && !isStar f && fitE T.F a sc fn e && fitE T.F a2 sc fn f) = true → PE X (.Call (.Name x p) [e, f] [] pos) (tE T rs b B W (.my2 c a a2)) := fun x p pos e f h => by
    obtain ⟨h, h5⟩ := and2 h
    obtain ⟨h, h4⟩ := and2 h
    obtain ⟨h, h3⟩ := and2 h
    obtain ⟨h1, h2⟩ := and2 h
    cases hw : T.C.bare c with
    | false => exact none_ _ hw
    | true =>
      obtain ⟨C, m2, _, M, _⟩ := mkb_at A G h1 hw p pos
      exact PE.imp (M e [f] _ (by show (!isStar e && (!isStar f && true)) = true; rw [h2, h3]; rfl) (pa_cons (ha.pe rs b B W sc fn X e A G h4) (pa_cons (ha2.pe rs b B W sc fn X f A G h5) pa_nil (star_cons (by simpa using h3))) (star_cons (by simpa using h2)))) fun σ H Q q => step C _ (fun _ _ => rfl) hw m2 σ H Q q
  have key2 : ∀ (x : Str) (p pos kp lp : Pos) (k l : Option Str) (e f : Expr), (mkC T.F sc x c && decide (k = some ("word" : Str)) && decide (l = some ("place" : Str)) && fitE T.F a sc fn e && fitE T.F a2 sc fn f) = true → PE X (.Call (.Name x p) [] [⟨k, e, kp⟩, ⟨l, f, lp⟩] pos) (tE T rs b B W (.my2 c a a2)) := fun x p pos kp lp k l e f h => by
    obtain ⟨h, h5⟩ := and2 h
    obtain ⟨h, h4⟩ := and2 h
    obtain ⟨h, h3⟩ := and2 h
    obtain ⟨h1, h2⟩ := and2 h
    have h2 := of_decide_eq_true h2
    have h3 := of_decide_eq_true h3
    subst h2 h3
    cases hw : T.C.bare c with
    | false => exact none_ _ hw
    | true =>
      obtain ⟨C, m2, _, _, M⟩ := mkb_at A G h1 hw p pos
      exact PE.imp (M [⟨some "word", e, kp⟩, ⟨some "place", f, lp⟩] _ rfl (pk_cons (ha.pe rs b B W sc fn X e A G h4) (pk_cons (ha2.pe rs b B W sc fn X f A G h5) pk_nil))) fun σ H Q q => step C _ (fun _ _ => rfl) hw m2 σ H Q q
  cases e with
  | Call g xs ks p =>
    cases g with
    | Name x p' =>
      match xs, ks, h with
      | [e, f], [], h => exact key1 x p' p e f h
      | [], [⟨k, e, kp⟩, ⟨l, f, lp⟩], h => exact key2 x p' p kp lp k l e f h
    | _ => cases h
  | _ => cases h
/-- an error's word, its place -/
theorem snd_ew {a : ME} (ha : Snd T a) : Snd T (.ew a) := snd_none (fun sc fn e => by cases e <;> rfl) (fun sc fn e => by cases e <;> rfl) (fun sc fn t e => by cases e <;> rfl) fun rs b B W sc fn X e A G h => by
  have den_ : ∀ (env : MP.Env) (st : Store), den T.C b (.ew a) env st = (den T.C b a env st).then fun u st1 => (match u with
    | .exc c w _ => if T.C.err c then .ok w st1 else .bad
    | _ => .bad) := fun _ _ => rfl
  cases e with
  | Attribute x name pos =>
    obtain ⟨h, h3⟩ := and2 (show (okBase x && decide (name = ("word" : Str)) && fitE T.F a sc fn x) = true from h)
    obtain ⟨h1, h2⟩ := and2 h
    have h2 := of_decide_eq_true h2
    subst h2
    refine PE.imp (pe_xfld (ha.pe rs b B W sc fn X x A G h3) (base_ok h1)) fun σ H Q q => ?_
    obtain ⟨st, ρ, env, S, er, q⟩ := open_tE q
    rw [den_] at q
    refine ⟨st, ρ, env, S, er, FinG.fin ((FinG.bind (Fin.g q)).imp fun u st1 H1 ρ1 x1 S1 q v r => ?_)⟩
    split at q
    · rename_i c w p
      cases he : T.C.err c with
      | false => rw [he] at q; exact q.elim
      | true =>
        rw [he, if_pos rfl] at q
        obtain ⟨a', C, d, fs, vw, vp, rfl, hc, g1, g2, g3, g4, g5, g6⟩ := exc_rd r
        have E := A.exc c C hc he
        rw [← G.hK] at E
        exact ⟨a', C, d, fs, vw, rfl, E.xf, E.nw, g1, g2, g3, Fin.here S1 g5 (FinG.fin q)⟩
    · exact q.elim
  | _ => cases h
theorem snd_ep {a : ME} (ha : Snd T a) : Snd T (.ep a) := snd_none (fun sc fn e => by cases e <;> rfl) (fun sc fn e => by cases e <;> rfl) (fun sc fn t e => by cases e <;> rfl) fun rs b B W sc fn X e A G h => by
  have den_ : ∀ (env : MP.Env) (st : Store), den T.C b (.ep a) env st = (den T.C b a env st).then fun u st1 => (match u with
    | .exc c _ p => if T.C.err c then .ok p st1 else .bad
    | _ => .bad) := fun _ _ => rfl
  cases e with
  | Attribute x name pos =>
    obtain ⟨h, h3⟩ := and2 (show (okBase x && decide (name = ("place" : Str)) && fitE T.F a sc fn x) = true from h)
    obtain ⟨h1, h2⟩ := and2 h
    have h2 := of_decide_eq_true h2
    subst h2
    refine PE.imp (pe_xfld (ha.pe rs b B W sc fn X x A G h3) (base_ok h1)) fun σ H Q q => ?_
    obtain ⟨st, ρ, env, S, er, q⟩ := open_tE q
    rw [den_] at q
    refine ⟨st, ρ, env, S, er, FinG.fin ((FinG.bind (Fin.g q)).imp fun u st1 H1 ρ1 x1 S1 q v r => ?_)⟩
    split at q
    · rename_i c w p
      cases he : T.C.err c with
      | false => rw [he] at q; exact q.elim
      | true =>
        rw [he, if_pos rfl] at q
        obtain ⟨a', C, d, fs, vw, vp, rfl, hc, g1, g2, g3, g4, g5, g6⟩ := exc_rd r
        have E := A.exc c C hc he
        rw [← G.hK] at E
        exact ⟨a', C, d, fs, vp, rfl, E.xf, E.np, g1, g2, g4, Fin.here S1 g6 (FinG.fin q)⟩
    · exact q.elim
  | _ => cases h
theorem isiC_ok (A : Fa T) (G : Gd T b B sc fn X W) {g y : Str} {k : GK} (h : isiC T.F sc g y k = true) : g = ("isinstance" : Str) ∧ Gl X g ∧ X.mg g = none ∧ Gl X y ∧ y ≠ ("__name__" : Str) ∧ (y == ("__debug__" : Str)) = false ∧ T.F.G.lookup y = some k := by
  obtain ⟨h, h5⟩ := and2 (show (glB sc g && decide (T.F.G.lookup g = some .bi) && decide (g = ("isinstance" : Str)) && glB sc y && decide (T.F.G.lookup y = some k)) = true from h)
  obtain ⟨h, h4⟩ := and2 h
  obtain ⟨h, h3⟩ := and2 h
  obtain ⟨h1, h2⟩ := and2 h
  obtain ⟨g1, g2, g3⟩ := gl_of G h1
  obtain ⟨k1, k2, k3⟩ := gl_of G h4
  exact ⟨of_decide_eq_true h3, g1, by rw [G.hmg]; exact A.bi _ (of_decide_eq_true h2), k1, k2, k3, of_decide_eq_true h5⟩
theorem ei_pe {a : ME} (c' : Nat) (ha : Snd T a) (A : Fa T) (G : Gd T b B sc fn X W) {g y : Str} {x : Expr} {p1 p2 p3 : Pos} (h : (isiC T.F sc g y (.cls c') && !isStar x && fitE T.F a sc fn x) = true) : PE X (.Call (.Name g p1) [x, .Name y p2] [] p3) (tE T rs b B W (.ei a c')) := by
  obtain ⟨h, h3⟩ := and2 h
  obtain ⟨h1, h2⟩ := and2 h
  obtain ⟨rfl, g1, g2, k1, k2, k3, k4⟩ := isiC_ok A G h1
  obtain ⟨C2, m1, m2, m3⟩ := A.cls y c' k4
  have den_ : ∀ (env : MP.Env) (st : Store), den T.C b (.ei a c') env st = (den T.C b a env st).then fun u st1 => (match u with
    | .exc c _ _ => if T.C.err c && T.C.err c' then .ok (.bl (T.C.isa c c')) st1 else .bad
    | _ => .bad) := fun _ _ => rfl
  refine PE.imp (pe_callB (he := star_cons (by simpa using h2)) call_xisi g1 g2 (by decide +kernel) (pa_cons (ha.pe rs b B W sc fn X x A G h3) (pa_cons (pe_glob k1 (by rw [G.hmg]; exact m1) (show RelV (.ref C2) (.ref C2) from rfl) k3) pa_nil) (star_cons (by simpa using h2)))) fun σ H Q q => ?_
  obtain ⟨st, ρ, env, S, er, q⟩ := open_tE q
  rw [den_] at q
  refine ⟨st, ρ, env, S, er, FinG.fin ((FinG.bind (Fin.g q)).imp fun u st1 H1 ρ1 x1 S1 q v r => ?_)⟩
  split at q
  · rename_i c w p
    cases he : T.C.err c with
    | false => simp only [he, Bool.false_and] at q; exact q.elim
    | true =>
      cases he2 : T.C.err c' with
      | false => simp only [he, he2, Bool.and_false] at q; exact q.elim
      | true =>
        simp only [he, he2, Bool.and_true, if_true] at q
        obtain ⟨a', C, d, fs, vw, vp, rfl, hc, g1, g2, g3, g4, g5, g6⟩ := exc_rd r
        have E := A.exc c C hc he
        have X2 := (A.exm c c' C C2 hc m2 he he2).2
        rw [← G.hK] at E X2
        exact ⟨a', C, d, _, _, _, fs, rfl, E.xc, fun u hu => hu, X2, g1, g2, Fin.here S1 (.bl _) (FinG.fin q)⟩
  · exact q.elim
theorem ev_pe {a : ME} (ha : Snd T a) (A : Fa T) (G : Gd T b B sc fn X W) {g y : Str} {x : Expr} {p1 p2 p3 : Pos} (h : (isiC T.F sc g y .bi && decide (y = ("ValueError" : Str)) && !isStar x && fitE T.F a sc fn x) = true) : PE X (.Call (.Name g p1) [x, .Name y p2] [] p3) (tE T rs b B W (.ev a)) := by
  obtain ⟨h, h3⟩ := and2 h
  obtain ⟨h, h2⟩ := and2 h
  obtain ⟨h1, h4⟩ := and2 h
  have h4 := of_decide_eq_true h4
  subst h4
  obtain ⟨rfl, g1, g2, k1, k2, k3, k4⟩ := isiC_ok A G h1
  have den_ : ∀ (env : MP.Env) (st : Store), den T.C b (.ev a) env st = (den T.C b a env st).then fun u st1 => (match u with
    | .exc c _ _ => if T.C.err c then .ok (.bl true) st1 else .bad
    | _ => .bad) := fun _ _ => rfl
  refine PE.imp (pe_callB (he := star_cons (by simpa using h2)) call_xisi g1 g2 (by decide +kernel) (pa_cons (ha.pe rs b B W sc fn X x A G h3) (pa_cons (pe_bltn k1 (by rw [G.hmg]; exact A.bi _ k4) (v := .ty "ValueError") PyProof.Rows.Boot.«ValueError» rfl k2 k3) pa_nil) (star_cons (by simpa using h2)))) fun σ H Q q => ?_
  obtain ⟨st, ρ, env, S, er, q⟩ := open_tE q
  rw [den_] at q
  refine ⟨st, ρ, env, S, er, FinG.fin ((FinG.bind (Fin.g q)).imp fun u st1 H1 ρ1 x1 S1 q v r => ?_)⟩
  split at q
  · rename_i c w p
    cases he : T.C.err c with
    | false => rw [he] at q; exact q.elim
    | true =>
      rw [he, if_pos rfl] at q
      obtain ⟨a', C, d, fs, vw, vp, rfl, hc, g1, g2, g3, g4, g5, g6⟩ := exc_rd r
      have E := A.exc c C hc he
      rw [← G.hK] at E
      exact ⟨a', C, d, _, _, _, fs, rfl, E.xc, fun u hu => hu, E.ve, g1, g2, Fin.here S1 (.bl _) (FinG.fin q)⟩
  · exact q.elim
theorem snd_ei {a : ME} (c : Nat) (ha : Snd T a) : Snd T (.ei a c) where
  pe := fun rs b B W sc fn X e A G h => by
    cases e with
    | Call g xs ks p =>
      cases g with
      | Name x p' =>
        match xs, ks, h with
        | [x, .Name y p2], [], h => exact ei_pe c ha A G h
      | _ => cases h
    | _ => cases h
  pt := fun rs b B W sc fn X e A G h => by
    cases e with
    | Call g xs ks p =>
      cases g with
      | Name x p' =>
        match xs, ks, h with
        | [x, .Name y p2], [], h => exact pt_of (ei_pe c ha A G h) G rfl
      | _ => cases h
    | _ => cases h
  pa := fun rs b B W sc fn X es A G h => by cases es <;> cases h
  pi := fun rs b B W sc fn X tg e A G h => by cases e <;> cases h
theorem snd_ev {a : ME} (ha : Snd T a) : Snd T (.ev a) where
  pe := fun rs b B W sc fn X e A G h => by
    cases e with
    | Call g xs ks p =>
      cases g with
      | Name x p' =>
        match xs, ks, h with
        | [x, .Name y p2], [], h => exact ev_pe ha A G h
      | _ => cases h
    | _ => cases h
  pt := fun rs b B W sc fn X e A G h => by
    cases e with
    | Call g xs ks p =>
      cases g with
      | Name x p' =>
        match xs, ks, h with
        | [x, .Name y p2], [], h => exact pt_of (ev_pe ha A G h) G rfl
      | _ => cases h
    | _ => cases h
  pa := fun rs b B W sc fn X es A G h => by cases es <;> cases h
  pi := fun rs b B W sc fn X tg e A G h => by cases e <;> cases h
end
end MP

set_option autoImplicit false
set_option linter.all false
set_option maxRecDepth 100000
/-! Mp17: every term, every body; a def's call. -/
namespace MP
open PySem PySem.Spec PyProof.Rows L2
section
variable {T : Ct}
theorem snd_off {m : ME} (h1 : ∀ sc fn e, fitE T.F m sc fn e = false) (h2 : ∀ sc fn e, fitT T.F m sc fn e = false) (h3 : ∀ sc fn e, fitA T.F m sc fn e = false) (h4 : ∀ sc fn t e, fitI T.F m sc fn t e = false) : Snd T m where
  pe := fun rs b B W sc fn X e A G h => by rw [h1] at h; cases h
  pt := fun rs b B W sc fn X e A G h => by rw [h2] at h; cases h
  pa := fun rs b B W sc fn X es A G h => by rw [h3] at h; cases h
  pi := fun rs b B W sc fn X tg e A G h => by rw [h4] at h; cases h
theorem snd_all (m : ME) : Snd T m := by
  induction m with
  | no => exact snd_no
  | cons a r ha hr => exact snd_cons ha hr
  | star a r ha hr => exact snd_star ha hr
  | k d => exact snd_k d
  | var i => exact snd_var i
  | gl i => exact snd_gl i
  | bin o m a c ha hc => exact snd_bin o m ha hc
  | neg a ha => exact snd_neg ha
  | nt a ha => exact snd_nt ha
  | an a c ha hc => exact snd_an ha hc
  | or a c ha hc => exact snd_or ha hc
  | cmp o a c ha hc => exact snd_cmp o ha hc
  | cmp2 o u a c d ha hc hd => exact snd_cmp2 o u ha hc hd
  | isn a ha => exact snd_isn ha
  | notn a ha => exact snd_notn ha
  | ite c a d hc ha hd => exact snd_ite hc ha hd
  | tup es h => exact snd_tup h
  | lst m es h => exact snd_lst m h
  | ix a i ha hi => exact snd_ix ha hi
  | sl m a lo hi ha hl hh => exact snd_sl m ha hl hh
  | bi f m es h => exact snd_bi f m h
  | bm f m a es ha h => exact snd_bm f m ha h
  | fc f k es h => exact snd_fc f k h
  | rng1 a ha => exact snd_rng1 ha
  | rng2 a c ha hc => exact snd_rng2 ha hc
  | enm a ha => exact snd_enm ha
  | zp a c ha hc => exact snd_zp ha hc
  | itr a ha => exact snd_itr ha
  | lc m own t it c e ht hi hc he => exact snd_lc m own hi hc he
  | frz a ha => exact snd_frz ha
  | xw => exact snd_xw
  | xp => exact snd_xp
  | xi c => exact snd_xi c
  | xv => exact snd_xv
  | mx0 c => exact snd_mx0 c
  | mx1 c a ha => exact snd_mx1 c ha
  | my1 c a ha => exact snd_my1 c ha
  | my2 c a a2 ha ha2 => exact snd_my2 c ha ha2
  | ew a ha => exact snd_ew ha
  | ep a ha => exact snd_ep ha
  | ei a c ha => exact snd_ei c ha
  | ev a ha => exact snd_ev ha
  | _ => exact snd_off (fun sc fn e => by cases e <;> rfl) (fun sc fn e => by cases e <;> rfl) (fun sc fn e => by cases e <;> rfl) (fun sc fn t e => by cases e <;> rfl)
end
end MP

set_option autoImplicit false
set_option linter.all false
set_option maxRecDepth 100000
/-! Mp18: leaving a call; a def's promise, level by level. -/
namespace MP
open PySem PySem.Spec PyProof.Rows L2
section
variable {K : PySem.W.Frag} {Z : Ad} {H H' : Hp} {ρ ρ' : Rho} {B : List Nat} {st : Store}

/-! ### fewer places -/
theorem sget_trunc {b : Nat} {k : Nat} {x : Option Addr} (hb : b ≤ ρ.length) (h : sget (strunc ρ b) k = some x) : k < b ∧ sget ρ k = some x := by
  have h1 := sget_lt h
  rw [strunc_length _ _ hb] at h1
  rw [sget_strunc h1] at h
  exact ⟨h1, h⟩
theorem nm_trunc {b : Nat} {a : Addr} (hb : b ≤ ρ.length) (h : Nm Z ρ a) : Nm Z (strunc ρ b) a := ⟨fun ⟨k, e⟩ => h.1 ⟨k, (sget_trunc hb e).2⟩, h.2⟩
mutual
theorem RD.trunc {b : Nat} (hb : b ≤ ρ.length) : ∀ {d : D} {v : V}, RD K Z H ρ d v → Und b d → RD K Z H (strunc ρ b) d v
  | _, _, .non, _ => .non
  | _, _, .bl c, _ => .bl c
  | _, _, .int i, _ => .int i
  | _, _, .str s h, _ => .str s h
  | _, _, .tup h r, .tup u => .tup ⟨h.1, nm_trunc hb h.2⟩ (RDs.trunc hb r u)
  | _, _, .con h r, .con u => .con h (RDs.trunc hb r u)
  | _, _, .kl (.inl ⟨o, h, hm⟩) r, .kl u => .kl (.inl ⟨o, h, nm_trunc hb hm⟩) (RDs.trunc hb r u)
  | _, _, .kl (.inr h) r, .kl u => .kl (.inr h) (RDs.trunc hb r u)
  | _, _, .lst (.inl ⟨h, hm⟩) r, .lst u => .lst (.inl ⟨h, nm_trunc hb hm⟩) (RDs.trunc hb r u)
  | _, _, .lst (.inr ⟨o, h, hm⟩) r, .lst u => .lst (.inr ⟨o, h, nm_trunc hb hm⟩) (RDs.trunc hb r u)
  | _, _, .obj h hm hc hf r, .obj u => .obj h (nm_trunc hb hm) hc hf (RDs.trunc hb r u)
  | _, _, .exc hc h hm h2 hm2 e1 e2 rw rp, .exc u u' => .exc hc h (nm_trunc hb hm) h2 (nm_trunc hb hm2) e1 e2 (RD.trunc hb rw u) (RD.trunc hb rp u')
  | _, _, .loc h hv, .loc u => .loc (by rw [strunc_length _ _ hb]; exact u) fun a e => hv a (sget_trunc hb e).2
  | _, _, .fn h, _ => .fn h
  | _, _, .cls h, _ => .cls h
  | _, _, .ty n, _ => .ty n
theorem RDs.trunc {b : Nat} (hb : b ≤ ρ.length) : ∀ {ds : List D} {vs : List V}, RDs K Z H ρ ds vs → Unds b ds → RDs K Z H (strunc ρ b) ds vs
  | _, _, .nil, _ => .nil
  | _, _, .cons h r, .cons u us => .cons (RD.trunc hb h u) (RDs.trunc hb r us)
end
theorem KR.trunc {κ : Type} {ky : D → κ → Prop} {b : Nat} (hb : b ≤ ρ.length) : ∀ {l : List (D × D)} {m : List (κ × V)}, KR K Z H ρ ky l m → Unds b (l.map (·.2)) → KR K Z H (strunc ρ b) ky l m
  | _, _, .nil, _ => .nil
  | _, _, .cons hk h r, .cons u us => .cons hk (h.trunc hb u) (KR.trunc hb r us)
theorem RO.trunc {b : Nat} {o : Ob} {a : Addr} (hb : b ≤ ρ.length) (h : RO K Z H ρ o a) (u : UndO b o) : RO K Z H (strunc ρ b) o a := by
  cases h with
  | lst h r => exact .lst h (r.trunc hb u)
  | dK h r => exact .dK h (r.trunc hb u.2)
  | dT h r => exact .dT h (r.trunc hb u.2)
  | ins h hc hf r => exact .ins h hc hf (r.trunc hb u)
theorem Sim.weak {b : Nat} (S : Sim K Z (b :: B) st H ρ) : Sim K Z B st H ρ := ⟨S.len, S.inj, S.ob, S.rs, fun c hc => S.wf c (List.mem_cons_of_mem _ hc)⟩
theorem Sim.trunc {b : Nat} (S : Sim K Z (b :: B) st H ρ) (hT : Top b B) : Sim K Z B (strunc st b) H (strunc ρ b) := by
  have hb := (S.wf b List.mem_cons_self).1
  have hb2 : b ≤ ρ.length := by rw [← S.len]; exact hb
  refine ⟨by rw [strunc_length _ _ hb, strunc_length _ _ hb2], fun j k a ej ek => S.inj j k a (sget_trunc hb2 ej).2 (sget_trunc hb2 ek).2, fun k o e => ?_, fun a ha => ?_, fun c hc => ?_⟩
  · have hk := sget_lt e
    rw [strunc_length _ _ hb] at hk
    rw [sget_strunc hk] at e
    rcases S.ob k o e with ⟨h1, h2⟩ | ⟨a, h1, h2⟩
    · exact .inl ⟨h1, by rw [sget_strunc hk]; exact h2⟩
    · exact .inr ⟨a, by rw [sget_strunc hk]; exact h1, h2.trunc hb2 ((S.wf b List.mem_cons_self).2 k o hk e)⟩
  · obtain ⟨h1, h2⟩ := S.rs a ha
    exact ⟨fun ⟨k, e⟩ => h1 ⟨k, (sget_trunc hb2 e).2⟩, h2⟩
  · have hcb := hT c hc
    refine ⟨by rw [strunc_length _ _ hb]; exact hcb, fun k o hk e => ?_⟩
    rw [sget_strunc (by omega)] at e
    exact (S.wf c (List.mem_cons_of_mem _ hc)).2 k o hk e
theorem Ext.trunc (x : Ext H ρ H' ρ') : Ext H ρ H' (strunc ρ' ρ.length) where
  keep := x.keep
  there := x.there
  le := by rw [strunc_length _ _ x.le]; exact Nat.le_refl _
  old := fun k hk a e => x.old k hk a (sget_trunc x.le e).2
  new := fun k a hk e => absurd (sget_trunc x.le e).1 (by omega)
/-- what is handed out is data from now on -/
theorem frz_rd {b : Nat} (hb : b ≤ ρ.length) (S : Sim K Z B st H ρ) : ∀ (n : Nat) (d d' : D) (v : V), frz st b n d = some d' → RD K Z H ρ d v → RD K Z H (strunc ρ b) d' v := by
  have keepL : ∀ {k : Nat} {v : V}, k < b → RD K Z H ρ (.loc k) v → RD K Z H (strunc ρ b) (.loc k) v := fun hk r => r.trunc hb (.loc hk)
  intro n
  induction n with
  | zero =>
    intro d d' v h r
    cases d with
    | loc k =>
      have h2 : (if k < b then some (D.loc k) else none) = some d' := h
      split at h2
      · cases h2; exact keepL (by assumption) r
      · cases h2
    | non => cases h; cases r; exact .non
    | bl _ => cases h; cases r; exact .bl _
    | int _ => cases h; cases r; exact .int _
    | str _ => cases h; cases r with | str _ h => exact .str _ h
    | fn _ => cases h; cases r with | fn h => exact .fn h
    | cls _ => cases h; cases r with | cls h => exact .cls h
    | ty _ => cases h; cases r; exact .ty _
    | _ => cases h
  | succ n ih =>
    have rows : ∀ (xs ys : List D) (vs : List V), mapO (frz st b n) xs = some ys → RDs K Z H ρ xs vs → RDs K Z H (strunc ρ b) ys vs := by
      intro xs
      induction xs with
      | nil => intro ys vs h r; cases h; cases r; exact .nil
      | cons x xs ihx =>
        intro ys vs h r
        obtain ⟨y, zs, rfl, h1, h2⟩ := mapO_cons h
        cases r with
        | cons rh rr => exact .cons (ih x y _ h1 rh) (ihx zs _ h2 rr)
    intro d d' v h r
    cases d with
    | loc k =>
      have h2 : (if k < b then some (D.loc k) else (match sget st k with
        | some (.lst xs) => (mapO (frz st b n) xs).map D.lst
        | some (.ins c fs) => (mapO (frz st b n) fs).map (D.obj c)
        | _ => none)) = some d' := h
      by_cases hk : k < b
      · rw [if_pos hk] at h2; cases h2; exact keepL hk r
      · rw [if_neg hk] at h2
        have nm : ∀ a, sget ρ k = some (some a) → Nm Z (strunc ρ b) a := fun a ha => ⟨fun ⟨j, e⟩ => by
          obtain ⟨e1, e2⟩ := sget_trunc hb e
          have := S.inj j k a e2 ha
          omega, fun z => (S.rs a z).1 ⟨k, ha⟩⟩
        split at h2
        · rename_i xs hs
          cases hm : mapO (frz st b n) xs with
          | none => rw [hm] at h2; cases h2
          | some ys =>
            rw [hm] at h2; cases h2
            obtain ⟨a, vs, rfl, h3, h4, h5⟩ := loc_lst S r hs
            exact .lst (.inl ⟨h4, nm a h3⟩) (rows _ _ _ hm h5)
        · rename_i c fs hs
          cases hm : mapO (frz st b n) fs with
          | none => rw [hm] at h2; cases h2
          | some ys =>
            rw [hm] at h2; cases h2
            obtain ⟨a, h3, h4⟩ := S.at hs (by intro z; cases z)
            have e := r.loc_ref h3
            subst e
            cases h4 with
            | ins h5 hc hf rr => exact .obj h5 (nm a h3) hc (by rw [hf, (mapO_some hm).1]) (rows _ _ _ hm rr)
        · cases h2
    | tup xs =>
      have h2 : (mapO (frz st b n) xs).map D.tup = some d' := h
      cases hm : mapO (frz st b n) xs with
      | none => rw [hm] at h2; cases h2
      | some ys =>
        rw [hm] at h2; cases h2
        cases r with
        | tup t r => exact .tup ⟨t.1, nm_trunc hb t.2⟩ (rows _ _ _ hm r)
    | con xs =>
      have h2 : (if xs.all (under 0 n) then some (D.con xs) else none) = some d' := h
      split at h2
      · rename_i hu
        cases h2
        refine r.trunc hb (.con (Unds.of fun d hd => (under_und n d (List.all_eq_true.mp hu d hd)).mono (Nat.zero_le _)))
      · cases h2
    | kl xs =>
      have h2 : (if xs.all (under 0 n) then some (D.kl xs) else none) = some d' := h
      split at h2
      · rename_i hu
        cases h2
        refine r.trunc hb (.kl (Unds.of fun d hd => (under_und n d (List.all_eq_true.mp hu d hd)).mono (Nat.zero_le _)))
      · cases h2
    | lst xs =>
      have h2 : (mapO (frz st b n) xs).map D.lst = some d' := h
      cases hm : mapO (frz st b n) xs with
      | none => rw [hm] at h2; cases h2
      | some ys =>
        rw [hm] at h2; cases h2
        cases r with
        | lst t r =>
          rcases t with ⟨t, hm2⟩ | ⟨o, t, hm2⟩
          · exact .lst (.inl ⟨t, nm_trunc hb hm2⟩) (rows _ _ _ hm r)
          · exact .lst (.inr ⟨o, t, nm_trunc hb hm2⟩) (rows _ _ _ hm r)
    | obj c fs =>
      have h2 : (mapO (frz st b n) fs).map (D.obj c) = some d' := h
      cases hm : mapO (frz st b n) fs with
      | none => rw [hm] at h2; cases h2
      | some ys =>
        rw [hm] at h2; cases h2
        cases r with
        | obj h5 hm2 hc hf rr => exact .obj h5 (nm_trunc hb hm2) hc (by rw [hf, (mapO_some hm).1]) (rows _ _ _ hm rr)
    | non => cases h; cases r; exact .non
    | bl _ => cases h; cases r; exact .bl _
    | int _ => cases h; cases r; exact .int _
    | str _ => cases h; cases r with | str _ h => exact .str _ h
    | fn _ => cases h; cases r with | fn h => exact .fn h
    | cls _ => cases h; cases r with | cls h => exact .cls h
    | ty _ => cases h; cases r; exact .ty _
    | exc c w p =>
      have h2 : (match frz st b n w, frz st b n p with
        | some w', some p' => some (D.exc c w' p')
        | _, _ => none) = some d' := h
      cases hw : frz st b n w with
      | none => rw [hw] at h2; cases h2
      | some w' =>
        cases hp : frz st b n p with
        | none => rw [hw, hp] at h2; cases h2
        | some p' =>
          rw [hw, hp] at h2; cases h2
          cases r with
          | exc hc h1 hm h2 hm2 e1 e2 rw' rp => exact .exc hc h1 (nm_trunc hb hm) h2 (nm_trunc hb hm2) e1 e2 (ih _ _ _ hw rw') (ih _ _ _ hp rp)
/-- leaving a call -/
theorem leave_fin {E : XK} {Q : VK} {keep : Bool} {d : D} {st1 : Store} {v : V} (hx : Ext H ρ H' ρ') (S : Sim K Z (ρ.length :: B) st1 H' ρ') (hT : Top ρ.length B) (r : RD K Z H' ρ' d v) (q : Fin K Z B E H ρ (leave keep ρ.length d st1) Q) : Q v H' := by
  unfold leave at q
  cases keep with
  | true => exact q v H' ρ' hx S.weak r
  | false =>
    cases hf : frz st1 ρ.length DEEP d with
    | none => rw [hf] at q; exact q.elim
    | some d' =>
      rw [hf] at q
      exact q v H' _ hx.trunc (S.trunc hT) (frz_rd hx.le S DEEP d d' v hf r)
end
end MP

set_option autoImplicit false
set_option linter.all false
set_option maxRecDepth 100000
/-! Mp19: a def's promise, level by level. -/
namespace MP
open PySem PySem.Spec PyProof.Rows L2
section
variable {K : PySem.W.Frag} {Z : Ad} {H H' : Hp} {ρ ρ' : Rho} {B : List Nat} {st : Store}
mutual
theorem RD.und : ∀ {d : D} {v : V}, RD K Z H ρ d v → Und ρ.length d
  | _, _, .non => .non
  | _, _, .bl b => .bl b
  | _, _, .int i => .int i
  | _, _, .str s _ => .str s
  | _, _, .tup _ r => .tup (RDs.und r)
  | _, _, .con _ r => .con (RDs.und r)
  | _, _, .kl _ r => .kl (RDs.und r)
  | _, _, .lst _ r => .lst (RDs.und r)
  | _, _, .obj _ _ _ _ r => .obj (RDs.und r)
  | _, _, .exc _ _ _ _ _ _ _ rw rp => .exc (RD.und rw) (RD.und rp)
  | _, _, .loc h _ => .loc h
  | _, _, .fn _ => .fn _
  | _, _, .cls _ => .cls _
  | _, _, .ty n => .ty n
theorem RDs.und : ∀ {ds : List D} {vs : List V}, RDs K Z H ρ ds vs → Unds ρ.length ds
  | _, _, .nil => .nil
  | _, _, .cons h r => .cons (RD.und h) (RDs.und r)
end
theorem KR.undV {κ : Type} {ky : D → κ → Prop} : ∀ {l : List (D × D)} {m : List (κ × V)}, KR K Z H ρ ky l m → Unds ρ.length (l.map (·.2))
  | _, _, .nil => .nil
  | _, _, .cons _ h r => .cons h.und (KR.undV r)
theorem KR.undK {κ : Type} {ky : D → κ → Prop} {n : Nat} (hk : ∀ d k, ky d k → Und n d) : ∀ {l : List (D × D)} {m : List (κ × V)}, KR K Z H ρ ky l m → Unds n (l.map (·.1))
  | _, _, .nil => .nil
  | _, _, .cons h _ r => .cons (hk _ _ h) (KR.undK hk r)
theorem kyK_und {n : Nat} {d : D} {k : Key} (h : kyK d k) : Und n d := by
  unfold kyK keyD at h
  cases d <;> simp at h <;> first | exact .int _ | exact .str _
theorem kyT_und {n : Nat} {d : D} {k : List Key} (h : kyT d k) : Und n d := by
  unfold kyT keyT at h
  cases d <;> simp at h
  rename_i xs
  refine .tup ?_

  induction xs generalizing k with
  | nil => exact .nil
  | cons x xs ih =>
    obtain ⟨y, ys, rfl, h1, h2⟩ := mapO_cons h
    refine .cons ?_ (ih h2)
    cases x <;> simp at h1 <;> first | exact .int _ | exact .str _
theorem RO.und {o : Ob} {a : Addr} (h : RO K Z H ρ o a) : UndO ρ.length o := by
  cases h with
  | lst h r => exact r.und
  | dK h r => exact ⟨r.undK fun _ _ => kyK_und, r.undV⟩
  | dT h r => exact ⟨r.undK fun _ _ => kyT_und, r.undV⟩
  | ins h hc hf r => exact r.und
/-- a call begins -/
theorem Sim.enter (S : Sim K Z B st H ρ) : Sim K Z (ρ.length :: B) st H ρ ∧ Top ρ.length B := by
  refine ⟨⟨S.len, S.inj, S.ob, S.rs, fun c hc => ?_⟩, fun c hc => by rw [← S.len]; exact (S.wf c hc).1⟩
  rcases List.mem_cons.mp hc with e | hc
  · subst e
    refine ⟨by rw [S.len]; exact Nat.le_refl _, fun k o hk e => ?_⟩
    rcases S.ob k o e with ⟨h, _⟩ | ⟨a, _, h⟩
    · subst h; trivial
    · exact h.und
  · exact S.wf c hc
/-- an exception leaves a call -/
theorem leave_exc {E : XK} {Q : VK} {x : D} {st1 : Store} {c : Value} {dx : Option Addr} (hx : Ext H ρ H' ρ') (S : Sim K Z (ρ.length :: B) st1 H' ρ') (hT : Top ρ.length B) (r : RX K Z H' ρ' x c dx)
    (q : Fin K Z B E H ρ (match frz st1 ρ.length DEEP x with
      | some x' => .exc x' (strunc st1 ρ.length)
      | none => .bad) Q) : E c dx H' := by
  cases r with
  | mk hc h hm hw hp rw1 rp =>
    rename_i c' w p C d fs vw vp
    have hz : frz st1 ρ.length DEEP (.exc c' w p) = (match frz st1 ρ.length 7 w, frz st1 ρ.length 7 p with
      | some w', some p' => some (.exc c' w' p')
      | _, _ => none) := rfl
    rw [hz] at q
    cases e1 : frz st1 ρ.length 7 w with
    | none => rw [e1] at q; exact q.elim
    | some w' =>
      cases e2 : frz st1 ρ.length 7 p with
      | none => rw [e1, e2] at q; exact q.elim
      | some p' =>
        rw [e1, e2] at q
        exact q _ _ H' _ hx.trunc (S.trunc hT) (.mk hc h (nm_trunc hx.le hm) hw hp (frz_rd hx.le S 7 w w' _ e1 rw1) (frz_rd hx.le S 7 p p' _ e2 rp))
end
/-- a def of the table: where it stands, its names, its body -/
structure DefI (K : PySem.W.Frag) (Z : Ad) (G : List (Str × GK)) (cs : List CI) (Tb : Tb) (f : Nat) (a : Addr) : Prop where
  ex : ∃ (x qual : Str) (params : Arguments) (body : List Stmt) (scope : Scope) (dvs : List V) (kws : List (Str × V)) (fd : FuncData) (N ps : List Str) (Fm : Fn),
    FunD K x qual params body scope dvs kws a fd ∧ Tb.fns[f]? = some Fm ∧ FnScope N ps scope ∧ Binds K fd ps [] ∧ Fm.dfl = [] ∧ ps.length = Fm.ps ∧ N.length = Fm.n ∧ fitB ⟨N, G, cs, none⟩ scope (fun _ => true) Fm.body body = true
/-- the level below -/
def below (Tb : Tb) : Nat → Cal
  | 0 => calN Tb 0
  | n + 1 => calN Tb (n + 1)
theorem calN_fn (Tb : Tb) (n : Nat) : (calN Tb (n + 1)).fn = calN.run Tb (calN Tb n) := by
  cases n <;> rfl
theorem calN_word (Tb : Tb) (n : Nat) : (calN Tb n).word = Tb.word := by
  match n with
  | 0 => rfl
  | 1 => rfl
  | n + 2 => rfl
theorem calN_err (Tb : Tb) (n : Nat) : (calN Tb n).err = Tb.err := by
  match n with
  | 0 => rfl
  | 1 => rfl
  | n + 2 => rfl
theorem calN_bare (Tb : Tb) (n : Nat) : (calN Tb n).bare = Tb.bare := by
  match n with
  | 0 => rfl
  | 1 => rfl
  | n + 2 => rfl
theorem calN_isa (Tb : Tb) (n : Nat) : (calN Tb n).isa = Tb.isa := by
  match n with
  | 0 => rfl
  | 1 => rfl
  | n + 2 => rfl
theorem calN_glob (Tb : Tb) (n : Nat) : (calN Tb n).glob = fun i => Tb.globs[i]? := by
  match n with
  | 0 => rfl
  | 1 => rfl
  | n + 2 => rfl
section
variable {P : Program} {w : World} {K : PySem.W.Frag} {mg : Str → Option Value} {base : Heap} {Z : Ad} {G : List (Str × GK)} {cs : List CI} {Tb : Tb}
theorem env_start {H : Hp} {ρ : Rho} {ds : List D} {vs : List V} {N : List Str} {rs : List Addr} {Fm : Fn} (r : RDs K (Z.rsv rs) H ρ ds vs) (hn : N.length = Fm.n) (hp : vs.length = Fm.ps) :
    EnvR K (Z.rsv rs) none H ρ (ds.map some ++ List.replicate (Fm.n - Fm.ps) none) (L2.start N vs) := by
  have hl := r.length
  refine ⟨?_, fun i d h => ?_, CurR.none, fun c w p a C d i e => nomatch e⟩
  · unfold L2.start
    simp only [List.length_append, List.length_map, List.length_replicate]
    omega
  · have hi : i < ds.length := by
      by_cases hi : i < ds.length
      · exact hi
      · rw [List.getElem?_append_right (by simpa using hi), List.getElem?_replicate] at h
        split at h <;> cases h
    rw [List.getElem?_append_left (by simpa using hi), List.getElem?_map] at h
    obtain ⟨d', h1, h2⟩ := Option.map_eq_some_iff.mp h
    cases h2
    obtain ⟨v, h3, h4⟩ := r.get h1
    refine ⟨v, ?_, h4⟩
    unfold L2.start
    rw [List.getElem?_append_left (by simp; omega), List.getElem?_map, h3]
    rfl
theorem fn_up {n : Nat} {f : Nat} {a : Addr} {F0 : Ft} {cx : Cux} (A : ∀ N, Fa ⟨P, w, K, mg, base, Z, calN Tb n, n, ⟨N, G, cs, none⟩, none⟩) (D : DefI K Z G cs Tb f a) : FnG ⟨P, w, K, mg, base, Z, calN Tb (n + 1), n + 1, F0, cx⟩ f a := by
  intro around callers s H us vs Q E rs B st ρ ds keep room hgd e0 rv S rd q
  obtain ⟨x, qual, params, body, scope, dvs, kws, fd, N, ps, Fm, FD, hf, FS, bnd, hdfl, hps, hN, fit⟩ := D.ex
  obtain ⟨oc, od, dV, kV, doc, pm, an, cdv, ct, osl, rfl, lk, hcd, _, _⟩ := FD.ex
  have q : Fin K (Z.rsv rs) B E H ρ ((calN Tb (n + 1)).fn f keep ds st) Q := q
  rw [calN_fn] at q
  unfold calN.run at q
  rw [hf] at q
  simp only [hdfl, List.length_nil, List.drop_nil, List.append_nil, Nat.add_zero] at q
  by_cases hc : ds.length ≤ Fm.ps ∧ Fm.ps ≤ ds.length
  · rw [if_pos hc] at q
    have hl : vs.length = Fm.ps := by rw [← rd.length]; omega
    have hul : (us ++ []).length = ps.length := by rw [List.append_nil, ← rv.length, hl, hps]
    have KX : K.In s.heap := e0.mod.kin.keeps fun b o e => (e0.bs b o e).1
    have lim := e0.mod.nolimit.keeps fun b o e => (e0.bs b o e).1
    have hb := bnd s us KX hul
    rw [List.append_nil] at hb
    refine codeAny_call_function room.depth (KX _ _ lk) rfl FS.co FS.gen rfl (PySem.W.codeRec_of KX hcd)
      (hb _ _ _ _ ?_)
    refine wpAny_newFunctionEnv_cells FS.kind (fun y hy => ?_) fun env he s1 xx => ?_
    · obtain ⟨nm, v⟩ := y
      rcases FS.par nm (List.of_mem_zip hy).1 with z | z
      · exact .inl z
      · exact .inr ⟨z, PySem.W.cellsFrom_some _ _ _ (.inl z)⟩
    subst he
    refine ⟨lim.keeps xx.toInCall.keep, codeAny_func ?_⟩
    have I : Inv (cxOf (L2.CX P w) P w K mg base N qual scope a cdv around callers s H E) [] (L2.start N vs) H s1 :=
      inv_start FS room.hd e0 (by rw [hl, hps]) rv xx
    have tk : L2.Takes (cxOf (L2.CX P w) P w K mg base N qual scope a cdv around callers s H E) fun cls d _ H => E cls d H :=
      takes_of rfl rfl rfl (E := E) (E₁ := fun e' s'' => L2.CX P w callers H s E e' s'') rfl
    obtain ⟨S2, hT⟩ := S.enter
    have rm : Room (n + 3 + 1) around := room.mono (by show n + 3 + 1 ≤ n + 1 + 3; omega)
    have Gb : Gs ⟨P, w, K, mg, base, Z, calN Tb n, n, ⟨N, G, cs, none⟩, none⟩ ρ.length B scope (fun _ => true) (cxOf (L2.CX P w) P w K mg base N qual scope a cdv around callers s H E) fun cls d _ H => E cls d H :=
      { hN := rfl, nd := FS.nd, hP := rfl, hw := rfl, hK := rfl, hmg := rfl, hb := rfl, sc := rfl, cold := fun _ => ⟨rfl, rfl⟩, hots := fun i e => (nomatch e), gd := hgd, room := fun _ => rm.deeper _, hu := (show (around.deeper (envOfC qual scope s.heap.objs.size a cdv)).units + 100 < cLine by have := (rm.deeper (envOfC qual scope s.heap.objs.size a cdv)).un; omega), tk := tk, fn := fun _ h => h, top := hT, po := passes_of rfl, stk := rfl, frm := rfl }
    have body_ok := (sndS (fun T m => snd_all m) Fm.body ⟨P, w, K, mg, base, Z, calN Tb n, n, ⟨N, G, cs, none⟩, none⟩).pb rs ρ.length B _ scope _ _ body (A N) Gb fit
    have er := env_start (N := N) (Fm := Fm) rd hN hl
    rw [S.len] at q
    have want : tS ⟨P, w, K, mg, base, Z, calN Tb n, n, ⟨N, G, cs, none⟩, none⟩ rs ρ.length B (fun cls d _ H => E cls d H) Fm.body { nx := fun _ H' => Q .non H', rt := Q } (L2.start N vs) H := by
      refine ⟨st, ρ, _, S2, er, ?_⟩
      show FinS ⟨P, w, K, mg, base, Z, calN Tb n, n, ⟨N, G, cs, none⟩, none⟩ rs (ρ.length :: B) _ H ρ (exec (calN Tb n) ρ.length Fm.body (ds.map some ++ List.replicate (Fm.n - Fm.ps) none) st) _
      cases hx : exec (calN Tb n) ρ.length Fm.body (ds.map some ++ List.replicate (Fm.n - Fm.ps) none) st with
      | nx env st1 => rw [hx] at q; exact fun H' ρ' σ' hxx S3 _ => leave_fin hxx S3 hT .non q
      | rt d st1 => rw [hx] at q; exact fun v H' ρ' hxx S3 r => leave_fin hxx S3 hT r q
      | bk env st1 => rw [hx] at q; exact q.elim
      | exc e env st1 => rw [hx] at q; exact fun c dx H' ρ' σ' hxx S3 _ r => leave_exc hxx S3 hT r q
      | bad => rw [hx] at q; exact q.elim
    refine wpAny_mono (body_ok.run [] s1 (L2.start N vs) H _ I want) (fun fl s' hs => ?_) fun e s' hs => hs
    cases fl with
    | ret u =>
      obtain ⟨v, σ', H', J, rv2, q2⟩ := hs
      exact ⟨v, H', J.os, J.bare, J.base, J.hok, rv2, q2⟩
    | next =>
      obtain ⟨σ', H', J, q2⟩ := hs
      exact ⟨V.non, H', J.os, J.bare, J.base, J.hok, rfl, q2⟩
    | brk =>
      obtain ⟨_, _, _, z⟩ := hs
      exact z.elim
    | cont =>
      obtain ⟨_, _, _, z⟩ := hs
      exact z.elim
  · rw [if_neg hc] at q
    exact q.elim
/-- what is known of the module's names, whatever the level -/
structure NameF (K : PySem.W.Frag) (mg : Str → Option Value) (Z : Ad) (G : List (Str × GK)) (cs : List CI) (Tb : MP.Tb) : Prop where
  bi : ∀ x, G.lookup x = some .bi → mg x = none
  fnv : ∀ x f, G.lookup x = some (.fn f) → ∃ a, mg x = some (.ref a) ∧ Z.fn f = some a ∧ PySem.W.keepIn K (.ref a) = true
  dat : ∀ x i d, G.lookup x = some (.dat i) → Tb.globs[i]? = some d → ∃ v u, mg x = some u ∧ RelV v u ∧ ∀ rs H ρ, RD K (Z.rsv rs) H ρ d v
  defs : ∀ f a, Z.fn f = some a → DefI K Z G cs Tb f a
  cls : ∀ x c, G.lookup x = some (.cls c) → ∃ C, mg x = some (.ref C) ∧ Z.cls c = some C ∧ PySem.W.keepIn K (.ref C) = true
  exc : ∀ c C, Z.cls c = some C → Tb.err c = true → ExcF K C
  exm : ∀ c c' C C', Z.cls c = some C → Z.cls c' = some C' → Tb.err c = true → Tb.err c' = true → PySem.W.exmOne K (.ref C) (.ref C') = some (Tb.isa c c') ∧ PySem.W.kitOne K (.ref C) (.ref C') = some (Tb.isa c c')
  mkx : ∀ c C w, Z.cls c = some C → Tb.word c = some w → okS w ∧ ∀ P W base, MkE P W K mg base C w
  mkv : ∀ c C w, Z.cls c = some C → Tb.word c = some w → ∀ P W base, MkV P W K mg base C ["place"] (gOwn w)
  mkb : ∀ c C, Z.cls c = some C → Tb.bare c = true → ∀ P W base, MkV P W K mg base C ["word", "place"] gBase
theorem NameF.fa (M : NameF K mg Z G cs Tb) (n : Nat) (N : List Str) (cx : Cux) (h : ∀ f a, Z.fn f = some a → FnG ⟨P, w, K, mg, base, Z, calN Tb n, n, ⟨N, G, cs, none⟩, cx⟩ f a) : Fa ⟨P, w, K, mg, base, Z, calN Tb n, n, ⟨N, G, cs, none⟩, cx⟩ where
  bi := M.bi
  fnv := M.fnv
  dat := fun x i d h1 h2 => M.dat x i d h1 (by rw [calN_glob] at h2; exact h2)
  run := h
  cls := M.cls
  exc := fun c C e1 e2 => M.exc c C e1 (by rw [← calN_err Tb n]; exact e2)
  exm := fun c c' C C' e1 e2 e3 e4 => by
    show _ = some ((calN Tb n).isa c c') ∧ _ = some ((calN Tb n).isa c c')
    rw [calN_isa]
    exact M.exm c c' C C' e1 e2 (by rw [← calN_err Tb n]; exact e3) (by rw [← calN_err Tb n]; exact e4)
  mkx := fun c C w' e1 e2 => by
    obtain ⟨h1, h2⟩ := M.mkx c C w' e1 (by rw [← calN_word Tb n]; exact e2)
    exact ⟨h1, h2 P w base⟩
  mkv := fun c C w' e1 e2 => M.mkv c C w' e1 (by rw [← calN_word Tb n]; exact e2) P w base
  mkb := fun c C e1 e2 => M.mkb c C e1 (by rw [← calN_bare Tb n]; exact e2) P w base
theorem all_levels (M : NameF K mg Z G cs Tb) : ∀ (n : Nat) (N : List Str), Fa ⟨P, w, K, mg, base, Z, calN Tb n, n, ⟨N, G, cs, none⟩, none⟩ := by
  intro n
  induction n with
  | zero =>
    intro N
    exact M.fa 0 N none fun f a hf around callers s H us vs Q E rs B st ρ ds keep room hgd e0 rv S rd q => q.elim
  | succ n ih =>
    intro N
    exact M.fa (n + 1) N none fun f a hf => fn_up ih (M.defs f a hf)
end
end MP

set_option autoImplicit false
set_option linter.all false
set_option maxRecDepth 100000
/-! Mp20: the law's end. -/
namespace MP
open PySem PySem.Spec PyProof.Rows L2
/-- from an abstract heap that holds at most the script -/
theorem end_core {P : Program} {w : World} {K : PySem.W.Frag} {mg mb : Str → Option Value} {Z : Ad} {G : List (Str × GK)} {cs : List CI} {T : Tb} {n f : Nat} {fa a : Addr} {sh : Shared} {its : List Value} {ns : List Int}
    (hK : K.In sh.heap) (hG : sh.heap.Ns mainGlobals mg) (hB : sh.heap.Ns builtinsNs mb) (hBB : ∀ z : Str, z ≠ "__name__" → mb z = bootBuiltins z) (hL : sh.heap.NoLimit) (hgen : sh.gens = #[])
    (hobj : sh.heap.get? a = some { cls := .type "list", data := .seq its.toArray }) (room : Room (n + 3) callerA) (M : NameF K mg Z G cs T) (hf : Z.fn f = some fa) (hZ : Z.rs = [])
    (run : (calN T n).fn f false [.kl (ns.map .int)] [] = .ok (.bl true) [])
    (H : Hp) (only : Only H) (hok : HOk P w H sh.heap) (just : ∀ c, H c ≠ none → c = a) (apart : H a ≠ none → K.lookup a = none) (rd : Kz K Z H [] a (ns.map V.int)) :
    codeAny (model P w) callerA (.call (.ref fa) ⟨[.ref a], []⟩)
      (fun r s' => r = .ok (.ret (.bool true)) ∧ OldK sh.heap s'.heap ∧ s'.os = sh.os ∧ AllBare s'.gens) sh := by
  have at_a : ∀ {c : Addr} {u : HO}, H c = some u → c = a := fun {c u} e => just c (by rw [e]; simp)
  have untracked : ∀ {c : Addr} {ob : Obj} {es : Array DictEntry} {k : Nat}, sh.heap.get? c = some ob → ob.data = .dict es k → H c = none := by
    intro c ob es k e1 e2
    cases e3 : H c with
    | none => rfl
    | some u =>
      have := at_a e3
      subst this
      rw [hobj] at e1
      cases e1
      exact nomatch e2
  have ns_base : ∀ {c : Addr} {m : Str → Option Value}, sh.heap.Ns c m → (hidT sh.heap H).Ns c m := by
    rintro c m ⟨ob, es, k, e1, e2, r⟩
    exact ⟨ob, es, k, hidT_get e1 (untracked e1 e2), e2, r⟩
  have kin : K.In (hidT sh.heap H) := by
    intro c ob e
    refine hidT_get (hK c ob e) ?_
    cases e3 : H c with
    | none => rfl
    | some u =>
      have := at_a e3
      subst this
      rw [apart (by rw [e3]; simp)] at e
      cases e
  have lim2 : (hidT sh.heap H).NoLimit := by
    obtain ⟨mc, h1, h2⟩ := hL
    exact ⟨mc, ns_base h1, h2⟩
  have e0 : Env0 P w K mg (hidT sh.heap H) callerA [] sh H :=
    { frames := rfl, mod := ⟨kin, ns_base hG, ⟨mb, ns_base hB, hBB⟩, lim2⟩, bs := fun c ob e => of_hidT e, bsz := Nat.le_of_eq (hidT_size _ _), funs := trivial, frf := fun c hc => (by cases hc), hok := hok, bare := .of_eq hgen }
  have S0 : Sim K (Z.rsv []) [] [] H [] :=
    { len := rfl, inj := fun j k c e => (by cases e), ob := fun k o e => (by cases e), rs := fun c hc => (by cases hc), wf := fun c hc => (by cases hc) }
  have hzz : Z.rsv [] = Z := by rw [← hZ]; rfl
  have r0 : RDs K (Z.rsv []) H [] [.kl (ns.map .int)] [.ref a] := by
    rw [hzz]
    refine .cons (.kl rd ?_) .nil
    clear rd run
    induction ns with
    | nil => exact .nil
    | cons i ns ih => exact .cons (.int i) ih
  have FG := (all_levels (P := P) (w := w) (base := hidT sh.heap H) M n []).run f fa hf callerA [] sh H [.ref a] [.ref a] (fun v _ => v = .bl true) (fun _ _ _ => False) [] [] [] [] [.kl (ns.map .int)] false room rfl e0 (.cons rfl .nil) S0 r0 (by
    show Fin K (Z.rsv []) [] _ H [] ((calN T n).fn f false [.kl (ns.map .int)] []) _
    rw [run]
    intro v H' ρ' _ _ r
    cases r
    rfl)
  refine codeAny_mono FG fun r s' hr => ?_
  cases r with
  | error e =>
    obtain ⟨_, _, _, _, _, _, _, _, _, _, _, _, z⟩ := hr
    exact z.elim
  | ok fl =>
    cases fl with
    | next => exact hr.elim
    | brk => exact hr.elim
    | cont => exact hr.elim
    | ret u =>
      obtain ⟨v, H', os, bare, un, hok2, r2, q⟩ := hr
      have q : v = .bl true := q
      subst q
      obtain rfl : u = Value.bool true := r2
      refine ⟨rfl, OldK.of_keep fun c ob e => ?_, os, bare⟩
      rcases only c with z | ⟨o2, xs, z⟩
      · exact un.keep c ob e z (by intro h; cases h) (by simp)
      · obtain ⟨k1, _⟩ := hok c _ z
        obtain ⟨k2, _⟩ := hok2 c _ (un.frzs c o2 _ z)
        rw [e] at k1
        cases k1
        exact k2
/-- the law, called with its script -/
theorem end_call {P : Program} {w : World} {K : PySem.W.Frag} {mg mb : Str → Option Value} {Z : Ad} {G : List (Str × GK)} {cs : List CI} {T : Tb} {n f : Nat} {fa a : Addr} {sh : Shared} {its : List Value} {ns : List Int}
    (hK : K.In sh.heap) (hG : sh.heap.Ns mainGlobals mg) (hB : sh.heap.Ns builtinsNs mb) (hBB : ∀ z : Str, z ≠ "__name__" → mb z = bootBuiltins z) (hL : sh.heap.NoLimit) (hgen : sh.gens = #[])
    (hobj : sh.heap.get? a = some { cls := .type "list", data := .seq its.toArray }) (hint : IntsAre its ns) (hlen : ns.length ≤ sizeLine) (room : Room (n + 3) callerA) (M : NameF K mg Z G cs T) (hf : Z.fn f = some fa) (hZ : Z.rs = [])
    (run : (calN T n).fn f false [.kl (ns.map .int)] [] = .ok (.bl true) []) :
    codeAny (model P w) callerA (.call (.ref fa) ⟨[.ref a], []⟩)
      (fun r s' => r = .ok (.ret (.bool true)) ∧ OldK sh.heap s'.heap ∧ s'.os = sh.os ∧ AllBare s'.gens) sh := by
  have rv : Vals (ns.map V.int) its := vals_ints hint
  have go := @end_core P w K mg mb Z G cs T n f fa a sh its ns hK hG hB hBB hL hgen hobj room M hf hZ run
  cases hk : K.lookup a with
  | some ob =>
    have e := hK a ob hk
    rw [hobj] at e
    cases e
    refine go (fun _ => none) (fun _ => .inl rfl) (fun c u z => by cases z) (fun c z => absurd rfl z) (fun z => absurd rfl z) (.inr (.inr ⟨_, its.toArray, _, hk, rfl, rfl, rfl, ?_, by simpa using rv⟩))
    rw [List.size_toArray, hint.length]
    exact hlen
  | none =>
    refine go (fun c => if c = a then some (.frz { cls := .type "list", data := .seq its.toArray } (.lst (ns.map V.int))) else none) (fun c => ?_) (fun c u z => ?_) (fun c z => ?_) (fun _ => hk) (.inl ⟨_, if_pos rfl, ⟨fun ⟨k, e⟩ => (by cases e), fun z => (by rw [hZ] at z; cases z)⟩⟩)
    · by_cases hc : c = a
      · exact .inr ⟨_, _, if_pos hc⟩
      · exact .inl (if_neg hc)
    · by_cases hc : c = a
      · have z2 := (if_pos hc).symm.trans z
        cases z2
        subst hc
        exact ⟨hobj, by rw [List.length_map]; exact hlen, its, _, rv, hobj⟩
      · have z2 := (if_neg hc).symm.trans z
        cases z2
    · by_cases hc : c = a
      · exact hc
      · exact absurd (if_neg hc) z
/-- the goal that the head leaves -/
theorem walk_mp {l : PySem.W.OpenLaw} {most n f : Nat} {q : Program} {loose : List Str} {XP : (Str → Option Value) → Heap → Prop} {YP : World → Heap → Prop} {d : DefRec} {T : Tb} {G : List (Str × GK)} {cs : List CI}
    (hn : l.most = some most) (hn2 : most ≤ sizeLine) (hdf : d.params.defaults = []) (room : Room (n + 3) callerA)
    (F : ∀ (w : World) (mg : Str → Option Value) (fa : Addr) (h : Heap), YP w h → h.Ns mainGlobals mg → mg d.name = some (.ref fa) → ∃ (K : PySem.W.Frag) (Z : Ad), K.In h ∧ NameF K mg Z G cs T ∧ Z.fn f = some fa ∧ Z.rs = [])
    (run : ∀ ns : List Int, ns.length ≤ most → (calN T n).fn f false [.kl (ns.map .int)] [] = .ok (.bl true) []) :
    PySem.W.WalkO q loose XP YP l.row.toRowW d [] (fun f vs => PySem.call f vs) := by
  refine Att.attach_call hn hdf fun w s0 s1 mg mb fa o pm cd doc a vs ns Gd Y ho hd hcd hmg hobj hints hlen hg => ?_
  obtain ⟨K, Z, KX, M, hf, hZ⟩ := F w mg fa _ Y Gd.T.g hmg
  exact end_call KX Gd.T.g Gd.T.b Gd.T.builtins Gd.T.nolimit hg hobj hints (Nat.le_trans hlen hn2) room M hf hZ (run ns hlen)
end MP

set_option autoImplicit false
set_option linter.all false
set_option maxRecDepth 100000
/-! Mx4: methods are called; errors are made. -/
namespace MP
open PySem PySem.Spec PyProof.Rows L2

/-! ### o.m(..), whatever o is -/
theorem mcall {prog : Program} {w : World} {A : Around} {E : Value → Shared → Prop} {s : Shared} {env : PySem.Env} {o : Expr} {name : Str} {apos cpos : Pos} {xs : List Expr} {Q : Value → Shared → Prop}
    (hb : attributeBase o name env (eval o env) = eval o env) (hs : noStar xs = true) (hl : xs.length < 30) (hline : (apos.endLine == cpos.line) = true)
    (h : wpAny (model prog w) A (eval o env) (fun ov s1 => ∀ pl : Sem Bool, wpAny (model prog w) A (getMethod ov name pl) (fun fx s2 => wpAny (model prog w) A (callWith cpos fx.1 fx.2 (backTo cpos (starEach xs env)) []) Q E s2) E s1) E s) :
    wpAny (model prog w) A (eval (.Call (.Attribute o name apos) xs [] cpos) env) Q E s := by
  rw [arm_eval_Call, hb]
  refine wpAny_bind (wpAny_mono h (fun ov s1 h1 => ?_) fun _ _ e => e)
  refine wpAny_bind (wpAny_standAt ?_)
  have hform : methodCallForm (xs.length + ([] : List Keyword).length) (backTo cpos (starEach xs env)) (backToKw cpos (keywordEach [] env)) = true := noStar_few hs hl
  have hpos : methodCallPos true o env apos cpos = pure cpos := by unfold methodCallPos; simp [hline]
  unfold methodCall
  rw [hform, hpos]
  refine wpAny_bind (wpAny_holding ?_)
  refine wpAny_mono (h1 _) (fun fx s2 h2 => ?_) fun _ _ e => e
  exact wpAny_bind (wpAny_pure h2)

/-! ### an own error's class -/
/-- D.m, a def read off a class -/
structure CFn (K : PySem.W.Frag) (D : Addr) (m : Str) (g : Addr) : Prop where
  rd : ClX.CRead K D (.type "type")
  at_ : PySem.W.findCls K (.ref D) (.type "type") m = some (.val (.ref g))
  kp : PySem.W.keepIn K (.ref g) = true
section
variable {X : Cx} {CX : CXT} {k : Nat} {D g : Addr} {fd : FuncData} {ps : List Str} {sp : Sp} {dvs : List V} {ds : List Value} {E : XK} {y m : Str} {p pos apos : Pos} {e : Expr} {es : List Expr} {t : TA}
/-- D.m(e, ..), D a class -/
theorem pe_cfn (c : CFn X.K D m g) (F : FnOk X.prog X.w X.K X.mg X.base CX k g fd ps sp) (hr : Room k X.A) (hg : Gl X y) (hm : X.mg y = some (.ref D)) (hb : Binds X.K fd ps ds) (hd : Vals dvs ds) (hx : Passes CX X E) (ha : PA X (e :: es) t)
    (hdb : (y == ("__debug__" : Str)) = false) (hs : noStar (e :: es) = true) (hl : (e :: es).length < 30) (hline : (apos.endLine == pos.line) = true) : PE X (.Call (.Attribute (.Name y p) m apos) (e :: es) [] pos) (tCall sp dvs E t) := by
  refine ⟨fun pins s σ H Q I h => ?_⟩
  refine mcall (base_ok rfl) hs hl hline (ld_glob I hg hm (fun pl => ?_) hdb)
  refine PySem.W.method_cls I.kIn c.rd.ga ?_
  refine PySem.W.cls_value I.kIn c.rd.rd c.at_ rfl ?_
  obtain ⟨n1, n2⟩ := noStar_cons hs
  have I1 := I.tok (s.toks + 1)
  refine PySem.W.callWith_K (first := []) (h₀ := X.base) I.ok.mod.kin c.kp (thn (ha.run pos pins _ σ H _ I1 h) fun us s2 ⟨vs, H2, I2, r, q2⟩ => ⟨I2.kIn, ?_⟩) (star_cons n1) (noStar_back n2)
  exact run_fn F hr hb hd hx I2 r q2
end
/-- a def's names are all its own -/
def scB (N : List Str) (sc : Scope) : Bool := (match sc.kind with
    | .function => true
    | _ => false) && !sc.isCoroutine && !sc.isGenerator && (N.all fun x => decide (sc.names.lookup x = some .local)) && (sc.names.all fun y => match y.2 with
      | .free => false
      | _ => true)
theorem scB_ok {N : List Str} {sc : Scope} (h : scB N sc = true) (hd : N.Nodup) : FnScope N N sc ∧ ∀ x ∈ N, sc.names.lookup x = some .local := by
  obtain ⟨h, h5⟩ := and2 h
  obtain ⟨h, h4⟩ := and2 h
  obtain ⟨h, h3⟩ := and2 h
  obtain ⟨h1, h2⟩ := and2 h
  have loc : ∀ x ∈ N, sc.names.lookup x = some .local := fun x hx => of_decide_eq_true (List.all_eq_true.mp h4 x hx)
  refine ⟨⟨?_, by simpa using h2, by simpa using h3, hd, List.take_length, fun x hx => .inl (loc x hx), fun y hy e => ?_⟩, loc⟩
  · split at h1
    · assumption
    · cases h1
  · have := List.all_eq_true.mp h5 y hy
    rw [e] at this
    cases this
def parB (N : List Str) (p : Arguments) : Bool := p.posonlyargs.isEmpty && p.vararg.isNone && p.kwonlyargs.isEmpty && p.kwarg.isNone && decide (p.args.map (·.arg) = N)
/-- the base class's __init__ -/
def iniB : List Stmt → Bool
  | [.Assign [.Attribute (.Name a _) f _] (.Name x _) _, .Assign [.Attribute (.Name b _) g _] (.Name y _) _] => decide (a = ("self" : Str)) && decide (f = ("word" : Str)) && decide (x = ("word" : Str)) && decide (b = ("self" : Str)) && decide (g = ("place" : Str)) && decide (y = ("place" : Str))
  | _ => false
theorem iniB_ok {body : List Stmt} (h : iniB body = true) : ∃ p1 p2 p3 p4 p5 p6 p7 p8, body = [.Assign [.Attribute (.Name "self" p1) "word" p2] (.Name "word" p3) p4, .Assign [.Attribute (.Name "self" p5) "place" p6] (.Name "place" p7) p8] := by
  unfold iniB at h
  split at h
  · obtain ⟨h, h6⟩ := and2 h
    obtain ⟨h, h5⟩ := and2 h
    obtain ⟨h, h4⟩ := and2 h
    obtain ⟨h, h3⟩ := and2 h
    obtain ⟨h1, h2⟩ := and2 h
    have h1 := of_decide_eq_true h1
    have h2 := of_decide_eq_true h2
    have h3 := of_decide_eq_true h3
    have h4 := of_decide_eq_true h4
    have h5 := of_decide_eq_true h5
    have h6 := of_decide_eq_true h6
    subst h1 h2 h3 h4 h5 h6
    exact ⟨_, _, _, _, _, _, _, _, rfl⟩
  · cases h
/-- an error's __init__ -/
def erB (base : Str) (w : List Nat) : List Stmt → Bool
  | [.Expr (.Call (.Attribute (.Name y _) m p2) [.Name a _, .Constant (.str z) _ _, .Name b _] [] p6) _] => decide (y = base) && decide (m = ("__init__" : Str)) && decide (a = ("self" : Str)) && decide (z = ⟨w.toArray⟩) && decide (b = ("place" : Str)) && p2.endLine == p6.line
  | _ => false
theorem erB_ok {base : Str} {w : List Nat} {body : List Stmt} (h : erB base w body = true) : ∃ p1 p2 p3 p4 p5 p6 p7 j, body = [.Expr (.Call (.Attribute (.Name base p1) "__init__" p2) [.Name "self" p3, .Constant (.str ⟨w.toArray⟩) j p4, .Name "place" p5] [] p6) p7] ∧ (p2.endLine == p6.line) = true := by
  unfold erB at h
  split at h
  · obtain ⟨h, h6⟩ := and2 h
    obtain ⟨h, h5⟩ := and2 h
    obtain ⟨h, h4⟩ := and2 h
    obtain ⟨h, h3⟩ := and2 h
    obtain ⟨h1, h2⟩ := and2 h
    have h1 := of_decide_eq_true h1
    have h2 := of_decide_eq_true h2
    have h3 := of_decide_eq_true h3
    have h4 := of_decide_eq_true h4
    have h5 := of_decide_eq_true h5
    subst h1 h2 h3 h4 h5
    exact ⟨_, _, _, _, _, _, _, _, rfl, h6⟩
  · cases h
/-- word and place are set -/
def spIni (K : PySem.W.Frag) : Sp := fun vs H Q _ => ∃ (a C : Addr) (wv pv : V), vs = [.ref a, wv, pv] ∧ OexC K C ∧ PySem.W.findIn K (.ref C) "word" = some none ∧ PySem.W.findIn K (.ref C) "place" = some none ∧ H a = some (exo a C none) ∧
  ∀ d, H d = none → d ≠ a → Q .non (upd (upd (upd H d (exd d [("word", wv)])) a (exo a C (some d))) d (exd d [("place", pv), ("word", wv)]))
def spEr (K : PySem.W.Frag) (w : List Nat) : Sp := fun vs H Q _ => ∃ (a C : Addr) (pv : V), vs = [.ref a, pv] ∧ OexC K C ∧ PySem.W.findIn K (.ref C) "word" = some none ∧ PySem.W.findIn K (.ref C) "place" = some none ∧ H a = some (exo a C none) ∧
  ∀ d, H d = none → d ≠ a → Q .non (upd (upd (upd H d (exd d [("word", .str ⟨w.toArray⟩)])) a (exo a C (some d))) d (exd d [("place", pv), ("word", .str ⟨w.toArray⟩)]))
section
variable {P : Program} {w : World} {K : PySem.W.Frag} {mg : Str → Option Value} {base : Heap} {f g D : Addr} {fd gd : FuncData} {x q : Str} {pa pb : Arguments} {body : List Stmt} {sc : Scope} {dv dw : List V} {kws kwt : List (Str × V)}
theorem ok_ini (F : FunD K x q pa body sc dv kws f fd) (hs : scB ["self", "word", "place"] sc = true) (hb : iniB body = true) : FnOk P w K mg base (L2.CX P w) 1 f fd ["self", "word", "place"] (spIni K) := by
  obtain ⟨S, loc⟩ := scB_ok hs (by decide +kernel)
  have l0 := loc "self" (by decide +kernel)
  have l1 := loc "word" (by decide +kernel)
  have l2 := loc "place" (by decide +kernel)
  obtain ⟨p1, p2, p3, p4, p5, p6, p7, p8, rfl⟩ := iniB_ok hb
  refine F.ok S (fun vs H Q E h => ?_) (fun cdv A outer s H vs Q E hr h => ?_)
  · obtain ⟨a, C, wv, pv, rfl, _⟩ := h
    rfl
  · refine ⟨_, pss_cons (ps_ost (pe_var (i := 0) rfl (.inl l0) (by decide +kernel) (by decide +kernel)) (pe_var (i := 1) rfl (.inl l1) (by decide +kernel) (by decide +kernel))) (pss_one (ps_ost (pe_var (i := 0) rfl (.inl l0) (by decide +kernel) (by decide +kernel)) (pe_var (i := 2) rfl (.inl l2) (by decide +kernel) (by decide +kernel)))), ?_⟩
    obtain ⟨a, C, wv, pv, rfl, T, n1, n2, ha, hQ⟩ := h
    refine ⟨_, rfl, _, rfl, a, C, rfl, T, n1, .inl ⟨ha, fun d hd hne => ?_⟩⟩
    have e1 : upd (upd H d (exd d [("word", wv)])) a (exo a C (some d)) d = some (exd d [("word", wv)]) := by rw [upd_ne hne, upd_same]
    exact ⟨_, rfl, _, rfl, a, C, rfl, T, n2, .inr ⟨d, _, upd_same, e1, (by show 1 ≤ 900; decide), hQ d hd hne⟩⟩
/-- three arguments, two | one: the last one's default is None -/
theorem par3 {a b c : Str} (h : parB [a, b, c] pa = true) : ∃ e1 e2 e3 p1 p2 p3 k d, pa = ⟨[], [⟨a, e1, p1⟩, ⟨b, e2, p2⟩, ⟨c, e3, p3⟩], none, [], k, none, d⟩ := by
  obtain ⟨a1, a2, a3, a4, a5, a6, a7⟩ := pa
  obtain ⟨h, h5⟩ := and2 h
  obtain ⟨h, h4⟩ := and2 h
  obtain ⟨h, h3⟩ := and2 h
  obtain ⟨h1, h2⟩ := and2 h
  have g1 : a1 = [] := List.isEmpty_iff.mp h1
  have g2 : a3 = none := Option.isNone_iff_eq_none.mp h2
  have g3 : a4 = [] := List.isEmpty_iff.mp h3
  have g4 : a6 = none := Option.isNone_iff_eq_none.mp h4
  subst g1 g2 g3 g4
  have h5 : a2.map (·.arg) = [a, b, c] := of_decide_eq_true h5
  match a2, h5 with
  | [⟨x, e1, p1⟩, ⟨y, e2, p2⟩, ⟨z, e3, p3⟩], h5 =>
    simp only [List.map_cons, List.map_nil, List.cons.injEq, and_true] at h5
    obtain ⟨rfl, rfl, rfl⟩ := h5
    exact ⟨_, _, _, _, _, _, _, _, rfl⟩
theorem par2 {a b : Str} (h : parB [a, b] pa = true) : ∃ e1 e2 p1 p2 k d, pa = ⟨[], [⟨a, e1, p1⟩, ⟨b, e2, p2⟩], none, [], k, none, d⟩ := by
  obtain ⟨a1, a2, a3, a4, a5, a6, a7⟩ := pa
  obtain ⟨h, h5⟩ := and2 h
  obtain ⟨h, h4⟩ := and2 h
  obtain ⟨h, h3⟩ := and2 h
  obtain ⟨h1, h2⟩ := and2 h
  have g1 : a1 = [] := List.isEmpty_iff.mp h1
  have g2 : a3 = none := Option.isNone_iff_eq_none.mp h2
  have g3 : a4 = [] := List.isEmpty_iff.mp h3
  have g4 : a6 = none := Option.isNone_iff_eq_none.mp h4
  subst g1 g2 g3 g4
  have h5 : a2.map (·.arg) = [a, b] := of_decide_eq_true h5
  match a2, h5 with
  | [⟨x, e1, p1⟩, ⟨y, e2, p2⟩], h5 =>
    simp only [List.map_cons, List.map_nil, List.cons.injEq, and_true] at h5
    obtain ⟨rfl, rfl⟩ := h5
    exact ⟨_, _, _, _, _, _, rfl⟩
theorem bind_ini (F : FunD K x q pa body sc [.non] [] f fd) (h : parB ["self", "word", "place"] pa = true) : ∃ ds, Vals [] ds ∧ Binds K fd ["self", "word", "place"] ds := by
  obtain ⟨e1, e2, e3, p1, p2, p3, k, d, rfl⟩ := par3 h
  exact F.binds1 3 1 (by simp) rfl fun T kV doc pm an cdv ct us its h1 h2 => match us, its, h1, h2 with
    | [_, _, _], [_], _, _ => ⟨_, rfl, rfl⟩
theorem bind_er2 (F : FunD K x q pa body sc [.non] [] f fd) (h : parB ["self", "place"] pa = true) : ∃ ds, Vals [] ds ∧ Binds K fd ["self", "place"] ds := by
  obtain ⟨e1, e2, p1, p2, k, d, rfl⟩ := par2 h
  exact F.binds1 2 1 (by simp) rfl fun T kV doc pm an cdv ct us its h1 h2 => match us, its, h1, h2 with
    | [_, _], [_], _, _ => ⟨_, rfl, rfl⟩
theorem bind_er1 (F : FunD K x q pa body sc [.non] [] f fd) (h : parB ["self", "place"] pa = true) : ∃ ds, Vals [V.non] ds ∧ Binds K fd ["self", "place"] ds := by
  obtain ⟨e1, e2, p1, p2, k, d, rfl⟩ := par2 h
  exact F.binds1 1 0 (by simp) rfl fun T kV doc pm an cdv ct us its h1 h2 => match us, its, h1, h2 with
    | [_], [_], _, _ => ⟨_, rfl, rfl⟩
/-- nothing is let out -/
theorem pass_none {X : Cx} : Passes (L2.CX P w) X (fun _ _ _ => False) := fun pins σ H s e s' I c => by
  obtain ⟨a, B, H', cls, d, rfl, fl, hok, ub, na, os, ag, hE⟩ := c
  exact hE.elim
theorem vals_nil {ds : List Value} (h : Vals [] ds) : ds = [] := by cases h; rfl
theorem ok_er {wd : List Nat} {base' : Str} (F : FunD K x q pa body sc dv kws f fd) (hs : scB ["self", "place"] sc = true) (hg : glB sc base' = true) (hb : erB base' wd body = true) (hm : mg base' = some (.ref D)) (c : CFn K D "__init__" g) (G : FnOk P w K mg base (L2.CX P w) 1 g gd ["self", "word", "place"] (spIni K)) (bn : ∃ ds, Vals [] ds ∧ Binds K gd ["self", "word", "place"] ds) :
    FnOk P w K mg base (L2.CX P w) 2 f fd ["self", "place"] (spEr K wd) := by
  obtain ⟨S, loc⟩ := scB_ok hs (by decide +kernel)
  have l0 := loc "self" (by decide +kernel)
  have l1 := loc "place" (by decide +kernel)
  obtain ⟨p1, p2, p3, p4, p5, p6, p7, j, rfl, hline⟩ := erB_ok hb
  obtain ⟨ds, v1, b1⟩ := bn
  have hg2 : sc.names.lookup base' = some .globalImplicit ∧ base' ≠ ("__name__" : Str) ∧ (base' == ("__debug__" : Str)) = false := by
    unfold glB at hg
    simp only [Bool.and_eq_true, decide_eq_true_eq, beq_iff_eq] at hg
    exact ⟨hg.1.1, hg.1.2, by simpa using hg.2⟩
  refine F.ok S (fun vs H Q E h => ?_) (fun cdv A outer s H vs Q E hr h => ?_)
  · obtain ⟨a, C, pv, rfl, _⟩ := h
    rfl
  · refine ⟨_, pss_one (ps_expr (pe_cfn (E := fun _ _ _ => False) c G hr hg2.1 hm b1 v1 pass_none (pa_cons (pe_var (i := 0) rfl (.inl l0) (by decide +kernel) (by decide +kernel)) (pa_cons pe_str (pa_cons (pe_var (i := 1) rfl (.inl l1) (by decide +kernel) (by decide +kernel)) pa_nil))) hg2.2.2 rfl (by show 3 < 30; decide) hline)), ?_⟩
    obtain ⟨a, C, pv, rfl, T, n1, n2, ha, hQ⟩ := h
    exact ⟨_, rfl, _, rfl, a, C, _, _, rfl, T, n1, n2, ha, fun d hd hne => hQ d hd hne⟩
/-- what a def leaves is what stood, and a new dict -/
theorem hp_made {H : Hp} {a C d : Addr} {f1 f2 : List (Str × V)} (ha : H a = none) (hd : d ≠ a) : upd (del (upd (upd (upd (upd H a (exo a C none)) d (exd d f1)) a (exo a C (some d))) d (exd d f2)) a) d (.xd f2) = upd H d (.xd f2) := by
  funext b
  by_cases h1 : b = d
  · subst h1; rw [upd_same, upd_same]
  · rw [upd_ne h1, upd_ne h1]
    by_cases h2 : b = a
    · subst h2; rw [del_same, ha]
    · rw [del_ne h2, upd_ne h1, upd_ne h2, upd_ne h1, upd_ne h2]
/-- an error's class is called -/
theorem run_er {X : Cx} {wd : List Nat} {C : Addr} (T : OexC X.K C) (n1 : PySem.W.findIn X.K (.ref C) "word" = some none) (n2 : PySem.W.findIn X.K (.ref C) "place" = some none) (iC : PySem.W.findIn X.K (.ref C) "__init__" = some (some (.ref f))) (tI : PySem.W.typeIn X.K (.ref f) = some (.type "function"))
    (F : FnOk X.prog X.w X.K X.mg X.base (L2.CX X.prog X.w) 2 f fd ["self", "place"] (spEr X.K wd)) (hr : Room 3 X.A) {dvs : List V} {ds : List Value} (hd : Vals dvs ds) (hb : Binds X.K fd ["self", "place"] ds) {pins : List (Addr × Obj)} {s : Shared} {σ : L2.St} {H : Hp} {Q : XK} {us : List Value} {vs : List V} {pv : V}
    (I : Inv X pins σ H s) (r : Vals vs us) (hv : vs ++ dvs = [pv]) (q : ∀ (d : Addr) (fs : List (Str × V)), H d = none → fs.lookup ("word" : Str) = some (.str ⟨wd.toArray⟩) → fs.lookup ("place" : Str) = some pv → Q (.ref C) (some d) (upd H d (.xd fs))) :
    wpAny (model X.prog X.w) X.A (call (.ref C) us) (MkP X pins σ Q) X.xe s := by
  obtain ⟨nm, qn, N, bs, bm, sn, sub, ab, col, dd, k0, k1, k2, k3, k5, hC, hbm⟩ := id T.cls
  obtain ⟨h0, g0, d0, t0, o0⟩ := s
  have sz : h0.objs.size ≤ h0.objs.size + 1 := Nat.le_succ _
  have fresh : H (h0.objs.size + 1) = none := I.hok.fresh sz
  have keep : ∀ b o, h0.get? b = some o → ((h0.push (PySem.W.kdv_tup us)).push (PySem.HandSPX.excO C h0.objs.size)).get? b = some o := fun b o e => Heap.get?_push_of_some _ (Heap.get?_push_of_some _ e)
  have there : ((h0.push (PySem.W.kdv_tup us)).push (PySem.HandSPX.excO C h0.objs.size)).get? (h0.objs.size + 1) = some (PySem.HandSPX.excO C h0.objs.size) := by heap_get
  have J : Inv X pins σ (upd H (h0.objs.size + 1) (exo (h0.objs.size + 1) C none)) ⟨(h0.push (PySem.W.kdv_tup us)).push (PySem.HandSPX.excO C h0.objs.size), g0, d0, t0, o0⟩ :=
    I.laid (t' := t0) (a := h0.objs.size + 1) (o := exo (h0.objs.size + 1) C none) (h' := (h0.push (PySem.W.kdv_tup us)).push (PySem.HandSPX.excO C h0.objs.size)) keep sz (exo_ok there)
  have rv : Vals (V.ref (h0.objs.size + 1) :: (vs ++ dvs)) (Value.ref (h0.objs.size + 1) :: (us ++ ds)) := .cons rfl (r.append hd)
  have hl : (Value.ref (h0.objs.size + 1) :: us ++ ds).length = (["self", "place"] : List Str).length := by
    have e := rv.length
    rw [hv] at e
    exact e.symm
  have small : us.length ≤ sizeLine := by
    have e := r.length
    have e2 := congrArg List.length hv
    rw [List.length_append] at e2
    rw [sizeLine_eq]
    simp only [List.length_singleton] at e2
    omega
  have want : spEr X.K wd (V.ref (h0.objs.size + 1) :: (vs ++ dvs)) (upd H (h0.objs.size + 1) (exo (h0.objs.size + 1) C none)) (fun v H2 => v = .non ∧ ∃ (d : Addr) (fs : List (Str × V)), H2 (h0.objs.size + 1) = some (exo (h0.objs.size + 1) C (some d)) ∧ H2 d = some (exd d fs) ∧ H d = none ∧ Q (.ref C) (some d) (upd (del H2 (h0.objs.size + 1)) d (.xd fs))) (fun _ _ _ => False) := by
    rw [hv]
    refine ⟨_, C, pv, rfl, T, n1, n2, upd_same, fun d hd hne => ?_⟩
    rw [upd_ne hne] at hd
    refine ⟨rfl, d, _, by rw [upd_ne (Ne.symm hne), upd_same], upd_same, hd, ?_⟩
    rw [hp_made fresh hne]
    exact q d _ hd rfl rfl
  refine wpAny_call (PySem.HandSPX.call_own PySem.F.excBase_ValueError (fun Y => PySem.HandSPX.refsVE_contains Y bm hbm) (I.kIn _ _ hC) (PySem.W.looks_findIn I.kIn iC) (fun self => PySem.W.bind_fn I.kIn self tI) small ?_)
  refine codeAny_mono (F.run _ X.stack _ _ ⟨Value.ref (h0.objs.size + 1) :: us, []⟩ (Value.ref (h0.objs.size + 1) :: (us ++ ds)) _ _ (fun _ _ _ => False) (hr.make C us []) (J.env0.make C us []) (hb _ (Value.ref (h0.objs.size + 1) :: us) J.kIn hl) rv want) fun res s2 hq => ?_
  cases res with
  | error er => exact pass_none pins σ _ _ er s2 J hq
  | ok fl =>
    cases fl with
    | ret u =>
      obtain ⟨v, H2, os2, bare2, un2, hok2, rv2, ev, d, fs, ea, ed, hd1, q2⟩ := hq
      subst ev
      obtain ⟨h2, g2, d2, t2, o2⟩ := s2
      exact ⟨rv2, mk_end (raises_own T.exC T.tyC) I sz keep un2 hok2 os2 bare2 ea ed hd1 q2⟩
    | next => exact hq.elim
    | brk => exact hq.elim
    | cont => exact hq.elim
theorem mk_ok {wd : List Nat} {C : Addr} (T : OexC K C) (n1 : PySem.W.findIn K (.ref C) "word" = some none) (n2 : PySem.W.findIn K (.ref C) "place" = some none) (iC : PySem.W.findIn K (.ref C) "__init__" = some (some (.ref f))) (tI : PySem.W.typeIn K (.ref f) = some (.type "function"))
    (F : FnOk P w K mg base (L2.CX P w) 2 f fd ["self", "place"] (spEr K wd)) (b2 : ∃ ds, Vals [] ds ∧ Binds K fd ["self", "place"] ds) (b1 : ∃ ds, Vals [V.non] ds ∧ Binds K fd ["self", "place"] ds) : MkE P w K mg base C wd := by
  intro X y p pos hP hw hK hmg hb room gl hdb hm
  obtain ⟨d2, v2, b2⟩ := b2
  obtain ⟨d1, v1, b1⟩ := b1
  subst hP hw hK hmg hb
  refine ⟨fun pins s σ H Q I q => ?_, fun e te hs pe pins s σ H Q I q => ?_⟩
  · refine wpAny_Call_Name_kw (ld_glob I gl hm ?_ hdb)
    exact PySem.W.callWith_K0 I.kIn T.kC (run_er T n1 n2 iC tI F room v1 b1 (us := []) (vs := []) I .nil rfl q)
  · refine wpAny_Call_Name_kw (ld_glob I gl hm ?_ hdb)
    have A := (pa_cons pe pa_nil (star_cons hs)).run pos pins s σ H (fun vs H1 => match vs with
      | [v] => ∀ (d : Addr) (fs : List (Str × V)), H1 d = none → fs.lookup ("word" : Str) = some (.str ⟨wd.toArray⟩) → fs.lookup ("place" : Str) = some v → Q (.ref C) (some d) (upd H1 d (.xd fs))
      | _ => False) I q
    refine PySem.W.callWith_K (h₀ := X.base) I.ok.mod.kin T.kC (thn A fun us s1 ⟨vs, H1, I1, r, q1⟩ => ⟨I1.kIn, ?_⟩) (star_cons hs) (by rfl)
    match vs, q1, r with
    | [v], q1, r => exact run_er T n1 n2 iC tI F room v2 b2 I1 r rfl q1
end
end MP

set_option autoImplicit false
set_option linter.all false
set_option maxRecDepth 100000
/-! My0: an own error's class is called with keywords. -/
namespace PySem.MPK
open PySem.W PySem.Calls PyProof.Rows PySem.HandSPX
section
variable {M : Model} {A : Around} {E : Value → Shared → Prop} {h : Heap} {g : Array GenState} {d : Drawn} {t : Nat} {os : OsState}
variable {nm q : Str} {C N : Addr} {bs bm bmB : List Value} {hdct : Bool} {sn : List Str} {sub : List Value} {ab : Bool} {col : Option Bool} {dd : Option Addr} {k0 k1 k2 k3 k5 : Option Value} {B newId initId : String}
theorem chk_newK (F : ExcBaseFacts B newId initId bmB) (hT : ∀ X : String, bm.contains (.type X) = bmB.contains (.type X)) {rest : List Value} {kw : List (Str × Value)} {Q : Unit → Shared → Prop}
    (hC : h.get? C = some (excClassObj nm q C N bs bm hdct sn sub ab col dd k0 k1 k2 k3 k5 newId)) (hq : Q () ⟨h, g, d, t, os⟩) : wpAny M A (checkBuiltinCall newId ⟨.ref C :: rest, kw⟩) Q E ⟨h, g, d, t, os⟩ := by
  have hcont : (Value.ref C :: bm).contains (.type B) = true := by rw [List.contains_cons, hT, F.hasB, Bool.or_true]
  have hstar := F.noStar
  simp only [checkBuiltinCall, F.newKind, F.newSplit, F.newRow]
  repeat (first | refine wpAny_loadPart_at hC ?_ | (refine wpAny_isSubtype_exc hC ?_; rw [hcont]) | refine wpAny_staticBase_exc hC ?_ | refine wpAny_madeBy_exc hC ?_ | simp only [bne_self_eq_false, Bool.false_eq_true, if_false] | wp_step)
  exact hq
end
section
variable {prog : Program} {w : World} {A : Around} {E : Value → Shared → Prop} {R : Result → Shared → Prop} {h : Heap} {g : Array GenState} {d : Drawn} {t : Nat} {os : OsState}
variable {nm q : Str} {C N : Addr} {bs bm bmB : List Value} {hdct : Bool} {sn : List Str} {sub : List Value} {ab : Bool} {col : Option Bool} {dd : Option Addr} {k0 k1 k2 k3 k5 : Option Value} {B newId initId : String}
theorem newK (F : ExcBaseFacts B newId initId bmB) (hT : ∀ X : String, bm.contains (.type X) = bmB.contains (.type X)) {rest : List Value} {kw : List (Str × Value)}
    (hC : h.get? C = some (excClassObj nm q C N bs bm hdct sn sub ab col dd k0 k1 k2 k3 k5 newId))
    (hq : R (.ok (.ret (.ref (h.objs.size + 1)))) ⟨(h.push { cls := .type "tuple", data := .seq rest.toArray }).push
      { cls := .ref C, data := .fields #[.ref h.objs.size, .none, .none, .none, .bool false, .none] }, g, d, t, os⟩) (hrest : rest.length ≤ sizeLine) :
    codeAny (model prog w) A (.builtin newId ⟨.ref C :: rest, kw⟩) R ⟨h, g, d, t, os⟩ := by
  have hends := F.ends
  have hcB : (Value.ref C :: bm).contains (.type B) = true := by rw [List.contains_cons, hT, F.hasB, Bool.or_true]
  have hcA : (Value.ref C :: bm).contains (.type "AttributeError") = false := by rw [List.contains_cons, hT, F.noAttr]; rfl
  have hcN : (Value.ref C :: bm).contains (.type "NameError") = false := by rw [List.contains_cons, hT, F.noName]; rfl
  refine codeAny_builtinAt F.entry ?_
  unfold Builtin.«BaseException.__new__»
  refine wpAt_bind ?_
  show wpAt _ _ _ (stack >>= _) _ _ _
  refine wpAt_bind (wpAt_stack fun p below => wpAt_of_wpAny ?_)
  wp_walk
  refine wpAt_of_wpAny ?_
  rw [F.owner]
  repeat (first | with_reducible refine wpAny_madeHere_exc F.canon hC ?_ | with_reducible refine wpAny_loadPart_at hC ?_ | (with_reducible refine wpAny_isSubtype_exc hC ?_; first | rw [hcB] | rw [hcA] | rw [hcN]) | wp_step)
  show R _ _
  rw [Heap.size_push]
  exact hq

theorem type_callK (F : ExcBaseFacts B newId initId bmB) (hT : ∀ X : String, bm.contains (.type X) = bmB.contains (.type X)) {rest : List Value} {kw : List (Str × Value)} {fI : Addr} {Q : Fin → Shared → Prop}
    (hC : h.get? C = some (excClassObj nm q C N bs bm hdct sn sub ab col dd k0 k1 k2 k3 k5 newId))
    (hi : W.Looks (model prog w) h (typeLookup (.ref C) "__init__") (some (.ref fI))) (hb : ∀ self, W.Looks (model prog w) h (bindSpecial (.ref fI) self) (.ref fI, [self])) (hrest : rest.length ≤ sizeLine)
    (hq : codeAny (model prog w) A (.call (.ref fI) ⟨.ref (h.objs.size + 1) :: rest, kw⟩)
      (fun r s' => match r with | .ok (.ret v) => v = .none ∧ Q (.done (.ret (.ref (h.objs.size + 1)))) s' | .ok _ => False | .error e => E e s')
      ⟨(h.push (W.kdv_tup rest)).push (excO C h.objs.size), g, d, t, os⟩) :
    wpAny (model prog w) A (Builtin.«type.__call__» ⟨.ref C :: rest, kw⟩) Q E ⟨h, g, d, t, os⟩ := by
  repeat (first | with_reducible refine wpAny_loadPart_at hC ?_ | with_reducible refine wpAny_madeBy_exc hC ?_ | wp_step)
  refine codeAny_call_builtin_code (Code.quiet_builtin _ F.quiet) (chk_newK F hT hC ?_)
  refine newK F hT hC ?_ hrest
  show wpAny _ _ _ _ _ _
  have k : ∀ b o, h.get? b = some o → ((h.push (W.kdv_tup rest)).push (excO C h.objs.size)).get? b = some o := fun b o e => Heap.get?_push_of_some _ (Heap.get?_push_of_some _ e)
  have hC₁ := k _ _ hC
  have hget : ((h.push (W.kdv_tup rest)).push (excO C h.objs.size)).get? (h.objs.size + 1) = some (excO C h.objs.size) := by heap_get
  have hcC : (Value.ref C :: bm).contains (.ref C) = true := by simp
  have i1 := hi.keeps k
  have b1 := (hb (.ref (h.objs.size + 1))).keeps k
  unfold isInstance
  repeat (first | with_reducible refine wpAny_loadPart_at hget ?_ | (with_reducible refine wpAny_isSubtype_exc hC₁ ?_; rw [hcC]) | wp_step)
  show wpAny _ _ (typeLookup (.ref C) _) _ _ _
  refine i1.at ?_
  refine wpAny_holding (wpAny_bind (b1.at ?_))
  refine wpAny_bind (wpAny_call (codeAny_mono hq fun r s' z => ?_))
  rcases r with e | (v | _ | _ | _) <;> first | exact z | exact z.elim | skip
  obtain ⟨rfl, z⟩ := z
  first
    | exact wpAny_pure (wpAny_pure z)
    | (wp_walk; exact z)
theorem chk_tcK {M : Model} {E : Value → Shared → Prop} {rest : List Value} {kw : List (Str × Value)} {Q : Unit → Shared → Prop} (hC : h.get? C = some (excClassObj nm q C N bs bm hdct sn sub ab col dd k0 k1 k2 k3 k5 newId))
    (hq : Q () ⟨h, g, d, t, os⟩) : wpAny M A (checkBuiltinCall "type.__call__" ⟨.ref C :: rest, kw⟩) Q E ⟨h, g, d, t, os⟩ := by
  have f3 := tc_sub
  have hT : (⟨h, g, d, t, os⟩ : Shared).TypeIs (.ref C) "type" := ⟨_, hC, rfl⟩
  simp only [checkBuiltinCall, tc_kind, tc_split]
  repeat (any_goals (first | assumption | with_reducible refine wpAny_loadPart_at hC ?_ | with_reducible refine wpAny_onRaise ?_ | with_reducible refine wpAny_map ?_ | wp_step))
theorem callK (F : ExcBaseFacts B newId initId bmB) (hT : ∀ X : String, bm.contains (.type X) = bmB.contains (.type X)) {rest : List Value} {kw : List (Str × Value)} {fI : Addr}
    (hC : h.get? C = some (excClassObj nm q C N bs bm hdct sn sub ab col dd k0 k1 k2 k3 k5 newId))
    (hi : W.Looks (model prog w) h (typeLookup (.ref C) "__init__") (some (.ref fI))) (hb : ∀ self, W.Looks (model prog w) h (bindSpecial (.ref fI) self) (.ref fI, [self])) (hrest : rest.length ≤ sizeLine)
    (hq : codeAny (model prog w) (A.under (.builtin "type.__call__" ⟨.ref C :: rest, kw⟩)) (.call (.ref fI) ⟨.ref (h.objs.size + 1) :: rest, kw⟩) (W.InitBack (h.objs.size + 1) R)
      ⟨(h.push (W.kdv_tup rest)).push (excO C h.objs.size), g, d, t, os⟩) :
    codeAny (model prog w) A (.call (.ref C) ⟨rest, kw⟩) R ⟨h, g, d, t, os⟩ := by
  have f1 := tc_lookup
  have f2 := tc_bind (.ref C)
  have hTy : (⟨h, g, d, t, os⟩ : Shared).TypeIs (.ref C) "type" := ⟨_, hC, rfl⟩
  refine codeAny_of_tree ?_
  show wpAny _ _ (callAny (.ref C) _) _ _ _
  repeat (any_goals (first | assumption | with_reducible refine wpAny_loadPart_at hC ?_ | wp_step))
  refine ⟨rfl, ?_⟩
  refine codeAny_call_builtin_at (Code.quiet_builtin _ (by decide +kernel)) entry_typeCall (chk_tcK hC (type_callK F hT hC hi hb hrest ?_))
  refine codeAny_mono hq fun r s' z => ?_
  rcases r with e | (v | _ | _ | _) <;> exact z
end
end PySem.MPK

set_option autoImplicit false
set_option linter.all false
set_option maxRecDepth 100000
/-! My2: an error is made and kept. -/
namespace MP
open PySem PySem.Spec PyProof.Rows L2
theorem hp_kept {H : Hp} {a C d : Addr} {f1 f2 : List (Str × V)} (hd : d ≠ a) : upd (upd (upd (upd H a (exo a C none)) d (exd d f1)) a (exo a C (some d))) d (exd d f2) = upd (upd H d (exd d f2)) a (exo a C (some d)) := by
  funext b
  by_cases h1 : b = d
  · subst h1; rw [upd_same, upd_ne hd, upd_same]
  · rw [upd_ne h1]
    by_cases h2 : b = a
    · subst h2; rw [upd_same, upd_same]
    · rw [upd_ne h2, upd_ne h1, upd_ne h2, upd_ne h2, upd_ne h1]
section
variable {K : PySem.W.Frag} {mg : Str → Option Value} {base : Heap} {P : Program} {w : World} {f : Addr} {fd : FuncData}
/-- an error's class is called: what __init__ keeps is told by wish -/
theorem run_erk {X : Cx} {C : Addr} {k : Nat} {ps : List Str} {sp : Sp} (T : OexC X.K C) (iC : PySem.W.findIn X.K (.ref C) "__init__" = some (some (.ref f))) (tI : PySem.W.typeIn X.K (.ref f) = some (.type "function"))
    (F : FnOk X.prog X.w X.K X.mg X.base (L2.CX X.prog X.w) k f fd ps sp) (hr : Room (k + 1) X.A) {pins : List (Addr × Obj)} {s : Shared} {σ : L2.St} {H : Hp} {Q : VK} {us : List Value} {kw : List (Str × Value)} {all : List Value} {vs : List V} {wv pv : V}
    (I : Inv X pins σ H s) (small : us.length ≤ sizeLine) (hb : ∀ (s1 : Shared) (self : Value), X.K.In s1.heap → BindsTo s1 fd ⟨self :: us, kw⟩ (ps.zip (self :: all))) (rv : Vals vs all)
    (hsp : ∀ (a : Addr) (H1 : Hp) (Q1 : VK), H1 a = some (exo a C none) → (∀ d f1 f2, H1 d = none → d ≠ a → List.lookup ("word" : Str) f2 = some wv → List.lookup ("place" : Str) f2 = some pv → Q1 .non (upd (upd (upd H1 d (exd d f1)) a (exo a C (some d))) d (exd d f2))) → sp (.ref a :: vs) H1 Q1 (fun _ _ _ => False))
    (q : ∀ (a d : Addr) (fs : List (Str × V)), H a = none → H d = none → d ≠ a → fs.lookup ("word" : Str) = some wv → fs.lookup ("place" : Str) = some pv → Q (.ref a) (upd (upd H d (exd d fs)) a (exo a C (some d)))) :
    wpAny (model X.prog X.w) X.A (call (.ref C) us kw) (EP X pins σ Q) X.xe s := by
  obtain ⟨nm, qn, N, bs, bm, sn, sub, ab, col, dd, k0, k1, k2, k3, k5, hC, hbm⟩ := id T.cls
  obtain ⟨h0, g0, d0, t0, o0⟩ := s
  have sz : h0.objs.size ≤ h0.objs.size + 1 := Nat.le_succ _
  have fresh : H (h0.objs.size + 1) = none := I.hok.fresh sz
  have keep : ∀ b o, h0.get? b = some o → ((h0.push (PySem.W.kdv_tup us)).push (PySem.HandSPX.excO C h0.objs.size)).get? b = some o := fun b o e => Heap.get?_push_of_some _ (Heap.get?_push_of_some _ e)
  have there : ((h0.push (PySem.W.kdv_tup us)).push (PySem.HandSPX.excO C h0.objs.size)).get? (h0.objs.size + 1) = some (PySem.HandSPX.excO C h0.objs.size) := by heap_get
  have J : Inv X pins σ (upd H (h0.objs.size + 1) (exo (h0.objs.size + 1) C none)) ⟨(h0.push (PySem.W.kdv_tup us)).push (PySem.HandSPX.excO C h0.objs.size), g0, d0, t0, o0⟩ :=
    I.laid (t' := t0) (a := h0.objs.size + 1) (o := exo (h0.objs.size + 1) C none) (h' := (h0.push (PySem.W.kdv_tup us)).push (PySem.HandSPX.excO C h0.objs.size)) keep sz (exo_ok there)
  have want : sp (V.ref (h0.objs.size + 1) :: vs) (upd H (h0.objs.size + 1) (exo (h0.objs.size + 1) C none)) (fun v H2 => v = .non ∧ Q (.ref (h0.objs.size + 1)) H2) (fun _ _ _ => False) := by
    refine hsp _ _ _ upd_same fun d f1 f2 hd hne e1 e2 => ⟨rfl, ?_⟩
    rw [upd_ne hne] at hd
    rw [hp_kept hne]
    exact q _ d f2 fresh hd hne e1 e2
  refine wpAny_call (MPK.callK PySem.F.excBase_ValueError (fun Y => PySem.HandSPX.refsVE_contains Y bm hbm) (I.kIn _ _ hC) (PySem.W.looks_findIn I.kIn iC) (fun self => PySem.W.bind_fn I.kIn self tI) small ?_)
  refine codeAny_mono (F.run _ X.stack _ _ ⟨Value.ref (h0.objs.size + 1) :: us, kw⟩ (Value.ref (h0.objs.size + 1) :: all) _ _ (fun _ _ _ => False) (hr.make C us kw) (J.env0.make C us kw) (hb _ _ J.kIn) (show Vals (V.ref (h0.objs.size + 1) :: vs) (Value.ref (h0.objs.size + 1) :: all) from .cons rfl rv) want) fun res s2 hq => ?_
  cases res with
  | error er => exact pass_none pins σ _ _ er s2 J hq
  | ok fl =>
    cases fl with
    | ret u =>
      obtain ⟨v, H2, I2, rv2, ev, q2⟩ := J.after hq
      subst ev
      exact ⟨rv2, ⟨V.ref (h0.objs.size + 1), H2, I2, rfl, q2⟩⟩
    | next => exact hq.elim
    | brk => exact hq.elim
    | cont => exact hq.elim
/-- the arguments' names are bound -/
def KwB1 (K : PySem.W.Frag) (fd : FuncData) : Prop := ∀ (s : Shared) (self p : Value), K.In s.heap → BindsTo s fd ⟨[self], [("place", p)]⟩ ((["self", "place"] : List Str).zip [self, p])
def KwB2 (K : PySem.W.Frag) (fd : FuncData) : Prop := ∀ (s : Shared) (self wv p : Value), K.In s.heap → BindsTo s fd ⟨[self], [("word", wv), ("place", p)]⟩ ((["self", "word", "place"] : List Str).zip [self, wv, p])
theorem few {us : List Value} {n : Nat} (h : us.length ≤ n) (hn : n ≤ 10) : us.length ≤ sizeLine := by rw [sizeLine_eq]; omega
theorem sp_er {C : Addr} {wd : List Nat} {pv : V} (T : OexC K C) (n1 : PySem.W.findIn K (.ref C) "word" = some none) (n2 : PySem.W.findIn K (.ref C) "place" = some none) : ∀ (a : Addr) (H1 : Hp) (Q1 : VK), H1 a = some (exo a C none) → (∀ d f1 f2, H1 d = none → d ≠ a → List.lookup ("word" : Str) f2 = some (.str ⟨wd.toArray⟩) → List.lookup ("place" : Str) f2 = some pv → Q1 .non (upd (upd (upd H1 d (exd d f1)) a (exo a C (some d))) d (exd d f2))) → spEr K wd (.ref a :: [pv]) H1 Q1 (fun _ _ _ => False) := fun a H1 Q1 ha q =>
  ⟨a, C, pv, rfl, T, n1, n2, ha, fun d hd hne => q d _ _ hd hne rfl rfl⟩
theorem sp_ini {C : Addr} {wv pv : V} (T : OexC K C) (n1 : PySem.W.findIn K (.ref C) "word" = some none) (n2 : PySem.W.findIn K (.ref C) "place" = some none) : ∀ (a : Addr) (H1 : Hp) (Q1 : VK), H1 a = some (exo a C none) → (∀ d f1 f2, H1 d = none → d ≠ a → List.lookup ("word" : Str) f2 = some wv → List.lookup ("place" : Str) f2 = some pv → Q1 .non (upd (upd (upd H1 d (exd d f1)) a (exo a C (some d))) d (exd d f2))) → spIni K (.ref a :: [wv, pv]) H1 Q1 (fun _ _ _ => False) := fun a H1 Q1 ha q =>
  ⟨a, C, wv, pv, rfl, T, n1, n2, ha, fun d hd hne => q d _ _ hd hne rfl rfl⟩
theorem mkv_ok {wd : List Nat} {C : Addr} (T : OexC K C) (n1 : PySem.W.findIn K (.ref C) "word" = some none) (n2 : PySem.W.findIn K (.ref C) "place" = some none) (iC : PySem.W.findIn K (.ref C) "__init__" = some (some (.ref f))) (tI : PySem.W.typeIn K (.ref f) = some (.type "function"))
    (F : FnOk P w K mg base (L2.CX P w) 2 f fd ["self", "place"] (spEr K wd)) (b2 : ∃ ds, Vals [] ds ∧ Binds K fd ["self", "place"] ds) (b1 : ∃ ds, Vals [V.non] ds ∧ Binds K fd ["self", "place"] ds) (bk : KwB1 K fd) : MkV P w K mg base C ["place"] (gOwn wd) := by
  intro X y p pos hP hw hK hmg hb room gl hdb hm
  obtain ⟨d2, v2, b2⟩ := b2
  obtain ⟨d1, v1, b1⟩ := b1
  subst hP hw hK hmg hb
  have e2 := vals_nil v2
  subst e2
  refine ⟨⟨fun pins s σ H Q I q => ?_⟩, fun e es t hs pa => ⟨fun pins s σ H Q I q => ?_⟩, fun kws t hk pk => ⟨fun pins s σ H Q I q => ?_⟩⟩
  · obtain ⟨wv, pv, e1, q⟩ := q
    cases e1
    refine wpAny_Call_Name_kw (ld_glob I gl hm ?_ hdb)
    refine PySem.W.callWith_K0 I.kIn T.kC (run_erk T iC tI F room I (few (n := 0) (Nat.le_refl _) (by decide)) (fun s1 self K1 => b1 s1 [self] K1 ?_) v1 (sp_er T n1 n2) q)
    have := v1.length
    simp only [List.length_append, List.length_singleton] at this ⊢
    simp only [List.length_cons, List.length_nil]
    omega
  · refine wpAny_Call_Name_kw (ld_glob I gl hm ?_ hdb)
    obtain ⟨s1', s2'⟩ := noStar_cons hs
    refine PySem.W.callWith_K (h₀ := X.base) I.ok.mod.kin T.kC (thn (pa.run pos pins s σ H _ I q) fun us s1 ⟨vs, H1, I1, r, q1⟩ => ⟨I1.kIn, ?_⟩) (star_cons s1') (noStar_back s2')
    obtain ⟨wv, pv, e1, q⟩ := q1
    have hlen := r.length
    match vs, e1, r, hlen with
    | [], e1, r, hlen =>
      cases e1
      cases r
      refine run_erk T iC tI F room I1 (few (n := 0) (Nat.le_refl _) (by decide)) (fun s1 self K1 => b1 s1 [self] K1 ?_) v1 (sp_er T n1 n2) q
      have := v1.length
      simp only [List.length_append, List.length_cons, List.length_nil] at this ⊢
      omega
    | [v], e1, r, hlen =>
      cases e1
      refine run_erk T iC tI F room I1 (few (n := 1) (by have e : us.length = 1 := hlen.symm; simp [e]) (by decide)) (fun s1 self K1 => ?_) r (sp_er T n1 n2) q
      have := b2 s1 (self :: us) K1 (by rw [List.append_nil, List.length_cons, ← hlen]; rfl)
      rw [List.append_nil] at this
      exact this
    | _ :: _ :: _, e1, _, _ => cases e1
  · match kws, hk with
    | [⟨some n, e, kp⟩], hk =>
      obtain rfl : n = "place" := by simpa using hk
      refine wpAny_Call_Name_kw (ld_glob I gl hm ?_ hdb)
      refine PySem.W.callWith_KW0 (K := X.K) I.kIn T.kC rfl ?_ rfl
      refine thn (pk.run pos pins s σ H _ I q) fun us s1 ⟨vs, H1, I1, r, q1⟩ => ⟨I1.kIn, ?_⟩
      obtain ⟨wv, pv, e1, q⟩ := q1
      match vs, us, e1, r with
      | [], _, e1, _ => cases e1
      | [v], [u], e1, r =>
        cases e1
        exact run_erk T iC tI F room I1 (few (n := 0) (Nat.le_refl _) (by decide)) (fun s1 self K1 => bk s1 self u K1) r (sp_er T n1 n2) q
      | _ :: _ :: _, _, e1, _ => cases e1
      | [_], [], _, r => cases r
      | [_], _ :: _ :: _, _, r => cases r with
        | cons _ r => cases r
theorem mkb_ok {C : Addr} (T : OexC K C) (n1 : PySem.W.findIn K (.ref C) "word" = some none) (n2 : PySem.W.findIn K (.ref C) "place" = some none) (iC : PySem.W.findIn K (.ref C) "__init__" = some (some (.ref f))) (tI : PySem.W.typeIn K (.ref f) = some (.type "function"))
    (F : FnOk P w K mg base (L2.CX P w) 1 f fd ["self", "word", "place"] (spIni K)) (b2 : ∃ ds, Vals [] ds ∧ Binds K fd ["self", "word", "place"] ds) (b1 : ∃ ds, Vals [V.non] ds ∧ Binds K fd ["self", "word", "place"] ds) (bk : KwB2 K fd) : MkV P w K mg base C ["word", "place"] gBase := by
  intro X y p pos hP hw hK hmg hb room gl hdb hm
  obtain ⟨d2, v2, b2⟩ := b2
  obtain ⟨d1, v1, b1⟩ := b1
  subst hP hw hK hmg hb
  have e2 := vals_nil v2
  subst e2
  have room : Room 2 X.A := room.mono (by decide)
  refine ⟨⟨fun pins s σ H Q I q => ?_⟩, fun e es t hs pa => ⟨fun pins s σ H Q I q => ?_⟩, fun kws t hk pk => ⟨fun pins s σ H Q I q => ?_⟩⟩
  · obtain ⟨wv, pv, e1, q⟩ := q
    cases e1
  · refine wpAny_Call_Name_kw (ld_glob I gl hm ?_ hdb)
    obtain ⟨s1', s2'⟩ := noStar_cons hs
    refine PySem.W.callWith_K (h₀ := X.base) I.ok.mod.kin T.kC (thn (pa.run pos pins s σ H _ I q) fun us s1 ⟨vs, H1, I1, r, q1⟩ => ⟨I1.kIn, ?_⟩) (star_cons s1') (noStar_back s2')
    obtain ⟨wv, pv, e1, q⟩ := q1
    have hlen := r.length
    match vs, e1, r, hlen with
    | [v], e1, r, hlen =>
      cases e1
      have e : us.length = 1 := hlen.symm
      refine run_erk T iC tI F room I1 (few (n := 1) (by simp [e]) (by decide)) (fun s1 self K1 => b1 s1 (self :: us) K1 ?_) (r.append v1) (sp_ini T n1 n2) q
      have := v1.length
      simp only [List.length_append, List.length_cons, List.length_nil, e] at this ⊢
      omega
    | [v, v'], e1, r, hlen =>
      cases e1
      have e : us.length = 2 := hlen.symm
      refine run_erk T iC tI F room I1 (few (n := 2) (by simp [e]) (by decide)) (fun s1 self K1 => ?_) r (sp_ini T n1 n2) q
      have := b2 s1 (self :: us) K1 (by rw [List.append_nil, List.length_cons, e]; rfl)
      rw [List.append_nil] at this
      exact this
    | [], e1, _, _ => cases e1
    | _ :: _ :: _ :: _, e1, _, _ => cases e1
  · match kws, hk with
    | [⟨some n, e, kp⟩, ⟨some m, e', kp'⟩], hk =>
      obtain ⟨rfl, rfl⟩ : n = "word" ∧ m = "place" := by simpa using hk
      refine wpAny_Call_Name_kw (ld_glob I gl hm ?_ hdb)
      refine PySem.W.callWith_KW0 (K := X.K) I.kIn T.kC rfl ?_ rfl
      refine thn (pk.run pos pins s σ H _ I q) fun us s1 ⟨vs, H1, I1, r, q1⟩ => ⟨I1.kIn, ?_⟩
      obtain ⟨wv, pv, e1, q⟩ := q1
      match vs, us, e1, r with
      | [v, v'], [u, u'], e1, r =>
        cases e1
        exact run_erk T iC tI F room I1 (few (n := 0) (Nat.le_refl _) (by decide)) (fun s1 self K1 => bk s1 self u u' K1) r (sp_ini T n1 n2) q
      | [], _, e1, _ => cases e1
      | [_], _, e1, _ => cases e1
      | [_, _], [], _, r => cases r
      | [_, _], [_], _, r => cases r with
        | cons _ r => cases r
      | [_, _], _ :: _ :: _ :: _, _, r => cases r with
        | cons _ r => cases r with
          | cons _ r => cases r
      | _ :: _ :: _ :: _, _, e1, _ => cases e1
end
section
variable {K : PySem.W.Frag} {f : Addr} {fd : FuncData} {x q : Str} {pa : Arguments} {body : List Stmt} {sc : Scope}
theorem bind_ini1 (F : FunD K x q pa body sc [.non] [] f fd) (h : parB ["self", "word", "place"] pa = true) : ∃ ds, Vals [V.non] ds ∧ Binds K fd ["self", "word", "place"] ds := by
  obtain ⟨e1, e2, e3, p1, p2, p3, k, d, rfl⟩ := par3 h
  exact F.binds1 2 0 (by simp) rfl fun T kV doc pm an cdv ct us its h1 h2 => match us, its, h1, h2 with
    | [_, _], [_], _, _ => ⟨_, rfl, rfl⟩
theorem bind_kw1 (F : FunD K x q pa body sc [.non] [] f fd) (h : parB ["self", "place"] pa = true) : KwB1 K fd := by
  obtain ⟨e1, e2, p1, p2, k, d, rfl⟩ := par2 h
  obtain ⟨oc, od, dV, kV, doc, pm, an, cdv, ct, osl, rfl, lk, hcd, hD, hK⟩ := F.ex
  rcases hD with ⟨e, _⟩ | ⟨_, T, o, its, m, rfl, lT, oT, rT⟩
  · cases e
  · intro s self p X
    have l1 : its.length = 1 := rT.length.symm
    match its, l1, oT with
    | [it], _, oT =>
      refine BindsTo.of_looks fun M => ?_
      rw [show bindArgs (PySem.W.fnOf x q ⟨[], [⟨"self", e1, p1⟩, ⟨"place", e2, p2⟩], none, [], k, none, d⟩ body sc (.ref T) kV doc pm an cdv ct) ⟨[self], [("place", p)]⟩ = seqItems? (.ref T) >>= _ from rfl]
      exact looks_items X lT oT (.of_pure rfl)
theorem bind_kw2 (F : FunD K x q pa body sc [.non] [] f fd) (h : parB ["self", "word", "place"] pa = true) : KwB2 K fd := by
  obtain ⟨e1, e2, e3, p1, p2, p3, k, d, rfl⟩ := par3 h
  obtain ⟨oc, od, dV, kV, doc, pm, an, cdv, ct, osl, rfl, lk, hcd, hD, hK⟩ := F.ex
  rcases hD with ⟨e, _⟩ | ⟨_, T, o, its, m, rfl, lT, oT, rT⟩
  · cases e
  · intro s self wv p X
    have l1 : its.length = 1 := rT.length.symm
    match its, l1, oT with
    | [it], _, oT =>
      refine BindsTo.of_looks fun M => ?_
      rw [show bindArgs (PySem.W.fnOf x q ⟨[], [⟨"self", e1, p1⟩, ⟨"word", e2, p2⟩, ⟨"place", e3, p3⟩], none, [], k, none, d⟩ body sc (.ref T) kV doc pm an cdv ct) ⟨[self], [("word", wv), ("place", p)]⟩ = seqItems? (.ref T) >>= _ from rfl]
      exact looks_items X lT oT (.of_pure rfl)
end
end MP

set_option autoImplicit false
set_option linter.all false
set_option maxRecDepth 100000
/-! Mp21: what the head tells; plain parameters. -/
namespace MP
open PySem PySem.Spec PyProof.Rows L2

/-! ### plain parameters -/
theorem fm_congr {α β : Type} {f g : α → Option β} : ∀ {l : List α}, (∀ x ∈ l, f x = g x) → l.filterMap f = l.filterMap g
  | [], _ => rfl
  | a :: l, h => by
    rw [List.filterMap_cons, List.filterMap_cons, h a List.mem_cons_self, fm_congr fun x hx => h x (List.mem_cons_of_mem _ hx)]
theorem lk_names : ∀ {ns : List Str} {us : List Value}, ns.Nodup → us.length = ns.length → (∀ n ∈ ns, ((ns.zip us).lookup n).isNone = false) ∧ ns.filterMap (fun n => ((ns.zip us).lookup n).map fun x => (n, x)) = ns.zip us
  | [], _, _, _ => ⟨fun n h => (by cases h), rfl⟩
  | a :: ns, [], _, h => by cases h
  | a :: ns, u :: us, hd, hl => by
    rw [List.nodup_cons] at hd
    obtain ⟨h1, h2⟩ := lk_names hd.2 (by simpa using hl)
    have other : ∀ n ∈ ns, ((a :: ns).zip (u :: us)).lookup n = (ns.zip us).lookup n := fun n hn => by
      rw [List.zip_cons_cons, List.lookup_cons]
      have : (n == a) = false := beq_eq_false_iff_ne.mpr fun e => hd.1 (by rw [← e]; exact hn)
      rw [this]
    refine ⟨fun n hn => ?_, ?_⟩
    · rcases List.mem_cons.mp hn with e | hn
      · subst e; simp
      · rw [other n hn]; exact h1 n hn
    · rw [List.filterMap_cons]
      have e1 : ((a :: ns).zip (u :: us)).lookup a = some u := by simp
      rw [e1]
      show (a, u) :: _ = (a, u) :: ns.zip us
      congr 1
      refine Eq.trans (fm_congr fun n hn => ?_) h2
      rw [other n hn]
theorem seq_none : seqItems? .none = (pure none : Sem (Option (Array Value))) := by rfl
def plainP (p : Arguments) : Bool := p.posonlyargs.isEmpty && p.vararg.isNone && p.kwonlyargs.isEmpty && p.kwarg.isNone
theorem bind_plain {x qual : Str} {params : Arguments} {body : List Stmt} {scope : Scope} {kV doc pm : Value} {an : Option Addr} {cdv ct : Value} {us : List Value} (h : plainP params = true) (hd : (params.args.map (·.arg)).Nodup) (hl : us.length = (params.args.map (·.arg)).length) :
    bindArgs (PySem.W.fnOf x qual params body scope .none kV doc pm an cdv ct) ⟨us, []⟩ = pure ((params.args.map (·.arg)).zip us) := by
  obtain ⟨a1, a2, a3, a4, a5, a6, a7⟩ := params
  obtain ⟨h, h4⟩ := and2 h
  obtain ⟨h, h3⟩ := and2 h
  obtain ⟨h1, h2⟩ := and2 h
  have g1 : a1 = [] := List.isEmpty_iff.mp h1
  have g2 : a3 = none := Option.isNone_iff_eq_none.mp h2
  have g3 : a4 = [] := List.isEmpty_iff.mp h3
  have g4 : a6 = none := Option.isNone_iff_eq_none.mp h4
  subst g1 g2 g3 g4
  simp only at hd hl
  obtain ⟨k1, k2⟩ := lk_names hd hl
  have hl2 : us.length = a2.length := by simpa using hl
  have k3 : (List.filter (fun n => (List.lookup n ((List.map (fun x => x.arg) a2).zip us)).isNone) (List.take a2.length (List.map (fun x => x.arg) a2))) = [] := by
    rw [List.filter_eq_nil_iff]
    intro n hn
    rw [k1 n (List.mem_of_mem_take hn)]
    decide
  unfold bindArgs
  simp [PySem.W.fnOf, seq_none, hl2]
  have e : (List.map (fun x : Arg => x.arg) [] ++ List.map (fun x => x.arg) a2).length - (List.drop ((#[] : Array Value).size - (List.map (fun x : Arg => x.arg) [] ++ List.map (fun x => x.arg) a2).length) ([] : List Value)).length = a2.length := by simp
  have e2 : List.filter (fun n => (List.lookup n ((List.map (fun x : Arg => x.arg) a2).zip us)).isNone) (List.take ((List.map (fun x : Arg => x.arg) [] ++ List.map (fun x => x.arg) a2).length - (List.drop ((#[] : Array Value).size - (List.map (fun x : Arg => x.arg) [] ++ List.map (fun x => x.arg) a2).length) ([] : List Value)).length) (List.map (fun x : Arg => x.arg) [] ++ List.map (fun x => x.arg) a2)) = [] := by
    rw [e]; exact k3
  rw [if_neg (by rw [e2]; decide)]
  have k4 : List.filterMap ((fun n => Option.map (fun x => (n, x)) (List.lookup n ((List.map (fun x : Arg => x.arg) a2).zip us))) ∘ fun x : Arg => x.arg) a2 = (List.map (fun x => x.arg) a2).zip us := by
    rw [← List.filterMap_map]; exact k2
  rw [k4]

/-! ### constants of the module -/
/-- the data d lies as the value u, in the written part -/
def valB (K : PySem.W.Frag) : Nat → D → Value → Bool
  | _, .non, .none => true
  | _, .bl a, .bool c => a == c
  | _, .int i, .int j _ => decide (i = j)
  | _, .str x, .str y _ => decide (y = ⟨x.toArray⟩) && x.all fun c => decide (c < 1114112)
  | n + 1, .con ds, .ref a => (match K.lookup a with
    | some ⟨.type c, _, .seq its _, _⟩ => decide (c = "tuple") && decide (its.size ≤ sizeLine) && decide (ds.length = its.size) && (ds.zip its.toList).all fun p => valB K n p.1 p.2
    | _ => false)
  | _, _, _ => false
theorem valB_ok {K : PySem.W.Frag} : ∀ (n : Nat) (d : D) (u : Value), valB K n d u = true → ∃ v, RelV v u ∧ ∀ Z H ρ, RD K Z H ρ d v := by
  intro n
  induction n with
  | zero =>
    intro d u h
    cases d <;> cases u <;> first | (simp [valB] at h; done) | skip
    · exact ⟨.non, rfl, fun _ _ _ => .non⟩
    · rename_i a c
      have e : a = c := by simpa [valB] using h
      subst e
      exact ⟨.bl a, rfl, fun _ _ _ => .bl a⟩
    · rename_i i j t
      have e : i = j := by simpa [valB] using h
      subst e
      exact ⟨.int i, ⟨t, rfl⟩, fun _ _ _ => .int i⟩
    · rename_i x y t
      obtain ⟨h1, h2⟩ := and2 (show (decide (y = ⟨x.toArray⟩) && x.all fun c => decide (c < 1114112)) = true from h)
      have h1 := of_decide_eq_true h1
      subst h1
      exact ⟨.str _, ⟨t, rfl⟩, fun _ _ _ => .str x fun c hc => of_decide_eq_true (List.all_eq_true.mp h2 c hc)⟩
  | succ n ih =>
    have rows : ∀ (ds : List D) (us : List Value), ds.length = us.length → ((ds.zip us).all fun p => valB K n p.1 p.2) = true → ∃ vs, Vals vs us ∧ ∀ Z H ρ, RDs K Z H ρ ds vs := by
      intro ds
      induction ds with
      | nil => intro us hl _; cases us with
        | nil => exact ⟨[], .nil, fun _ _ _ => .nil⟩
        | cons _ _ => cases hl
      | cons d ds ihd =>
        intro us hl ha
        cases us with
        | nil => cases hl
        | cons u us =>
          rw [List.zip_cons_cons, List.all_cons] at ha
          obtain ⟨h1, h2⟩ := and2 ha
          obtain ⟨v, r1, r2⟩ := ih d u h1
          obtain ⟨vs, r3, r4⟩ := ihd us (by simpa using hl) h2
          exact ⟨v :: vs, .cons r1 r3, fun Z H ρ => .cons (r2 Z H ρ) (r4 Z H ρ)⟩
    intro d u h
    cases d <;> cases u <;> first | (simp [valB] at h; done) | skip
    · exact ⟨.non, rfl, fun _ _ _ => .non⟩
    · rename_i a c
      have e : a = c := by simpa [valB] using h
      subst e
      exact ⟨.bl a, rfl, fun _ _ _ => .bl a⟩
    · rename_i i j t
      have e : i = j := by simpa [valB] using h
      subst e
      exact ⟨.int i, ⟨t, rfl⟩, fun _ _ _ => .int i⟩
    · rename_i x y t
      obtain ⟨h1, h2⟩ := and2 (show (decide (y = ⟨x.toArray⟩) && x.all fun c => decide (c < 1114112)) = true from h)
      have h1 := of_decide_eq_true h1
      subst h1
      exact ⟨.str _, ⟨t, rfl⟩, fun _ _ _ => .str x fun c hc => of_decide_eq_true (List.all_eq_true.mp h2 c hc)⟩
    · rename_i ds a
      have h : (match K.lookup a with
        | some ⟨.type c, _, .seq its _, _⟩ => decide (c = "tuple") && decide (its.size ≤ sizeLine) && decide (ds.length = its.size) && (ds.zip its.toList).all fun p => valB K n p.1 p.2
        | _ => false) = true := h
      split at h
      · rename_i c od its ep sl hk
        obtain ⟨h, h4⟩ := and2 h
        obtain ⟨h, h3⟩ := and2 h
        obtain ⟨h1, h2⟩ := and2 h
        have h1 := of_decide_eq_true h1
        subst h1
        obtain ⟨vs, r1, r2⟩ := rows ds its.toList (by simpa using of_decide_eq_true h3) h4
        exact ⟨.ref a, rfl, fun Z H ρ => .con (.inr ⟨_, its, ep, hk, rfl, rfl, of_decide_eq_true h2, r1⟩) (r2 Z H ρ)⟩
      · cases h

/-! ### the Hook -/
/-- a constant by its name -/
def conG (K : PySem.W.Frag) (p : Str × D) : Bool := match PySem.W.nsIn K mainGlobals p.1 with
  | some (some u) => valB K 8 p.2 u
  | _ => false
def obsM (fa : List He.Fa) (fn : List He.DefD) (cs : List (Str × D)) (ck : PySem.W.Frag → Bool) (K : PySem.W.Frag) : He.AlD := ((((fa.all fun f => f.ok K) && fn.all fun d => d.ok K) && cs.all fun p => conG K p) && ck K, fn.map fun d => He.fnW K d.at_)
def SaysM (fa : List He.Fa) (fn : List He.DefD) (cs : List (Str × D)) (ck : PySem.W.Frag → Bool) (K : PySem.W.Frag) : Prop := obsM fa fn cs ck K = He.valD fn
def obsMG (n : Nat) (fa : List He.Fa) (fn : List He.DefD) (cs : List (Str × D)) (ck : PySem.W.Frag → Bool) (g : Addr → Option Obj) : He.AlD := obsM fa fn cs ck (He.frG g (cStatics :: He.asD g n))
def hookM (n : Nat) (fa : List He.Fa) (fn : List He.DefD) (cs : List (Str × D)) (ck : PySem.W.Frag → Bool) : PySem.W.Hook where
  α := He.AlD
  obs := fun s => obsMG n fa fn cs ck s.heap.get?
  val := fun _ => He.valD fn
  says := fun _ h => ∃ K : PySem.W.Frag, K.In h ∧ SaysM fa fn cs ck K
  of := fun _ _ e => ⟨_, He.frG_in, e⟩
  keeps := fun _ _ _ ⟨K, hK, c⟩ k => ⟨K, PySem.W.Frag.In.keeps hK k, c⟩
theorem obsMG_eq {n : Nat} {fa : List He.Fa} {fn : List He.DefD} {cs : List (Str × D)} {ck : PySem.W.Frag → Bool} {g : Addr → Option Obj} {s : Shared} (h : ∀ a, g a = s.heap.get? a) : obsMG n fa fn cs ck g = (hookM n fa fn cs ck).obs s := by
  have e : g = s.heap.get? := funext h
  rw [e] <;> rfl
section
variable {fa : List He.Fa} {fn : List He.DefD} {cs : List (Str × D)} {ck : PySem.W.Frag → Bool} {K : PySem.W.Frag}
theorem SaysM.d (c : SaysM fa fn cs ck K) : He.SaysD fa fn K := by
  have h1 : (((fa.all fun f => f.ok K) && fn.all fun d => d.ok K) && cs.all fun p => conG K p) = true := (and2 (show ((((fa.all fun f => f.ok K) && fn.all fun d => d.ok K) && cs.all fun p => conG K p) && ck K) = true from congrArg (fun z : He.AlD => z.1) c)).1
  have h2 : fn.map (fun d => He.fnW K d.at_) = fn.map He.DefD.val := congrArg (fun z : He.AlD => z.2) c
  show ((fa.all fun f => f.ok K) && fn.all fun d => d.ok K, fn.map fun d => He.fnW K d.at_) = (true, fn.map He.DefD.val)
  rw [(and2 h1).1, h2]
theorem SaysM.chk (c : SaysM fa fn cs ck K) : ck K = true := (and2 (show ((((fa.all fun f => f.ok K) && fn.all fun d => d.ok K) && cs.all fun p => conG K p) && ck K) = true from congrArg (fun z : He.AlD => z.1) c)).2
theorem SaysM.con (c : SaysM fa fn cs ck K) {h : Heap} {mg : Str → Option Value} (X : K.In h) (G : h.Ns mainGlobals mg) {x : Str} {d : D} (hm : (x, d) ∈ cs) : ∃ v u, mg x = some u ∧ RelV v u ∧ ∀ Z H ρ, RD K Z H ρ d v := by
  have h1 : (((fa.all fun f => f.ok K) && fn.all fun d => d.ok K) && cs.all fun p => conG K p) = true := (and2 (show ((((fa.all fun f => f.ok K) && fn.all fun d => d.ok K) && cs.all fun p => conG K p) && ck K) = true from congrArg (fun z : He.AlD => z.1) c)).1
  have h2 := List.all_eq_true.mp (and2 h1).2 (x, d) hm
  unfold conG at h2
  split at h2
  · rename_i u hu
    obtain ⟨v, r1, r2⟩ := valB_ok 8 d u h2
    exact ⟨v, u, PySem.W.mg_of X G hu, r1, r2⟩
  · cases h2
end
/-- one def of a law's table -/
structure Row where
  d : He.DefD
  N : List Str
  fm : Fn
/-- the check of a def: its parameters plain, its names, its body -/
def rowB (G : List (Str × GK)) (cs : List CI) (r : Row) : Bool := plainP r.d.params && decide (r.d.params.args.map (·.arg) = r.N.take r.fm.ps) && decide (r.N.Nodup) && decide (r.fm.ps ≤ r.N.length) && decide (r.N.length = r.fm.n) && r.fm.dfl.isEmpty && r.d.dfl.isEmpty && r.d.at_.2.isNone &&
  (match r.d.scope.kind with
    | .function => true
    | _ => false) && !r.d.scope.isCoroutine && !r.d.scope.isGenerator && ((r.N.take r.fm.ps).all fun x => match r.d.scope.names.lookup x with
      | some .local => true
      | some .cell => true
      | _ => false) && (r.d.scope.names.all fun y => match y.2 with
      | .free => false
      | _ => true) && fitB ⟨r.N, G, cs, none⟩ r.d.scope (fun _ => true) r.fm.body r.d.body
theorem row_ok {K : PySem.W.Frag} {Z : Ad} {G : List (Str × GK)} {cs : List CI} {T : Tb} {f : Nat} {r : Row} {fd : FuncData} (h : rowB G cs r = true) (F : FunD K r.d.name r.d.qual r.d.params r.d.body r.d.scope (r.d.dvs K) (r.d.kws K) (He.fAd K r.d.at_) fd) (hf : T.fns[f]? = some r.fm) : DefI K Z G cs T f (He.ga K r.d.at_.1) := by
  unfold rowB at h
  obtain ⟨h, h14⟩ := and2 h
  obtain ⟨h, h13⟩ := and2 h
  obtain ⟨h, h12⟩ := and2 h
  obtain ⟨h, h11⟩ := and2 h
  obtain ⟨h, h10⟩ := and2 h
  obtain ⟨h, h9⟩ := and2 h
  obtain ⟨h, h8⟩ := and2 h
  obtain ⟨h, h7⟩ := and2 h
  obtain ⟨h, h6⟩ := and2 h
  obtain ⟨h, h5⟩ := and2 h
  obtain ⟨h, h4⟩ := and2 h
  obtain ⟨h, h3⟩ := and2 h
  obtain ⟨h1, h2⟩ := and2 h
  have h2 := of_decide_eq_true h2
  have h3 := of_decide_eq_true h3
  have h4 := of_decide_eq_true h4
  have h5 := of_decide_eq_true h5
  have e7 : r.d.dvs K = [] := by
    unfold He.DefD.dvs
    rw [List.isEmpty_iff.mp h7]
    rfl
  have e8 : He.fAd K r.d.at_ = He.ga K r.d.at_.1 := by
    unfold He.fAd
    rw [Option.isNone_iff_eq_none.mp h8]
  rw [e7, e8] at F
  have hps : (r.d.params.args.map (·.arg)).length = r.fm.ps := by rw [h2, List.length_take]; omega
  refine ⟨r.d.name, r.d.qual, r.d.params, r.d.body, r.d.scope, [], r.d.kws K, fd, r.N, r.d.params.args.map (·.arg), r.fm, F, hf, ⟨?_, by simpa using h10, by simpa using h11, h3, ?_, fun x hx => ?_, fun y hy e => ?_⟩, ?_, List.isEmpty_iff.mp h6, hps, h5, h14⟩
  · split at h9
    · assumption
    · cases h9
  · rw [hps, ← h2]
  · rw [h2] at hx
    have := List.all_eq_true.mp h12 x hx
    split at this
    · exact .inl (by assumption)
    · exact .inr (by assumption)
    · cases this
  · have := List.all_eq_true.mp h13 y hy
    rw [e] at this
    cases this
  · exact FunD.bindsN F fun kV doc pm an cdv ct us hl => bind_plain h1 (by rw [h2]; exact h3.sublist (List.take_sublist _ _)) hl
end MP

set_option autoImplicit false
set_option linter.all false
set_option maxRecDepth 100000
/-! Mp22: a law's table, and what the head has to tell of it. -/
namespace MP
open PySem PySem.Spec PyProof.Rows L2
/-- how an own error is made: its word, the class whose __init__ it calls, the two defs -/
structure MkR where
  word : List Nat
  base : Str
  d : He.DefD
  db : He.DefD
/-- a class of the table; up: the classes that it is of -/
structure CRow where
  name : Str
  err : Bool
  up : List Nat
  how : Option MkR
  bare : Option He.DefD := none
def faOf (G : List (Str × GK)) : List He.Fa := G.filterMap fun p => match p.2 with
  | .bi => some (.free p.1)
  | .fn _ => some (.glo p.1)
  | .cls _ => some (.glo p.1)
  | _ => none
def csOf (G : List (Str × GK)) (globs : List D) : List (Str × D) := G.filterMap fun p => match p.2 with
  | .dat i => globs[i]?.map fun d => (p.1, d)
  | _ => none
/-- the names of defs and classes go with the rows -/
def gB (G : List (Str × GK)) (rows : List Row) (crs : List CRow) : Bool := G.all fun p => match p.2 with
  | .fn f => decide (rows[f]?.map (fun r => r.d.at_.1) = some p.1)
  | .cls c => decide (crs[c]?.map (fun r => r.name) = some p.1)
  | _ => true
/-- where a class's own __init__ stands -/
abbrev iniA (K : PySem.W.Frag) (x : Str) : Addr := He.fAd K (x, some "__init__")
/-- an error's class as the layer wants it -/
def oexB (K : PySem.W.Frag) (C : Addr) : Bool := match K.lookup C with
  | some ⟨.type t, _, .cls cd, sl⟩ => decide (t = "type") && cd.hasDict && !cd.hasDel && (match cd.mro, sl.toList with
    | .ref C' :: bm, [_, _, _, _, some (.builtin n), _] => C' == C && n == "ValueError.__new__" && PySem.HandSPX.refsVE bm
    | _, _ => false)
  | _ => false
theorem oexB_ok {K : PySem.W.Frag} {C : Addr} (h : oexB K C = true) : ∃ nm q N bs bm sn sub ab col dd k0 k1 k2 k3 k5, K.lookup C = some (excClassObj nm q C N bs bm true sn sub ab col dd k0 k1 k2 k3 k5 "ValueError.__new__") ∧ PySem.HandSPX.refsVE bm = true := by
  unfold oexB at h
  split at h
  · rename_i t dd cd sl hk
    obtain ⟨h, h2⟩ := and2 h
    obtain ⟨h, h4⟩ := and2 h
    obtain ⟨h1, h3⟩ := and2 h
    have h1 := of_decide_eq_true h1
    subst h1
    split at h2
    · rename_i C' bm k0 k1 k2 k3 n k5 hm hs
      obtain ⟨h2, h7⟩ := and2 h2
      obtain ⟨h5, h6⟩ := and2 h2
      have h5 := eq_of_beq h5
      have h6 := eq_of_beq h6
      subst h5 h6
      obtain ⟨nm, bs, mro, ns, qn, hd, sn, sub, ab, col, del⟩ := cd
      dsimp only at hm h3 h4
      have h4 : del = false := by simpa using h4
      subst hm h3 h4
      obtain ⟨l⟩ := sl
      simp only at hs
      subst hs
      exact ⟨nm, qn, ns, bs, bm, sn, sub, ab, col, dd, k0, k1, k2, k3, k5, hk, h7⟩
    · cases h2
  · cases h
/-- what every own error must be -/
def erF (K : PySem.W.Frag) (C : Addr) : Bool := xfB K C && decide (PySem.W.findIn K (.ref C) "__class__" = some (some (.builtin "object.__class__"))) && decide (PySem.W.specialIn K (.builtin "object.__class__") "__get__" = some (some (.builtin "getset_descriptor.__get__"))) &&
  decide (PySem.W.takesIn K (.builtin "object.__class__") = some true) && decide (PySem.W.mroIn K C (.type "object") = some true) && decide (PySem.W.findIn K (.ref C) "word" = some none) && decide (PySem.W.findIn K (.ref C) "place" = some none) && decide (PySem.W.kitOne K (.ref C) (.type "ValueError") = some true)
theorem erF_ok {K : PySem.W.Frag} {C : Addr} (h : erF K C = true) : ExcF K C := by
  obtain ⟨h, h8⟩ := and2 h
  obtain ⟨h, h7⟩ := and2 h
  obtain ⟨h, h6⟩ := and2 h
  obtain ⟨h, h5⟩ := and2 h
  obtain ⟨h, h4⟩ := and2 h
  obtain ⟨h, h3⟩ := and2 h
  obtain ⟨h1, h2⟩ := and2 h
  have X := xfB_ok h1
  exact ⟨X, ⟨X.ga, X.gg, X.exC, X.hdC, of_decide_eq_true h2, of_decide_eq_true h3, of_decide_eq_true h4, of_decide_eq_true h5⟩, of_decide_eq_true h6, of_decide_eq_true h7, of_decide_eq_true h8⟩
def fcB (K : PySem.W.Frag) (C f : Addr) : Bool := match PySem.W.findCls K (.ref C) (.type "type") "__init__" with
  | some (.val (.ref g)) => g == f
  | _ => false
theorem fcB_ok {K : PySem.W.Frag} {C f : Addr} (h : fcB K C f = true) : PySem.W.findCls K (.ref C) (.type "type") "__init__" = some (.val (.ref f)) := by
  unfold fcB at h
  split at h
  · rename_i g e
    rw [e, eq_of_beq h]
  · cases h
/-- what an error that is raised must be -/
def erM (K : PySem.W.Frag) (x base : Str) : Bool := oexB K (He.ga K x) && decide (PySem.W.findIn K (.ref (He.ga K x)) "__setattr__" = some (some (.builtin "object.__setattr__"))) && decide (PySem.W.subIn K (.ref (He.ga K x)) (.type "BaseException") = some true) &&
  decide (PySem.W.typeIn K (.ref (He.ga K x)) = some (.type "type")) && PySem.W.keepIn K (.ref (He.ga K x)) && decide (PySem.W.findIn K (.ref (He.ga K x)) "__init__" = some (some (.ref (iniA K x)))) && decide (PySem.W.typeIn K (.ref (iniA K x)) = some (.type "function")) &&
  PySem.W.readsIn K (He.ga K base) (.type "type") && decide (PySem.W.specialIn K (.ref (He.ga K base)) "__getattribute__" = some (some (.builtin "type.__getattribute__"))) && fcB K (He.ga K base) (iniA K base) &&
  PySem.W.keepIn K (.ref (iniA K base)) && (He.Fa.glo base).ok K
/-- what an error's class must be whose own __init__ takes word and place -/
def erN (K : PySem.W.Frag) (x : Str) : Bool := oexB K (He.ga K x) && decide (PySem.W.findIn K (.ref (He.ga K x)) "__setattr__" = some (some (.builtin "object.__setattr__"))) && decide (PySem.W.subIn K (.ref (He.ga K x)) (.type "BaseException") = some true) &&
  decide (PySem.W.typeIn K (.ref (He.ga K x)) = some (.type "type")) && PySem.W.keepIn K (.ref (He.ga K x)) && decide (PySem.W.findIn K (.ref (He.ga K x)) "__init__" = some (some (.ref (iniA K x)))) && decide (PySem.W.typeIn K (.ref (iniA K x)) = some (.type "function"))
def onlyNon : List He.Dv → Bool
  | [.non] => true
  | _ => false
theorem onlyNon_ok {K : PySem.W.Frag} {d : He.DefD} (h : onlyNon d.dfl = true) : d.dvs K = [.non] := by
  unfold He.DefD.dvs
  unfold onlyNon at h
  split at h
  · rename_i e; rw [e]; rfl
  · cases h
/-- the texts of the two defs -/
def mkB (x : Str) (m : MkR) : Bool := decide (m.d.at_ = (x, some ("__init__" : Str))) && parB ["self", "place"] m.d.params && scB ["self", "place"] m.d.scope && glB m.d.scope m.base && erB m.base m.word m.d.body && onlyNon m.d.dfl && m.d.kwd.isEmpty &&
  decide (m.db.at_ = (m.base, some ("__init__" : Str))) && parB ["self", "word", "place"] m.db.params && scB ["self", "word", "place"] m.db.scope && iniB m.db.body && onlyNon m.db.dfl && m.db.kwd.isEmpty && m.word.all fun c => decide (c < 1114112)
def bareB (x : Str) (d : He.DefD) : Bool := decide (d.at_ = (x, some ("__init__" : Str))) && parB ["self", "word", "place"] d.params && scB ["self", "word", "place"] d.scope && iniB d.body && onlyNon d.dfl && d.kwd.isEmpty
def crsB (crs : List CRow) : Bool := (crs.all fun r => match r.how with
  | some m => r.err && mkB r.name m
  | none => true) && crs.all fun r => match r.bare with
  | some d => r.err && bareB r.name d
  | none => true
def crB (crs : List CRow) (K : PySem.W.Frag) : Bool := (crs.all fun r => (He.Fa.glo r.name).ok K && PySem.W.keepIn K (.ref (He.ga K r.name)) && (!r.err || erF K (He.ga K r.name))) &&
  ((List.range crs.length).all fun i => (List.range crs.length).all fun j => match crs[i]?, crs[j]? with
    | some r, some s => !(r.err && s.err) || (decide (PySem.W.exmOne K (.ref (He.ga K r.name)) (.ref (He.ga K s.name)) = some (r.up.contains j)) && decide (PySem.W.kitOne K (.ref (He.ga K r.name)) (.ref (He.ga K s.name)) = some (r.up.contains j)))
    | _, _ => true) &&
  (crs.all fun r => match r.how with
    | some m => erM K r.name m.base
    | none => true) &&
  (crs.all fun r => match r.bare with
    | some _ => erN K r.name
    | none => true)
/-- all defs that the head tells of -/
def defsOf (rows : List Row) (crs : List CRow) : List He.DefD := (rows.map fun r => r.d) ++ crs.flatMap fun r => (match r.how with
  | some m => [m.d, m.db]
  | none => []) ++ (match r.bare with
  | some d => [d]
  | none => [])
def zOf (K : PySem.W.Frag) (rows : List Row) (crs : List CRow) : Ad := ⟨fun f => rows[f]?.map fun r => He.ga K r.d.at_.1, fun c => crs[c]?.map fun r => He.ga K r.name, fun _ => [], []⟩
def tbOf (rows : List Row) (crs : List CRow) (globs : List D) : Tb := ⟨globs, rows.map fun r => r.fm, crs.map fun r => ⟨none, [], r.up, r.how.map fun m => m.word, r.err, r.bare.isSome⟩⟩
theorem says_def {fa : List He.Fa} {fn : List He.DefD} {K : PySem.W.Frag} (c : He.SaysD fa fn K) {d : He.DefD} (h : d ∈ fn) : ∃ fd, FunD K d.name d.qual d.params d.body d.scope (d.dvs K) (d.kws K) (He.fAd K d.at_) fd := by
  obtain ⟨i, hi⟩ := List.mem_iff_getElem?.mp h
  exact c.def_ i hi
theorem kws_nil {K : PySem.W.Frag} {d : He.DefD} (h : d.kwd.isEmpty = true) : d.kws K = [] := by
  unfold He.DefD.kws
  rw [List.isEmpty_iff.mp h]
  rfl
theorem mkr_ok {fa : List He.Fa} {fn : List He.DefD} {K : PySem.W.Frag} {mg : Str → Option Value} {x : Str} {m : MkR} (c : He.SaysD fa fn K) (h1 : m.d ∈ fn) (h2 : m.db ∈ fn) (hb : mkB x m = true) (hk : erM K x m.base = true) (E : ExcF K (He.ga K x)) (hm : mg m.base = some (.ref (He.ga K m.base))) : okS m.word ∧ ∀ P W base, MkE P W K mg base (He.ga K x) m.word ∧ MkV P W K mg base (He.ga K x) ["place"] (gOwn m.word) := by
  obtain ⟨hb, b14⟩ := and2 hb
  obtain ⟨hb, b13⟩ := and2 hb
  obtain ⟨hb, b12⟩ := and2 hb
  obtain ⟨hb, b11⟩ := and2 hb
  obtain ⟨hb, b10⟩ := and2 hb
  obtain ⟨hb, b9⟩ := and2 hb
  obtain ⟨hb, b8⟩ := and2 hb
  obtain ⟨hb, b7⟩ := and2 hb
  obtain ⟨hb, b6⟩ := and2 hb
  obtain ⟨hb, b5⟩ := and2 hb
  obtain ⟨hb, b4⟩ := and2 hb
  obtain ⟨hb, b3⟩ := and2 hb
  obtain ⟨b1, b2⟩ := and2 hb
  obtain ⟨hk, k12⟩ := and2 hk
  obtain ⟨hk, k11⟩ := and2 hk
  obtain ⟨hk, k10⟩ := and2 hk
  obtain ⟨hk, k9⟩ := and2 hk
  obtain ⟨hk, k8⟩ := and2 hk
  obtain ⟨hk, k7⟩ := and2 hk
  obtain ⟨hk, k6⟩ := and2 hk
  obtain ⟨hk, k5⟩ := and2 hk
  obtain ⟨hk, k4⟩ := and2 hk
  obtain ⟨hk, k3⟩ := and2 hk
  obtain ⟨k1, k2⟩ := and2 hk
  obtain ⟨fd, F⟩ := says_def c h1
  obtain ⟨gd, G⟩ := says_def c h2
  rw [onlyNon_ok b6, kws_nil b7, of_decide_eq_true b1] at F
  rw [onlyNon_ok b12, kws_nil b13, of_decide_eq_true b8] at G
  have T : OexC K (He.ga K x) := ⟨by
    obtain ⟨nm, q, N, bs, bm, sn, sub, ab, col, dd, k0, k1, k2, k3, k5, z1, z2⟩ := oexB_ok k1
    exact ⟨nm, q, N, bs, bm, sn, sub, ab, col, dd, k0, k1, k2, k3, k5, z1, z2⟩, of_decide_eq_true k2, of_decide_eq_true k3, of_decide_eq_true k4, k5⟩
  refine ⟨fun z hz => of_decide_eq_true (List.all_eq_true.mp b14 z hz), fun P W base => ?_⟩
  have gi := ok_ini (P := P) (w := W) (mg := mg) (base := base) G b10 b11
  have fi := ok_er (P := P) (w := W) (mg := mg) (base := base) (D := He.ga K m.base) F b3 b4 b5 hm ⟨⟨k8, of_decide_eq_true k9⟩, fcB_ok k10, k11⟩ gi (bind_ini G b9)
  exact ⟨mk_ok T E.nw E.np (of_decide_eq_true k6) (of_decide_eq_true k7) fi (bind_er2 F b2) (bind_er1 F b2), mkv_ok T E.nw E.np (of_decide_eq_true k6) (of_decide_eq_true k7) fi (bind_er2 F b2) (bind_er1 F b2) (bind_kw1 F b2)⟩
theorem bare_ok {fa : List He.Fa} {fn : List He.DefD} {K : PySem.W.Frag} {mg : Str → Option Value} {x : Str} {d : He.DefD} (c : He.SaysD fa fn K) (h1 : d ∈ fn) (hb : bareB x d = true) (hk : erN K x = true) (E : ExcF K (He.ga K x)) : ∀ P W base, MkV P W K mg base (He.ga K x) ["word", "place"] gBase := by
  obtain ⟨hb, b6⟩ := and2 hb
  obtain ⟨hb, b5⟩ := and2 hb
  obtain ⟨hb, b4⟩ := and2 hb
  obtain ⟨hb, b3⟩ := and2 hb
  obtain ⟨b1, b2⟩ := and2 hb
  obtain ⟨hk, k7⟩ := and2 hk
  obtain ⟨hk, k6⟩ := and2 hk
  obtain ⟨hk, k5⟩ := and2 hk
  obtain ⟨hk, k4⟩ := and2 hk
  obtain ⟨hk, k3⟩ := and2 hk
  obtain ⟨k1, k2⟩ := and2 hk
  obtain ⟨fd, F⟩ := says_def c h1
  rw [onlyNon_ok b5, kws_nil b6, of_decide_eq_true b1] at F
  have T : OexC K (He.ga K x) := ⟨by
    obtain ⟨nm, q, N, bs, bm, sn, sub, ab, col, dd, k0, k1, k2, k3, k5, z1, z2⟩ := oexB_ok k1
    exact ⟨nm, q, N, bs, bm, sn, sub, ab, col, dd, k0, k1, k2, k3, k5, z1, z2⟩, of_decide_eq_true k2, of_decide_eq_true k3, of_decide_eq_true k4, k5⟩
  refine fun P W base => ?_
  have gi := ok_ini (P := P) (w := W) (mg := mg) (base := base) F b3 b4
  exact mkb_ok T E.nw E.np (of_decide_eq_true k6) (of_decide_eq_true k7) gi (bind_ini F b2) (bind_ini1 F b2) (bind_kw2 F b2)
theorem nameF {K : PySem.W.Frag} {h : Heap} {mg : Str → Option Value} {G : List (Str × GK)} {cs : List CI} {rows : List Row} {crs : List CRow} {globs : List D} (hr : rows.all (rowB G cs) = true) (hg : gB G rows crs = true) (hc : crsB crs = true)
    (c : SaysM (faOf G) (defsOf rows crs) (csOf G globs) (crB crs) K) (X : K.In h) (N : h.Ns mainGlobals mg) : NameF K mg (zOf K rows crs) G cs (tbOf rows crs globs) := by
  have fun_at : ∀ (f : Nat) (r : Row), rows[f]? = some r → ∃ fd, FunD K r.d.name r.d.qual r.d.params r.d.body r.d.scope (r.d.dvs K) (r.d.kws K) (He.fAd K r.d.at_) fd := fun f r e =>
    says_def c.d (List.mem_append_left _ (List.mem_map_of_mem (List.mem_of_getElem? e)))
  have row_at : ∀ (f : Nat) (r : Row), rows[f]? = some r → rowB G cs r = true := fun f r e => List.all_eq_true.mp hr r (List.mem_of_getElem? e)
  have fact_at : ∀ a ∈ faOf G, a.ok K = true := fun a ha => by
    obtain ⟨i, hi⟩ := List.mem_iff_getElem?.mp ha
    exact c.d.fact i hi
  obtain ⟨ck, c4⟩ := and2 c.chk
  obtain ⟨ck, c3⟩ := and2 ck
  obtain ⟨c1, c2⟩ := and2 ck
  have cls_at : ∀ (i : Nat) (r : CRow), crs[i]? = some r → mg r.name = some (.ref (He.ga K r.name)) ∧ PySem.W.keepIn K (.ref (He.ga K r.name)) = true ∧ (r.err = true → ExcF K (He.ga K r.name)) := fun i r e => by
    obtain ⟨h1, h3⟩ := and2 (List.all_eq_true.mp c1 r (List.mem_of_getElem? e))
    obtain ⟨h1, h2⟩ := and2 h1
    refine ⟨He.glo_ok X N h1, h2, fun he => erF_ok ?_⟩
    rw [he] at h3
    exact h3
  have z_at : ∀ (i : Nat) (C : Addr), (zOf K rows crs).cls i = some C → ∃ r, crs[i]? = some r ∧ C = He.ga K r.name := fun i C e => by
    obtain ⟨r, e1, e2⟩ := Option.map_eq_some_iff.mp (show crs[i]?.map (fun r => He.ga K r.name) = some C from e)
    exact ⟨r, e1, e2.symm⟩
  have t_at : ∀ (i : Nat) (r : CRow), crs[i]? = some r → (tbOf rows crs globs).cls[i]? = some ⟨none, [], r.up, r.how.map fun m => m.word, r.err, r.bare.isSome⟩ := fun i r e => by
    show (crs.map _)[i]? = _
    rw [List.getElem?_map, e]
    rfl
  obtain ⟨hc, hc2⟩ := and2 hc
  have own : ∀ (i : Nat) (C : Addr) (wd : List Nat), (zOf K rows crs).cls i = some C → (tbOf rows crs globs).word i = some wd → okS wd ∧ ∀ P W base, MkE P W K mg base C wd ∧ MkV P W K mg base C ["place"] (gOwn wd) := fun i C wd e1 e2 => by
    obtain ⟨r, hr2, rfl⟩ := z_at i C e1
    have e2 : (match (tbOf rows crs globs).cls[i]? with
      | some cl => cl.word
      | none => none) = some wd := e2
    rw [t_at i r hr2] at e2
    obtain ⟨m, hm, rfl⟩ := Option.map_eq_some_iff.mp (show r.how.map (fun m => m.word) = some wd from e2)
    have b1 := List.all_eq_true.mp hc r (List.mem_of_getElem? hr2)
    have b2 := List.all_eq_true.mp c3 r (List.mem_of_getElem? hr2)
    rw [hm] at b1 b2
    obtain ⟨b3, b4⟩ := and2 b1
    have mem : ∀ d ∈ ([m.d, m.db] : List He.DefD), d ∈ defsOf rows crs := fun d hd => List.mem_append_right _ (List.mem_flatMap.mpr ⟨r, List.mem_of_getElem? hr2, List.mem_append_left _ (by rw [hm]; exact hd)⟩)
    exact mkr_ok c.d (mem _ (by simp)) (mem _ (by simp)) b4 b2 ((cls_at i r hr2).2.2 b3) (He.glo_ok X N (and2 b2).2)
  refine ⟨fun x e => ?_, fun x f e => ?_, fun x i d e1 e2 => ?_, fun f a e => ?_, fun x i e => ?_, fun i C e1 e2 => ?_, fun i j C C' e1 e2 e3 e4 => ?_, fun i C wd e1 e2 => ?_, fun i C wd e1 e2 P W base => ?_, fun i C e1 e2 P W base => ?_⟩
  · have hm := PySem.mem_of_lookup e
    exact He.free_ok X N (fact_at (.free x) (List.mem_filterMap.mpr ⟨(x, .bi), hm, rfl⟩))
  · have hm := PySem.mem_of_lookup e
    have h1 := He.glo_ok X N (fact_at (.glo x) (List.mem_filterMap.mpr ⟨(x, .fn f), hm, rfl⟩))
    have h2 := of_decide_eq_true (show decide (rows[f]?.map (fun r => r.d.at_.1) = some x) = true from List.all_eq_true.mp hg (x, .fn f) hm)
    cases hr2 : rows[f]? with
    | none => rw [hr2] at h2; cases h2
    | some r =>
      rw [hr2] at h2
      have h2 : r.d.at_.1 = x := Option.some.inj h2
      obtain ⟨fd, F⟩ := fun_at f r hr2
      have h8 : r.d.at_.2.isNone = true := by
        have hb := row_at f r hr2
        unfold rowB at hb
        obtain ⟨hb, _⟩ := and2 hb
        obtain ⟨hb, _⟩ := and2 hb
        obtain ⟨hb, _⟩ := and2 hb
        obtain ⟨hb, _⟩ := and2 hb
        obtain ⟨hb, _⟩ := and2 hb
        obtain ⟨hb, _⟩ := and2 hb
        exact (and2 hb).2
      have e8 : He.fAd K r.d.at_ = He.ga K x := by
        unfold He.fAd
        rw [Option.isNone_iff_eq_none.mp h8, h2]
      refine ⟨He.ga K x, h1, ?_, by rw [← e8]; exact F.kp⟩
      show rows[f]?.map (fun r => He.ga K r.d.at_.1) = _
      rw [hr2, ← h2]
      rfl
  · have hm := PySem.mem_of_lookup e1
    obtain ⟨v, u, k1, k2, k3⟩ := c.con X N (x := x) (d := d) (List.mem_filterMap.mpr ⟨(x, .dat i), hm, by
      show (globs[i]?.map fun d => (x, d)) = _
      rw [show globs[i]? = some d from e2]
      rfl⟩)
    exact ⟨v, u, k1, k2, fun rs H ρ => k3 _ H ρ⟩
  · have e : rows[f]?.map (fun r => He.ga K r.d.at_.1) = some a := e
    cases hr2 : rows[f]? with
    | none => rw [hr2] at e; cases e
    | some r =>
      rw [hr2] at e
      cases e
      obtain ⟨fd, F⟩ := fun_at f r hr2
      refine row_ok (row_at f r hr2) F ?_
      show (rows.map fun r => r.fm)[f]? = _
      rw [List.getElem?_map, hr2]
      rfl
  · have hm := PySem.mem_of_lookup e
    have h2 := of_decide_eq_true (show decide (crs[i]?.map (fun r => r.name) = some x) = true from List.all_eq_true.mp hg (x, .cls i) hm)
    obtain ⟨r, hr2, e2⟩ := Option.map_eq_some_iff.mp h2
    obtain ⟨k1, k2, _⟩ := cls_at i r hr2
    rw [e2] at k1 k2
    refine ⟨He.ga K x, k1, ?_, k2⟩
    show crs[i]?.map (fun r => He.ga K r.name) = _
    rw [hr2, ← e2]
    rfl
  · obtain ⟨r, hr2, rfl⟩ := z_at i C e1
    refine (cls_at i r hr2).2.2 ?_
    have e2 : (match (tbOf rows crs globs).cls[i]? with
      | some cl => cl.err
      | none => false) = true := e2
    rw [t_at i r hr2] at e2
    exact e2
  · obtain ⟨r, hr2, rfl⟩ := z_at i C e1
    obtain ⟨s, hs2, rfl⟩ := z_at j C' e2
    have e3 : (match (tbOf rows crs globs).cls[i]? with
      | some cl => cl.err
      | none => false) = true := e3
    have e4 : (match (tbOf rows crs globs).cls[j]? with
      | some cl => cl.err
      | none => false) = true := e4
    rw [t_at i r hr2] at e3
    rw [t_at j s hs2] at e4
    have li : i < crs.length := (List.getElem?_eq_some_iff.mp hr2).1
    have lj : j < crs.length := (List.getElem?_eq_some_iff.mp hs2).1
    have z := List.all_eq_true.mp (List.all_eq_true.mp c2 i (List.mem_range.mpr li)) j (List.mem_range.mpr lj)
    rw [hr2, hs2] at z
    have z : (!(r.err && s.err) || (decide (PySem.W.exmOne K (.ref (He.ga K r.name)) (.ref (He.ga K s.name)) = some (r.up.contains j)) && decide (PySem.W.kitOne K (.ref (He.ga K r.name)) (.ref (He.ga K s.name)) = some (r.up.contains j)))) = true := z
    have e3 : r.err = true := e3
    have e4 : s.err = true := e4
    rw [e3, e4] at z
    obtain ⟨z1, z2⟩ := and2 z
    have ei : (tbOf rows crs globs).isa i j = r.up.contains j := by
      show (match (tbOf rows crs globs).cls[i]? with
        | some cl => cl.up.contains j
        | none => false) = _
      rw [t_at i r hr2]
    rw [ei]
    exact ⟨of_decide_eq_true z1, of_decide_eq_true z2⟩
  · obtain ⟨h1, h2⟩ := own i C wd e1 e2
    exact ⟨h1, fun P W base => (h2 P W base).1⟩
  · exact ((own i C wd e1 e2).2 P W base).2
  · obtain ⟨r, hr2, rfl⟩ := z_at i C e1
    have e2 : (match (tbOf rows crs globs).cls[i]? with
      | some cl => cl.bare
      | none => false) = true := e2
    rw [t_at i r hr2] at e2
    obtain ⟨d, hd⟩ := Option.isSome_iff_exists.mp (show r.bare.isSome = true from e2)
    have b1 := List.all_eq_true.mp hc2 r (List.mem_of_getElem? hr2)
    have b2 := List.all_eq_true.mp c4 r (List.mem_of_getElem? hr2)
    rw [hd] at b1 b2
    obtain ⟨b3, b4⟩ := and2 b1
    exact bare_ok c.d (List.mem_append_right _ (List.mem_flatMap.mpr ⟨r, List.mem_of_getElem? hr2, List.mem_append_right _ (by rw [hd]; exact List.mem_singleton.mpr rfl)⟩)) b4 b2 ((cls_at i r hr2).2.2 b3) P W base
end MP

set_option autoImplicit false
set_option linter.all false
set_option maxRecDepth 100000
/-! Mq0: reasoning about runs of the small language. -/
namespace MP
theorem sget_ap {α : Type} : ∀ (u : List α) (r : List α) (k : Nat), k < r.length → sget (u ++ r) k = sget r k
  | [], _, _, _ => rfl
  | o :: u, r, k, h => by
    show (if k = (u ++ r).length then some o else sget (u ++ r) k) = sget r k
    rw [if_neg (by simp; omega), sget_ap u r k h]
theorem sput_ap {α : Type} (x : α) : ∀ (u : List α) (r : List α) (k : Nat), k < r.length → sput (u ++ r) k x = u ++ sput r k x
  | [], _, _, _ => rfl
  | o :: u, r, k, h => by
    show (if k = (u ++ r).length then x :: (u ++ r) else o :: sput (u ++ r) k x) = o :: (u ++ sput r k x)
    rw [if_neg (by simp; omega), sput_ap x u r k h]
theorem sg_top {α : Type} (o : α) (r : List α) : sget (o :: r) r.length = some o := by
  show (if r.length = r.length then some o else sget r r.length) = some o
  rw [if_pos rfl]
theorem sp_top {α : Type} (o x : α) (r : List α) : sput (o :: r) r.length x = x :: r := by
  show (if r.length = r.length then x :: r else o :: sput r r.length x) = x :: r
  rw [if_pos rfl]
theorem sget_at {α : Type} (u : List α) (o : α) (r : List α) : sget (u ++ o :: r) r.length = some o := by
  rw [sget_ap u (o :: r) r.length (by simp), sg_top]
theorem sput_at {α : Type} (u : List α) (o x : α) (r : List α) : sput (u ++ o :: r) r.length x = u ++ x :: r := by
  rw [sput_ap x u (o :: r) r.length (by simp), sp_top]
theorem strunc_ap {α : Type} : ∀ (u r : List α), strunc (u ++ r) r.length = r
  | [], [] => rfl
  | [], o :: r => by
    show (if r.length + 1 ≤ r.length then strunc r (r.length + 1) else o :: r) = o :: r
    rw [if_neg (by omega)]
  | o :: u, r => by
    show (if r.length ≤ (u ++ r).length then strunc (u ++ r) r.length else o :: (u ++ r)) = r
    rw [if_pos (by simp), strunc_ap u r]
theorem strunc_self {α : Type} (r : List α) : strunc r r.length = r := strunc_ap [] r
/-- the deck: what is left of a number, the next cell, the seed, the cells, the count -/
def deckO (a i s : Int) (cs : List Int) (c : Int) : Ob := .lst [.int a, .int i, .int s, .lst (cs.map .int), .int c]
/-- a deck that draws may be made from -/
def DeckOk (o : Ob) : Prop := ∃ a i s cs c, o = deckO a i s cs c ∧ 0 ≤ i
end MP
namespace MP
theorem sget_last {α : Type} (u : List α) (o : α) : sget (u ++ [o]) 0 = some o := sget_at u o []
theorem sput_last {α : Type} (u : List α) (o x : α) : sput (u ++ [o]) 0 x = u ++ [x] := sput_at u o x []
end MP

set_option autoImplicit false
set_option linter.all false
set_option maxRecDepth 100000
set_option maxHeartbeats 1000000
namespace MP
open ME MS
def drawB : MS := (.seq (.ite (.an (.cmp .eq (.ix (.var 0) (.k (.int 0))) (.k (.int 0))) (.cmp .lt (.ix (.var 0) (.k (.int 1))) (.bi .len false (.cons (.ix (.var 0) (.k (.int 3))) .no))))
 (.seq (.sasg (.var 0) (.k (.int 0)) (.bi .abs false (.cons (.ix (.ix (.var 0) (.k (.int 3))) (.ix (.var 0) (.k (.int 1)))) .no)))
 (.seq (.sasg (.var 0) (.k (.int 1)) (.bin .add false (.ix (.var 0) (.k (.int 1))) (.k (.int 1))))
 .skip))
 (.seq (.ite (.cmp .eq (.ix (.var 0) (.k (.int 0))) (.k (.int 0)))
 (.seq (.sasg (.var 0) (.k (.int 4)) (.bin .add false (.ix (.var 0) (.k (.int 4))) (.k (.int 1))))
 (.seq (.asg (.var 3) (.bin .mod false (.bi .int false (.cons (.bin .add false (.bin .add false (.bin .mul false (.ix (.var 0) (.k (.int 2))) (.k (.int 48271))) (.bin .mul false (.ix (.var 0) (.k (.int 4))) (.k (.int 69621)))) (.k (.int 12345))) .no)) (.k (.int 2147483647))))
 (.seq (.asg (.var 3) (.bin .mod false (.bi .int false (.cons (.bin .add false (.bin .add false (.bin .mul false (.var 3) (.var 3)) (.bin .mul false (.k (.int 16807)) (.ix (.var 0) (.k (.int 4))))) (.k (.int 7))) .no)) (.k (.int 998244353))))
 (.seq (.asg (.var 3) (.bin .mod false (.bi .int false (.cons (.bin .add false (.bin .add false (.bin .mul false (.var 3) (.var 3)) (.bin .mul false (.k (.int 48271)) (.ix (.var 0) (.k (.int 4))))) (.ix (.var 0) (.k (.int 2)))) .no)) (.k (.int 2147483629))))
 (.seq (.sasg (.var 0) (.k (.int 0)) (.bin .fdiv false (.var 3) (.k (.int 13))))
 .skip)))))
 .skip)
 .skip))
 (.seq (.asg (.var 2) (.bin .mod false (.bi .int false (.cons (.ix (.var 0) (.k (.int 0))) .no)) (.var 1)))
 (.seq (.sasg (.var 0) (.k (.int 0)) (.bin .fdiv false (.ix (.var 0) (.k (.int 0))) (.var 1)))
 (.seq (.ret (.var 2))
 .skip))))
section
variable {C : Cal} {b : Nat} {st : Store} {a i s c : Int} {cs : List Int} {env : Env}
/-- an item of the deck -/
theorem deck_ix {j : Nat} {n : Int} {d : D} (hd : sget st 0 = some (deckO a i s cs c)) (he : env[0]? = some (some (.loc 0))) (hn : at? [D.int a, .int i, .int s, .lst (cs.map .int), .int c] n = some d) : den C b (.ix (.var 0) (.k (.int n))) env st = .ok d st := by
  have e1 : den C b (.var 0) env st = .ok (.loc 0) st := by
    show (match env[0]? with
      | some (some d) => Res.ok d st
      | _ => .bad) = _
    rw [he]
  show (den C b (.var 0) env st).then (fun u st1 => (Res.ok (.int n) st1).then fun j st2 => ixD u j st2) = _
  rw [e1]
  show ixS (.loc 0) (.int n) st = _
  unfold ixS
  have e2 : dctOf st (.loc 0) = none := by
    show (match sget st 0 with
      | some (.dct t kvs) => some (t, kvs)
      | _ => none) = none
    rw [hd]; rfl
  have e3 : seqOf st (.loc 0) = some [D.int a, .int i, .int s, .lst (cs.map .int), .int c] := by
    show (match sget st 0 with
      | some (.lst xs) => some xs
      | _ => none) = _
    rw [hd]; rfl
  rw [e2]
  simp only
  rw [e3]
  simp only
  rw [hn]
  rfl
end
end MP

set_option autoImplicit false
set_option linter.all false
set_option maxRecDepth 100000
set_option maxHeartbeats 4000000
namespace MP
open ME MS
/-- a body returns, and so -/
def Fl.ret (r : Fl) (P : D → Store → Prop) : Prop := match r with
  | .rt d st => P d st
  | _ => False
theorem Fl.ret_eq {r : Fl} {P : D → Store → Prop} (h : r.ret P) : ∃ d st, r = .rt d st ∧ P d st := by
  cases r with
  | rt d st => exact ⟨d, st, rfl, h⟩
  | _ => exact h.elim
theorem ret_rt {d : D} {st : Store} {P : D → Store → Prop} : (Fl.rt d st).ret P = P d st := rfl
section
variable {α β : Type} {a : α} {st : Store} {f : α → Store → Res β} {env : Env} {d : D}
theorem then_ok : (Res.ok a st).then f = f a st := rfl
theorem then_exc {x : D} : (Res.exc x st : Res α).then f = .exc x st := rfl
theorem fl_ok {g : α → Store → Fl} : (Res.ok a st).fl env g = g a st := rfl
theorem next_nx {g : Env → Store → Fl} : (Fl.nx env st).next g = g env st := rfl
theorem next_rt {g : Env → Store → Fl} : (Fl.rt d st).next g = .rt d st := rfl
theorem next_bk {g : Env → Store → Fl} : (Fl.bk env st).next g = .bk env st := rfl
theorem of_some {o : α} : Res.of (some o) st = .ok o st := rfl
theorem flof_some : Fl.of (some env) st = .nx env st := rfl
theorem calm_ok : (Res.ok a st).calm = .ok a st := rfl
end
section
variable (C : Cal) (b : Nat) (env : Env) (st : Store)
theorem den_k (d : D) : den C b (.k d) env st = .ok d st := rfl
theorem den_no : den C b .no env st = .ok (.tup []) st := rfl
theorem den_cons (a r : ME) : den C b (.cons a r) env st = (den C b a env st).then fun x st1 => (den C b r env st1).then fun xs st2 => (match xs with
    | .tup ys => .ok (.tup (x :: ys)) st2
    | _ => .bad) := rfl
theorem den_bin (o : BOp) (m : Bool) (x y : ME) : den C b (.bin o m x y) env st = (den C b x env st).then fun u st1 => (den C b y env st1).then fun v st2 => binop o m u v st2 := rfl
theorem den_ix (x i : ME) : den C b (.ix x i) env st = (den C b x env st).then fun u st1 => (den C b i env st1).then fun j st2 => ixD u j st2 := rfl
end
/-- the number that follows is small -/
theorem mod_in (x m : Int) (h : 0 < m) (h2 : m < 18446744073709551616) : (-(2 ^ 64) < x % m ∧ x % m < 2 ^ 64) := by
  have h3 := Int.emod_nonneg x (Int.ne_of_gt h)
  have h4 := Int.emod_lt_of_pos x h
  constructor <;> omega
theorem mod_in1 (x : Int) : (-18446744073709551616 < x % 2147483647 ∧ x % 2147483647 < 18446744073709551616) = True := eq_true (by
  have := mod_in x 2147483647 (by decide) (by decide)
  omega)
theorem mod_in2 (x : Int) : (-18446744073709551616 < x % 998244353 ∧ x % 998244353 < 18446744073709551616) = True := eq_true (by
  have := mod_in x 998244353 (by decide) (by decide)
  omega)
theorem draw_exec {C : Cal} {b : Nat} {up : Store} {a i s c bound : Int} {cs : List Int} {P : D → Store → Prop} (hb : 0 < bound) (hb2 : bound < 1073741824) (hi : 0 ≤ i) (h : ∀ v o', DeckOk o' → 0 ≤ v → v < bound → P (.int v) (up ++ [o'])) :
    (exec C b drawB [some (.loc 0), some (.int bound), none, none] (up ++ [deckO a i s cs c])).ret P := by
  have h3 : ∀ x : Int, 0 ≤ x % bound := fun x => Int.emod_nonneg x (Int.ne_of_gt hb)
  have h4 : ∀ x : Int, x % bound < bound := fun x => Int.emod_lt_of_pos x hb
  have fin : ∀ a' i' s' c' x, 0 ≤ i' → P (D.int (x % bound)) (up ++ [Ob.lst [.int a', .int i', .int s', .lst (cs.map D.int), .int c']]) :=
    fun a' i' s' c' x hi' => h _ _ ⟨a', i', s', cs, c', rfl, hi'⟩ (h3 x) (h4 x)
  by_cases ha : a = 0
  · subst ha
    by_cases hil : i < cs.length
    · have hj : ∃ z, cs[i.toNat]? = some z := ⟨cs[i.toNat]'(by omega), by simp⟩
      obtain ⟨z, hz⟩ := hj
      simp [drawB, exec, den, deckO, then_ok, fl_ok, next_nx, next_rt, of_some, flof_some, needB, truth, cmpop, ixD, ixS, dctOf, seqOf, sget_last, sput_last, at?, ixn, deref, DEEP, eqd, hil, hi, hz, bfun, bfun1, lenD, putD, putL, stput, under, binop, asgN, intD, newL, hb, hb2, ret_rt]
      exact fin _ _ _ _ _ (by omega)
    · simp [drawB, exec, den, deckO, then_ok, fl_ok, next_nx, next_rt, of_some, flof_some, needB, truth, cmpop, ixD, ixS, dctOf, seqOf, sget_last, sput_last, at?, ixn, deref, DEEP, eqd, hil, bfun, bfun1, lenD, putD, putL, stput, under, binop, asgN, intD, newL, mod_in1, mod_in2, hb, hb2, ret_rt]
      exact fin _ _ _ _ _ hi
  · simp [drawB, exec, den, deckO, then_ok, fl_ok, next_nx, next_rt, of_some, flof_some, needB, truth, cmpop, ixD, ixS, dctOf, seqOf, sget_last, sput_last, at?, ixn, deref, DEEP, eqd, ha, bfun, bfun1, lenD, putD, putL, stput, under, binop, asgN, intD, newL, hb, hb2, ret_rt]
    exact fin _ _ _ _ _ hi
end MP

set_option autoImplicit false
set_option linter.all false
set_option maxRecDepth 100000
/-! Mr0: what a run of the small language comes to, rule by rule, backwards; E, Ex: what is true of a raised thing. -/
namespace MP
open ME MS
def Res.satX {α : Type} (r : Res α) (P : α → Store → Prop) (E : D → Store → Prop) : Prop := match r with
  | .ok a st => P a st
  | .exc x st => E x st
  | .bad => False
def Fl.satX (r : Fl) (N : Env → Store → Prop) (R : D → Store → Prop) (E : D → Env → Store → Prop) : Prop := match r with
  | .nx env st => N env st
  | .rt d st => R d st
  | .exc x env st => E x env st
  | _ => False
abbrev Res.sat {α : Type} (r : Res α) (P : α → Store → Prop) : Prop := r.satX P (fun _ _ => False)
abbrev Fl.sat (r : Fl) (N : Env → Store → Prop) (R : D → Store → Prop) : Prop := r.satX N R (fun _ _ _ => False)
/-- a row of values -/
def Tp (P : List D → Store → Prop) (d : D) (st : Store) : Prop := ∃ ys, d = .tup ys ∧ P ys st
theorem Res.sat_eq {α : Type} {r : Res α} {P : α → Store → Prop} (h : r.sat P) : ∃ a st, r = .ok a st ∧ P a st := by
  cases r with
  | ok a st => exact ⟨a, st, rfl, h⟩
  | exc x st => exact h.elim
  | bad => exact h.elim
section
variable {α β : Type} {E : D → Store → Prop}
/-- nothing is raised -/
theorem up {r : Res α} {P : α → Store → Prop} (h : r.sat P) : r.satX P E := by
  obtain ⟨a, st, rfl, h3⟩ := Res.sat_eq h
  exact h3
theorem s_ok {r : Res α} {P : α → Store → Prop} {a : α} {st : Store} (h : r = .ok a st) (h2 : P a st) : r.satX P E := by subst h; exact h2
theorem s_of {o : Option α} {P : α → Store → Prop} {a : α} {st : Store} (h : o = some a) (h2 : P a st) : (Res.of o st).satX P E := by subst h; exact h2
theorem s_imp {r : Res α} {P Q : α → Store → Prop} (h : r.satX P E) (h2 : ∀ a st, P a st → Q a st) : r.satX Q E := by
  cases r with
  | ok a st => exact h2 a st h
  | exc x st => exact h
  | bad => exact h
theorem s_impX {r : Res α} {P Q : α → Store → Prop} {E' : D → Store → Prop} (h : r.satX P E) (h2 : ∀ a st, P a st → Q a st) (h3 : ∀ x st, E x st → E' x st) : r.satX Q E' := by
  cases r with
  | ok a st => exact h2 a st h
  | exc x st => exact h3 x st h
  | bad => exact h
theorem s_then {r : Res α} {f : α → Store → Res β} {P : β → Store → Prop} (h : r.satX (fun a st => (f a st).satX P E) E) : (r.then f).satX P E := by
  cases r with
  | ok a st => exact h
  | exc x st => exact h
  | bad => exact h
theorem s_calm {r : Res α} {P : α → Store → Prop} (h : r.sat P) : r.calm.satX P E := by
  obtain ⟨a, st, rfl, h3⟩ := Res.sat_eq h
  exact h3
theorem s_need {r : Res D} {P : Bool → Store → Prop} (h : r.satX (fun u st => ∃ t, truth st u = some t ∧ P t st) E) : (needB r).satX P E := by
  refine s_then (s_imp h ?_)
  rintro a st ⟨t, h1, h2⟩
  exact s_of h1 h2
end
section
variable {α : Type} {Ex : D → Env → Store → Prop}
theorem s_fl {r : Res α} {env : Env} {f : α → Store → Fl} {N : Env → Store → Prop} {R : D → Store → Prop} (h : r.satX (fun a st => (f a st).satX N R Ex) (fun x st => Ex x env st)) : (r.fl env f).satX N R Ex := by
  cases r with
  | ok a st => exact h
  | exc x st => exact h
  | bad => exact h
theorem upF {r : Fl} {N : Env → Store → Prop} {R : D → Store → Prop} (h : r.sat N R) : r.satX N R Ex := by
  cases r with
  | nx e s => exact h
  | rt d s => exact h
  | bk e s => exact h
  | exc x e s => exact h.elim
  | bad => exact h
end
theorem e_some {α : Type} {o : Option α} {P : α → Prop} {a : α} (h : o = some a) (h2 : P a) : ∃ a, o = some a ∧ P a := ⟨a, h, h2⟩
theorem e_rcv {f : Bm} {u : D} {st : Store} {Q : Prop} (h : rcv f u st = true) (h2 : Q) : rcv f u st = true ∧ Q := ⟨h, h2⟩
theorem and_t {t : Bool} {A B : Prop} (h : t = true) (h2 : A) : (t = true → A) ∧ (t = false → B) := ⟨fun _ => h2, fun h3 => by rw [h] at h3; exact (nomatch h3)⟩
theorem and_f {t : Bool} {A B : Prop} (h : t = false) (h2 : B) : (t = true → A) ∧ (t = false → B) := ⟨fun h3 => by rw [h] at h3; exact (nomatch h3), fun _ => h2⟩
theorem e_neg {u : D} {P : Int → Prop} {i : Int} (h : u = .int i) (h2 : P i) : ∃ i, u = .int i ∧ P i := ⟨i, h, h2⟩
section
variable {C : Cal} {b : Nat} {env : Env} {st : Store} {P : D → Store → Prop} {Q : List D → Store → Prop} {x y z a r es i it c e t : ME} {u v d : D} {E : D → Store → Prop} {Ex : D → Env → Store → Prop}
theorem t_no (h : Q [] st) : (den C b .no env st).satX (Tp Q) E := ⟨[], rfl, h⟩
theorem t_cons (h : (den C b a env st).satX (fun x st1 => (den C b r env st1).satX (Tp fun ys st2 => Q (x :: ys) st2) E) E) : (den C b (.cons a r) env st).satX (Tp Q) E := by
  refine s_then (s_imp h ?_)
  intro x st1 h1
  refine s_then (s_imp h1 ?_)
  rintro _ st2 ⟨ys, rfl, h2⟩
  exact ⟨_, rfl, h2⟩
theorem t_star (h : (den C b a env st).satX (fun x st1 => ∃ zs, seqOf st1 x = some zs ∧ (den C b r env st1).satX (Tp fun ys st2 => zs.length + ys.length ≤ LINE ∧ Q (zs ++ ys) st2) E) E) : (den C b (.star a r) env st).satX (Tp Q) E := by
  refine s_then (s_imp h ?_)
  rintro x st1 ⟨zs, h0, h1⟩
  simp only [h0]
  refine s_then (s_imp h1 ?_)
  rintro _ st2 ⟨ys, rfl, h2, h3⟩
  simp only [h2, if_pos]
  exact ⟨_, rfl, h3⟩
theorem s_k (h : P d st) : (den C b (.k d) env st).satX P E := h
theorem s_var {i : Nat} (he : env[i]? = some (some d)) (h : P d st) : (den C b (.var i) env st).satX P E := by
  show (match env[i]? with
    | some (some d) => Res.ok d st
    | _ => .bad).satX P E
  rw [he]
  exact h
theorem s_gl {i : Nat} (hg : C.glob i = some d) (h : P d st) : (den C b (.gl i) env st).satX P E := s_of hg h
theorem s_bin {o : BOp} {m : Bool} (h : (den C b x env st).satX (fun u st1 => (den C b y env st1).satX (fun v st2 => (binop o m u v st2).satX P E) E) E) : (den C b (.bin o m x y) env st).satX P E :=
  s_then (s_imp h fun _ _ h1 => s_then h1)
theorem s_neg (h : (den C b x env st).satX (fun u st1 => ∃ i, u = .int i ∧ P (.int (-i)) st1) E) : (den C b (.neg x) env st).satX P E := by
  refine s_then (s_imp h ?_)
  rintro _ st1 ⟨i, rfl, h1⟩
  exact h1
theorem s_nt (h : (den C b x env st).satX (fun u st1 => ∃ t, truth st1 u = some t ∧ P (.bl (!t)) st1) E) : (den C b (.nt x) env st).satX P E :=
  s_then (s_need h)
theorem s_an (h : (den C b x env st).satX (fun u st1 => ∃ t, truth st1 u = some t ∧ (t = true → (den C b y env st1).satX P E) ∧ (t = false → P u st1)) E) : (den C b (.an x y) env st).satX P E := by
  refine s_then (s_imp h ?_)
  rintro u st1 ⟨t, h1, h2, h3⟩
  simp only [h1]
  cases t
  · exact h3 rfl
  · exact h2 rfl
theorem s_or (h : (den C b x env st).satX (fun u st1 => ∃ t, truth st1 u = some t ∧ (t = true → P u st1) ∧ (t = false → (den C b y env st1).satX P E)) E) : (den C b (.or x y) env st).satX P E := by
  refine s_then (s_imp h ?_)
  rintro u st1 ⟨t, h1, h2, h3⟩
  simp only [h1]
  cases t
  · exact h3 rfl
  · exact h2 rfl
theorem s_cmp {o : COp} (h : (den C b x env st).satX (fun u st1 => (den C b y env st1).satX (fun v st2 => ∃ t, cmpop o u v st2 = some t ∧ P (.bl t) st2) E) E) : (den C b (.cmp o x y) env st).satX P E := by
  refine s_then (s_imp h fun u st1 h1 => s_then (s_imp h1 ?_))
  rintro v st2 ⟨t, h2, h3⟩
  exact s_of (by rw [h2]; rfl) h3
theorem s_cmp2 {o p : COp} (h : (den C b x env st).satX (fun u st1 => (den C b y env st1).satX (fun v st2 => ∃ t, cmpop o u v st2 = some t ∧ (t = true → (den C b z env st2).satX (fun w st3 => ∃ t', cmpop p v w st3 = some t' ∧ P (.bl t') st3) E) ∧ (t = false → P (.bl false) st2)) E) E) : (den C b (.cmp2 o p x y z) env st).satX P E := by
  refine s_then (s_imp h fun u st1 h1 => s_then (s_imp h1 ?_))
  rintro v st2 ⟨t, h2, h3, h4⟩
  simp only [h2]
  cases t
  · exact h4 rfl
  · refine s_then (s_imp (h3 rfl) ?_)
    rintro w st3 ⟨t', h5, h6⟩
    exact s_of (by rw [h5]; rfl) h6
theorem s_isn (h : (den C b x env st).satX (fun u st1 => P (.bl (nonB u)) st1) E) : (den C b (.isn x) env st).satX P E := s_then h
theorem s_notn (h : (den C b x env st).satX (fun u st1 => P (.bl (!nonB u)) st1) E) : (den C b (.notn x) env st).satX P E := s_then h
theorem s_ite (h : (den C b c env st).satX (fun u st1 => ∃ t, truth st1 u = some t ∧ (t = true → (den C b x env st1).satX P E) ∧ (t = false → (den C b y env st1).satX P E)) E) : (den C b (.ite c x y) env st).satX P E := by
  refine s_then (s_need (s_imp h ?_))
  rintro u st1 ⟨t, h1, h2, h3⟩
  refine ⟨t, h1, ?_⟩
  cases t
  · exact h3 rfl
  · exact h2 rfl
theorem s_tup (h : (den C b es env st).satX (Tp fun xs st1 => P (.tup xs) st1) E) : (den C b (.tup es) env st).satX P E := by
  refine s_then (s_imp h ?_)
  rintro _ st1 ⟨xs, rfl, h1⟩
  exact h1
theorem s_lstF (h : (den C b es env st).satX (Tp fun xs st1 => P (.lst xs) st1) E) : (den C b (.lst false es) env st).satX P E := by
  refine s_then (s_imp h ?_)
  rintro _ st1 ⟨xs, rfl, h1⟩
  exact h1
theorem s_lstT (h : (den C b es env st).satX (Tp fun xs st1 => P (.loc st1.length) (.lst xs :: st1)) E) : (den C b (.lst true es) env st).satX P E := by
  refine s_then (s_imp h ?_)
  rintro _ st1 ⟨xs, rfl, h1⟩
  exact h1
theorem s_ix (h : (den C b x env st).satX (fun u st1 => (den C b i env st1).satX (fun j st2 => (ixD u j st2).satX P E) E) E) : (den C b (.ix x i) env st).satX P E :=
  s_then (s_imp h fun _ _ h1 => s_then h1)
theorem s_sl {m : Bool} {lo hi : ME} (h : (den C b x env st).satX (fun u st1 => (den C b lo env st1).satX (fun l st2 => ∃ l', optI l = some l' ∧ (den C b hi env st2).satX (fun g st3 => ∃ g', optI g = some g' ∧ (slD m u l' g' st3).satX P E) E) E) E) : (den C b (.sl m x lo hi) env st).satX P E := by
  refine s_then (s_imp h fun u st1 h1 => s_then (s_imp h1 ?_))
  rintro l st2 ⟨l', h2, h3⟩
  simp only [h2]
  refine s_then (s_imp h3 ?_)
  rintro g st3 ⟨g', h4, h5⟩
  simp only [h4]
  exact h5
theorem s_bi {f : Bi} {m : Bool} (h : (den C b es env st).satX (Tp fun xs st1 => (bfun C.isa f m xs st1).satX P E) E) : (den C b (.bi f m es) env st).satX P E := by
  refine s_then (s_imp h ?_)
  rintro _ st1 ⟨xs, rfl, h1⟩
  exact h1
theorem s_bm {f : Bm} {m : Bool} (h : (den C b x env st).satX (fun u st1 => rcv f u st1 = true ∧ (den C b es env st1).satX (Tp fun xs st2 => (bmeth b f m u xs st2).satX P E) E) E) : (den C b (.bm f m x es) env st).satX P E := by
  refine s_then (s_imp h ?_)
  rintro u st1 ⟨h0, h1⟩
  simp only [h0, if_true]
  refine s_then (s_imp h1 ?_)
  rintro _ st2 ⟨xs, rfl, h2⟩
  exact h2
theorem s_fc {f : Nat} {keep : Bool} (h : (den C b es env st).satX (Tp fun xs st1 => (C.fn f keep xs st1).satX P E) E) : (den C b (.fc f keep es) env st).satX P E := by
  refine s_then (s_imp h ?_)
  rintro _ st1 ⟨xs, rfl, h1⟩
  exact h1
theorem s_fld {f : Nat} (h : (den C b x env st).satX (fun u st1 => ∃ d, getF u f st1 = some d ∧ P d st1) E) : (den C b (.fld x f) env st).satX P E := by
  refine s_then (s_imp h ?_)
  rintro u st1 ⟨d, h1, h2⟩
  exact s_of h1 h2
theorem s_newF {xs : List D} (h : P (.lst xs) st) : (newL false xs st).satX P E := h
theorem s_newT {xs : List D} (h : P (.loc st.length) (.lst xs :: st)) : (newL true xs st).satX P E := h
theorem s_mx0 {c : Nat} {w : List Nat} (hw : C.word c = some w) (h : P (.exc c (.str w) .non) st) : (den C b (.mx0 c) env st).satX P E := by
  show (match C.word c with
    | some w => Res.ok (D.exc c (.str w) .non) st
    | none => .bad).satX P E
  rw [hw]; exact h
theorem s_mx1 {c : Nat} {w : List Nat} (hw : C.word c = some w) (h : (den C b x env st).satX (fun d st1 => P (.exc c (.str w) d) st1) E) : (den C b (.mx1 c x) env st).satX P E := by
  show (match C.word c with
    | some w => (den C b x env st).then fun p st1 => Res.ok (D.exc c (.str w) p) st1
    | none => .bad).satX P E
  rw [hw]; exact s_then h
theorem s_my1 {c : Nat} (hw : C.bare c = true) (h : (den C b x env st).satX (fun d st1 => P (.exc c d .non) st1) E) : (den C b (.my1 c x) env st).satX P E := by
  show (if C.bare c then (den C b x env st).then fun w st1 => Res.ok (D.exc c w .non) st1 else .bad).satX P E
  rw [hw, if_pos rfl]; exact s_then h
theorem s_my2 {c : Nat} (hw : C.bare c = true) (h : (den C b x env st).satX (fun d st1 => (den C b y env st1).satX (fun p st2 => P (.exc c d p) st2) E) E) : (den C b (.my2 c x y) env st).satX P E := by
  show (if C.bare c then (den C b x env st).then fun w st1 => (den C b y env st1).then fun p st2 => Res.ok (D.exc c w p) st2 else .bad).satX P E
  rw [hw, if_pos rfl]; exact s_then (s_imp h fun d st1 h1 => s_then h1)
theorem s_ew (h : (den C b x env st).satX (fun u st1 => ∃ c w p, u = .exc c w p ∧ C.err c = true ∧ P w st1) E) : (den C b (.ew x) env st).satX P E := by
  refine s_then (s_imp h ?_)
  rintro u st1 ⟨c, w, p, rfl, he, h2⟩
  show (if C.err c then Res.ok w st1 else .bad).satX P E
  rw [he, if_pos rfl]; exact h2
theorem s_ep (h : (den C b x env st).satX (fun u st1 => ∃ c w p, u = .exc c w p ∧ C.err c = true ∧ P p st1) E) : (den C b (.ep x) env st).satX P E := by
  refine s_then (s_imp h ?_)
  rintro u st1 ⟨c, w, p, rfl, he, h2⟩
  show (if C.err c then Res.ok p st1 else .bad).satX P E
  rw [he, if_pos rfl]; exact h2
theorem s_ei {c' : Nat} (h : (den C b x env st).satX (fun u st1 => ∃ c w p, u = .exc c w p ∧ C.err c = true ∧ C.err c' = true ∧ P (.bl (C.isa c c')) st1) E) : (den C b (.ei x c') env st).satX P E := by
  refine s_then (s_imp h ?_)
  rintro u st1 ⟨c, w, p, rfl, he, he2, h2⟩
  show (if C.err c && C.err c' then Res.ok (.bl (C.isa c c')) st1 else .bad).satX P E
  rw [he, he2, Bool.and_self, if_pos rfl]; exact h2
theorem s_ev (h : (den C b x env st).satX (fun u st1 => ∃ c w p, u = .exc c w p ∧ C.err c = true ∧ P (.bl true) st1) E) : (den C b (.ev x) env st).satX P E := by
  refine s_then (s_imp h ?_)
  rintro u st1 ⟨c, w, p, rfl, he, h2⟩
  show (if C.err c then Res.ok (.bl true) st1 else .bad).satX P E
  rw [he, if_pos rfl]; exact h2
theorem e_exc {c : Nat} {w p : D} {Q : Nat → D → D → Prop} (h : Q c w p) : ∃ c' w' p', D.exc c w p = .exc c' w' p' ∧ Q c' w' p' := ⟨c, w, p, rfl, h⟩
theorem s_xw {k : Nat} {w p : D} (hc : C.cur = some (k, w, p)) (h : P w st) : (den C b .xw env st).satX P E := by
  show (match C.cur with
    | some (_, w, _) => Res.ok w st
    | none => .bad).satX P E
  rw [hc]; exact h
theorem s_xp {k : Nat} {w p : D} (hc : C.cur = some (k, w, p)) (h : P p st) : (den C b .xp env st).satX P E := by
  show (match C.cur with
    | some (_, _, p) => Res.ok p st
    | none => .bad).satX P E
  rw [hc]; exact h
theorem s_xi {k n : Nat} {w p : D} (hc : C.cur = some (k, w, p)) (he : C.err n = true) (h : P (.bl (C.isa k n)) st) : (den C b (.xi n) env st).satX P E := by
  show (match C.cur with
    | some (k, _, _) => if C.err n then Res.ok (D.bl (C.isa k n)) st else .bad
    | none => .bad).satX P E
  rw [hc]
  simp only [he, if_true]
  exact h
theorem s_xv {k : Nat} {w p : D} (hc : C.cur = some (k, w, p)) (h : P (.bl true) st) : (den C b .xv env st).satX P E := by
  show (match C.cur with
    | some _ => Res.ok (D.bl true) st
    | none => .bad).satX P E
  rw [hc]; exact h
theorem s_lc {m : Bool} {own : List Nat} (h : (denIt C b it env st).satX (fun p st1 => (compGo (fun s x => asgN s t x (wipeE env own)) (fun v s => if noB c then .ok true s else (needB (den C b c v s)).calm) (fun v s => (den C b e v s).calm) p.2 p.1 st1).satX (fun ds st2 => (newL m ds st2).satX P E) E) E) : (den C b (.lc m own t it c e) env st).satX P E :=
  s_then (s_imp h fun _ _ h1 => s_then h1)
variable {W : List D × Src → Store → Prop}
theorem i_rng1 (h : (den C b x env st).satX (fun u st1 => (rngD (.int 0) u st1).satX W E) E) : (denIt C b (.rng1 x) env st).satX W E := s_then h
theorem i_rng2 (h : (den C b x env st).satX (fun u st1 => (den C b y env st1).satX (fun v st2 => (rngD u v st2).satX W E) E) E) : (denIt C b (.rng2 x y) env st).satX W E := s_then (s_imp h fun _ _ h1 => s_then h1)
theorem i_enm (h : (den C b x env st).satX (fun u st1 => (enmD u st1).satX W E) E) : (denIt C b (.enm x) env st).satX W E := s_then h
theorem i_itr (h : (den C b x env st).satX (fun u st1 => (itrD u st1).satX W E) E) : (denIt C b (.itr x) env st).satX W E := s_then h
theorem i_zp (h : (den C b x env st).satX (fun u st1 => (den C b y env st1).satX (fun v st2 => (zpD u v st2).satX W E) E) E) : (denIt C b (.zp x y) env st).satX W E := s_then (s_imp h fun _ _ h1 => s_then h1)
theorem i_rng {hi : Int} (h1 : 0 ≤ hi) (h2 : hi ≤ 1000000) (h : W (rangeL 0 hi.toNat, []) st) : (rngD (.int 0) (.int hi) st).satX W E := by
  refine s_ok (st := st) (a := (rangeL 0 (hi - 0).toNat, [])) ?_ (by rw [Int.sub_zero]; exact h)
  show (if -(2 ^ 60) ≤ (0 : Int) ∧ (0 : Int) ≤ 2 ^ 60 ∧ -(2 ^ 60) ≤ hi ∧ hi ≤ 2 ^ 60 ∧ hi - 0 ≤ LINE then Res.ok (rangeL 0 (hi - 0).toNat, ([] : Src)) st else .bad) = _
  rw [if_pos ⟨by decide, by decide, by omega, by omega, by unfold LINE; omega⟩]
/-- a comprehension, what is true of the list so far kept -/
theorem c_inv {tg : Store → D → Option Env} {c : Env → Store → Res Bool} {e : Env → Store → Res D} {sr : Src} {Z : List D → Store → Prop} (I : List D → List D → List D → Store → Prop) (hu : ∀ dn rest acc st, I dn rest acc st → unchanged st sr = true)
    (hs : ∀ dn x rest acc st, I dn (x :: rest) acc st → ∃ env1, tg st x = some env1 ∧ (c env1 st).sat fun t st1 => (t = true → (e env1 st1).sat fun d st2 => I (dn ++ [x]) rest (acc ++ [d]) st2) ∧ (t = false → I (dn ++ [x]) rest acc st1))
    (hz : ∀ dn acc st, I dn [] acc st → Z acc st) : ∀ (xs dn acc : List D) (st : Store), I dn xs acc st → (compGo tg c e sr xs st).sat fun ds st' => Z (acc ++ ds) st'
  | [], dn, acc, st, h => by
    unfold compGo
    rw [if_pos (hu _ _ _ _ h)]
    show Z (acc ++ []) st
    rw [List.append_nil]; exact hz _ _ _ h
  | x :: xs, dn, acc, st, h => by
    obtain ⟨env1, h3, h4⟩ := hs dn x xs acc st h
    unfold compGo
    rw [if_pos (hu _ _ _ _ h), h3]
    refine s_then (s_imp h4 ?_)
    rintro t st1 ⟨h5, h6⟩
    cases t
    · exact c_inv I hu hs hz xs (dn ++ [x]) acc st1 (h6 rfl)
    · refine s_then (s_imp (h5 rfl) ?_)
      intro d st2 h7
      refine s_then (s_imp (c_inv I hu hs hz xs (dn ++ [x]) (acc ++ [d]) st2 h7) ?_)
      intro ds st3 h8
      rw [List.append_assoc] at h8
      exact h8
theorem c_loop {tg : Store → D → Option Env} {c : Env → Store → Res Bool} {e : Env → Store → Res D} {sr : Src} {Z : List D → Store → Prop} (I : List D → List D → List D → Store → Prop) (hu : ∀ dn rest acc st, I dn rest acc st → unchanged st sr = true)
    (hs : ∀ dn x rest acc st, I dn (x :: rest) acc st → ∃ env1, tg st x = some env1 ∧ (c env1 st).sat fun t st1 => (t = true → (e env1 st1).sat fun d st2 => I (dn ++ [x]) rest (acc ++ [d]) st2) ∧ (t = false → I (dn ++ [x]) rest acc st1))
    (hz : ∀ dn acc st, I dn [] acc st → Z acc st) (xs : List D) (st : Store) (h : I [] xs [] st) : (compGo tg c e sr xs st).satX Z E := by
  have := c_inv (Z := Z) I hu hs hz xs [] [] st h
  exact up this
variable {N : Env → Store → Prop} {R : D → Store → Prop} {s s' : MS}
theorem x_skip (h : N env st) : (exec C b .skip env st).satX N R Ex := h
theorem x_seq (h : (exec C b s env st).satX (fun env' st' => (exec C b s' env' st').satX N R Ex) R Ex) : (exec C b (.seq s s') env st).satX N R Ex := by
  show ((exec C b s env st).next (exec C b s')).satX N R Ex
  revert h
  cases exec C b s env st <;> exact id
theorem x_asg {t : ME} (h : (den C b e env st).satX (fun d st1 => ∃ env', asgN st1 t d env = some env' ∧ N env' st1) (fun x st => Ex x env st)) : (exec C b (.asg t e) env st).satX N R Ex := by
  refine s_fl (s_imp h ?_)
  rintro d st1 ⟨env', h1, h2⟩
  rw [h1]
  exact h2
theorem x_asgv {i : Nat} (h : (den C b e env st).satX (fun d st1 => N (env.set i (some d)) st1) (fun x st => Ex x env st)) : (exec C b (.asg (.var i) e) env st).satX N R Ex := s_fl h
theorem x_sasg {o : ME} (h : (den C b e env st).satX (fun d st1 => (den C b o env st1).satX (fun x st2 => (den C b i env st2).satX (fun j st3 => ∃ st4, putD b x j d st3 = some st4 ∧ N env st4) (fun x st => Ex x env st)) (fun x st => Ex x env st)) (fun x st => Ex x env st)) : (exec C b (.sasg o i e) env st).satX N R Ex := by
  refine s_fl (s_imp h fun d st1 h1 => s_fl (s_imp h1 fun x st2 h2 => s_fl (s_imp h2 ?_)))
  rintro j st3 ⟨st4, h3, h4⟩
  rw [h3]
  exact h4
theorem x_ex (h : (den C b e env st).satX (fun _ st1 => N env st1) (fun x st => Ex x env st)) : (exec C b (.ex e) env st).satX N R Ex := s_fl h
theorem x_ite (h : (den C b c env st).satX (fun u st1 => ∃ t, truth st1 u = some t ∧ (t = true → (exec C b s env st1).satX N R Ex) ∧ (t = false → (exec C b s' env st1).satX N R Ex)) (fun x st => Ex x env st)) : (exec C b (.ite c s s') env st).satX N R Ex := by
  refine s_fl (s_need (s_imp h ?_))
  rintro u st1 ⟨t, h1, h2, h3⟩
  refine ⟨t, h1, ?_⟩
  cases t
  · exact h3 rfl
  · exact h2 rfl
theorem x_ret (h : (den C b e env st).satX R (fun x st => Ex x env st)) : (exec C b (.ret e) env st).satX N R Ex := s_fl h
theorem x_aug {i : Nat} {m n : Int} (hi : env[i]? = some (some (.int m))) (h : (den C b e env st).satX (fun d st1 => d = .int n ∧ N (env.set i (some (.int (m + n)))) st1) (fun x st => Ex x env st)) : (exec C b (.aug i .add e) env st).satX N R Ex := by
  show (match env[i]? with
    | some (some x) => (den C b e env st).fl env fun y st1 => (match x, y with
      | .int _, .int _ => (binop .add false x y st1).fl env fun z st2 => .nx (env.set i (some z)) st2
      | _, _ => .bad)
    | _ => .bad : Fl).satX N R Ex
  rw [hi]
  refine s_fl (s_imp h ?_)
  rintro _ st1 ⟨rfl, h2⟩
  exact h2
theorem x_rs1 {k : Nat} {w : List Nat} (hw : C.word k = some w) (h : (den C b e env st).satX (fun d st1 => Ex (.exc k (.str w) d) env st1) (fun x st => Ex x env st)) : (exec C b (.rs k (.cons e .no)) env st).satX N R Ex := by
  show (match C.word k with
    | some w => (den C b (.cons e .no) env st).fl env (raiseD k w env)
    | none => .bad : Fl).satX N R Ex
  rw [hw]
  refine s_fl (s_then (s_imp h ?_))
  intro d st1 h1
  exact h1
theorem x_rs0 {k : Nat} {w : List Nat} (hw : C.word k = some w) (h : Ex (.exc k (.str w) .non) env st) : (exec C b (.rs k .no) env st).satX N R Ex := by
  show (match C.word k with
    | some w => (den C b .no env st).fl env (raiseD k w env)
    | none => .bad : Fl).satX N R Ex
  rw [hw]
  exact h
theorem x_fr {t : ME} (h : (denIt C b it env st).satX (fun p st1 => (forGo (fun s d v => asgN s t d v) (exec C b s) p.2 p.1 env st1).satX N R Ex) (fun x st => Ex x env st)) : (exec C b (.fr t it s) env st).satX N R Ex := s_fl h
/-- a try: what the suite comes to -/
theorem x_tr {k i : Nat} (hk : C.err k = true) (h : (exec C b s env st).satX N R (fun x env1 st1 => ∃ j w p, x = .exc j w p ∧ C.err j = true ∧ (C.isa j k = true → i < env1.length ∧ (exec { C with cur := some (j, w, p) } b s' (env1.set i none) st1).sat (fun env2 st2 => N (env2.set i none) st2) R) ∧ (C.isa j k = false → Ex x env1 st1))) : (exec C b (.tr s k i s') env st).satX N R Ex := by
  show (match exec C b s env st with
    | .exc (.exc k' w p) env1 st1 => if C.err k' && C.err k then (if C.isa k' k then (if i < env1.length then (exec { C with cur := some (k', w, p) } b s' (env1.set i none) st1).gone i else .bad) else .exc (.exc k' w p) env1 st1) else .bad
    | .exc _ _ _ => .bad
    | r => r).satX N R Ex
  revert h
  cases exec C b s env st with
  | nx e1 s1 => exact id
  | rt d s1 => exact id
  | bk e1 s1 => exact id
  | bad => exact id
  | exc x e1 s1 =>
    rintro ⟨j, w, p, rfl, h1, h2, h3⟩
    show (if C.err j && C.err k then (if C.isa j k then (if i < e1.length then (exec { C with cur := some (j, w, p) } b s' (e1.set i none) s1).gone i else .bad) else .exc (.exc j w p) e1 s1) else .bad : Fl).satX N R Ex
    rw [h1, hk, Bool.and_self, if_pos rfl]
    cases hi : C.isa j k with
    | true =>
      rw [if_pos rfl]
      obtain ⟨h4, h5⟩ := h2 hi
      rw [if_pos h4]
      revert h5
      cases exec { C with cur := some (j, w, p) } b s' (e1.set i none) s1 with
      | nx e2 s2 => exact id
      | rt d s2 => exact id
      | bk e2 s2 => exact False.elim
      | exc x e2 s2 => exact False.elim
      | bad => exact False.elim
    | false =>
      rw [if_neg (by decide)]
      exact h3 hi
/-- a for, what is true of the items done kept -/
theorem f_inv {tg : Store → D → Env → Option Env} {body : Env → Store → Fl} {sr : Src} (I : List D → List D → Env → Store → Prop) (hu : ∀ dn rest env st, I dn rest env st → unchanged st sr = true)
    (hs : ∀ dn x rest env st, I dn (x :: rest) env st → ∃ env1, tg st x env = some env1 ∧ (body env1 st).satX (I (dn ++ [x]) rest) R Ex) (hN : ∀ dn env st, I dn [] env st → N env st) : ∀ (xs dn : List D) (env : Env) (st : Store), I dn xs env st → (forGo tg body sr xs env st).satX N R Ex
  | [], dn, env, st, h => by
    unfold forGo
    rw [if_pos (hu _ _ _ _ h)]
    exact hN _ _ _ h
  | x :: xs, dn, env, st, h => by
    obtain ⟨env1, h2, h3⟩ := hs dn x xs env st h
    unfold forGo
    rw [if_pos (hu _ _ _ _ h), h2]
    revert h3
    show (body env1 st).satX (I (dn ++ [x]) xs) R Ex → (match body env1 st with
      | .nx env2 st2 => forGo tg body sr xs env2 st2
      | .bk env2 st2 => .nx env2 st2
      | e => e).satX N R Ex
    cases body env1 st with
    | nx e2 s2 => exact f_inv I hu hs hN xs (dn ++ [x]) e2 s2
    | rt d s2 => exact id
    | bk e2 s2 => exact False.elim
    | exc x' e2 s2 => exact id
    | bad => exact False.elim
end
/-- a call of a def without defaults -/
theorem run_satX {T : Tb} {C : Cal} {f n na : Nat} {body : MS} {keep : Bool} {args : List D} {st : Store} {P : D → Store → Prop} {E : D → Store → Prop} (hf : T.fns[f]? = some ⟨n, na, [], body⟩) (hn : args.length = na)
    (h : (exec C st.length body (args.map some ++ List.replicate (n - na) none) st).satX (fun _ st1 => (leave keep st.length .non st1).satX P E) (fun d st1 => (leave keep st.length d st1).satX P E) (fun x _ st1 => ∃ x', frz st1 st.length DEEP x = some x' ∧ E x' (strunc st1 st.length))) : (calN.run T C f keep args st).satX P E := by
  unfold calN.run
  rw [hf]
  have e1 : (args.length ≤ na ∧ na ≤ args.length + ([] : List D).length) := by simp [hn]
  have e2 : (args ++ ([] : List D).drop (args.length + ([] : List D).length - na)) = args := by simp
  show (if args.length ≤ na ∧ na ≤ args.length + ([] : List D).length then _ else _ : Res D).satX P E
  rw [if_pos e1]
  simp only [e2]
  revert h
  cases exec C st.length body (args.map some ++ List.replicate (n - na) none) st with
  | nx e s => exact id
  | rt d s => exact id
  | bk e s => exact False.elim
  | exc x e s =>
    rintro ⟨x', h1, h2⟩
    simp only [h1]
    exact h2
  | bad => exact False.elim
theorem run_sat {T : Tb} {C : Cal} {f n na : Nat} {body : MS} {keep : Bool} {args : List D} {st : Store} {P : D → Store → Prop} (hf : T.fns[f]? = some ⟨n, na, [], body⟩) (hn : args.length = na)
    (h : (exec C st.length body (args.map some ++ List.replicate (n - na) none) st).sat (fun _ st1 => (leave keep st.length .non st1).sat P) (fun d st1 => (leave keep st.length d st1).sat P)) : (calN.run T C f keep args st).sat P := by
  refine run_satX hf hn ?_
  revert h
  cases exec C st.length body (args.map some ++ List.replicate (n - na) none) st with
  | nx e s => exact id
  | rt d s => exact id
  | bk e s => exact id
  | exc x e s => exact False.elim
  | bad => exact id
section
variable {E : D → Store → Prop}
theorem leave_k {b : Nat} {d : D} {st : Store} {P : D → Store → Prop} (h : P d st) : (leave true b d st).satX P E := h
theorem leave_f {b : Nat} {d d' : D} {st : Store} {P : D → Store → Prop} (h1 : frz st b DEEP d = some d') (h : P d' (strunc st b)) : (leave false b d st).satX P E := by
  unfold leave
  rw [h1]
  exact h
end
end MP

set_option autoImplicit false
set_option linter.all false
set_option maxRecDepth 100000
namespace MP
open ME MS
local macro_rules | `(tactic| walk_at "mp") => `(tactic| repeat (first | with_reducible refine x_seq ?_ | with_reducible refine x_asgv ?_ | with_reducible refine x_asg ?_ | with_reducible refine x_ex ?_ | with_reducible refine x_ret ?_ | with_reducible refine x_ite ?_ | with_reducible refine x_fr ?_ | with_reducible refine x_sasg ?_ | with_reducible refine x_skip ?_ | with_reducible refine t_no ?_ | with_reducible refine t_cons ?_ | with_reducible refine t_star ?_ | with_reducible refine s_k ?_ | with_reducible refine s_bin ?_ | with_reducible refine s_neg ?_ | with_reducible refine s_nt ?_ | with_reducible refine s_an ?_ | with_reducible refine s_or ?_ | with_reducible refine s_cmp ?_ | with_reducible refine s_cmp2 ?_ | with_reducible refine s_isn ?_ | with_reducible refine s_notn ?_ | with_reducible refine s_ite ?_ | with_reducible refine s_tup ?_ | with_reducible refine s_lstF ?_ | with_reducible refine s_lstT ?_ | with_reducible refine s_ix ?_ | with_reducible refine s_sl ?_ | with_reducible refine s_bi ?_ | with_reducible refine s_bm ?_ | with_reducible refine s_fc ?_ | with_reducible refine s_lc ?_ | with_reducible refine s_newF ?_ | with_reducible refine s_newT ?_ | with_reducible refine s_fld ?_ | with_reducible refine s_ew ?_ | with_reducible refine s_ep ?_ | with_reducible refine s_ei ?_ | with_reducible refine s_ev ?_ | with_reducible refine i_zp ?_ | with_reducible refine i_rng1 ?_ | with_reducible refine i_rng2 ?_ | with_reducible refine i_enm ?_ | with_reducible refine i_itr ?_ | with_reducible refine s_calm ?_ | with_reducible refine s_need ?_ | ((with_reducible apply s_var); rfl) | ((with_reducible apply s_gl); assumption) | ((with_reducible apply x_rs1); assumption) | ((with_reducible apply s_mx0); assumption) | ((with_reducible apply s_mx1); assumption) | ((with_reducible apply s_my1); assumption) | ((with_reducible apply s_my2); assumption) | ((with_reducible apply s_ok); rfl) | ((with_reducible apply e_some); rfl) | ((with_reducible apply e_rcv); rfl) | ((with_reducible apply e_neg); rfl) | ((with_reducible apply and_t); rfl) | ((with_reducible apply and_f); rfl)))
/-- what drawing is, whoever draws -/
def Draws (C : Cal) (f : Nat) : Prop := ∀ (up : Store) (o : Ob) (bound : Int) (P : D → Store → Prop), DeckOk o → 0 < bound → bound < 1073741824 → (∀ v o', DeckOk o' → 0 ≤ v → v < bound → P (.int v) (up ++ [o'])) → (C.fn f false [.loc 0, .int bound] (up ++ [o])).sat P
theorem sat_ret {r : Fl} {P : D → Store → Prop} {N : Env → Store → Prop} (h : r.ret P) : r.sat N P := by
  obtain ⟨d, st, rfl, h2⟩ := Fl.ret_eq h
  exact h2
theorem draws {T : Tb} {n f : Nat} (hf : T.fns[f]? = some ⟨4, 2, [], drawB⟩) : Draws (calN T (n + 1)) f := by
  intro up o bound P ho hb hb2 h
  obtain ⟨a, i, s, cs, c, rfl, hi⟩ := ho
  rw [calN_fn]
  refine run_sat hf rfl (sat_ret (draw_exec hb hb2 hi ?_))
  intro v o' h1 h2 h3
  refine leave_f (d' := .int v) rfl ?_
  have : (up ++ [deckO a i s cs c]).length = (up ++ [o']).length := by simp
  rw [this, strunc_self]
  exact h v o' h1 h2 h3
/-- the deck from the script -/
def deckB : MS := (.seq (.asg (.var 1) (.k (.int 7)))
 (.seq (.fr (.var 2) (.itr (.var 0))
 (.seq (.asg (.var 1) (.bin .mod false (.bi .int false (.cons (.bin .add false (.bin .mul false (.var 1) (.k (.int 48271))) (.var 2)) .no)) (.k (.int 2147483647))))
 .skip))
 (.seq (.ret (.lst true (.cons (.k (.int 0)) (.cons (.k (.int 0)) (.cons (.var 1) (.cons (.bi .list false (.cons (.var 0) .no)) (.cons (.k (.int 0)) .no)))))))
 .skip)))
theorem deck_run {T : Tb} {n f : Nat} {ns : List Int} {P : D → Store → Prop} (hf : T.fns[f]? = some ⟨3, 1, [], deckB⟩) (h : ∀ o, DeckOk o → P (.loc 0) [o]) : ((calN T (n + 1)).fn f true [.kl (ns.map D.int)] []).sat P := by
  rw [calN_fn]
  refine run_sat hf rfl ?_
  generalize calN T n = C
  unfold deckB
  walk_at "mp"
  refine f_inv (I := fun _ rest env st => st = [] ∧ (∃ ms : List Int, rest = ms.map D.int) ∧ ∃ (i : Int) (y : Option D), env = [some (.kl (ns.map D.int)), some (.int i), y]) ?_ ?_ ?_ _ [] _ _ ⟨rfl, ⟨ns, rfl⟩, 7, none, rfl⟩
  · rintro _ _ _ _ ⟨rfl, _⟩; rfl
  · rintro dn x rest env st ⟨rfl, ⟨ms, hm⟩, i, y, rfl⟩
    cases ms with
    | nil => simp at hm
    | cons m ms =>
      simp only [List.map_cons, List.cons.injEq] at hm
      obtain ⟨rfl, rfl⟩ := hm
      refine ⟨_, rfl, ?_⟩
      walk_at "mp"
      refine s_ok (if_pos (Or.inr (by decide))) ?_
      walk_at "mp"
      exact ⟨rfl, ⟨ms, rfl⟩, _, _, rfl⟩
  · rintro dn env st ⟨rfl, _, i, y, rfl⟩
    walk_at "mp"
    exact h _ ⟨0, 0, i, ns, 0, rfl, by decide⟩
end MP

set_option autoImplicit false
set_option linter.all false
set_option maxRecDepth 100000
namespace MP
open ME MS
def abc : List Nat := [97, 98, 99, 100, 101, 102, 103, 104, 105, 106, 107, 108, 109, 110, 111, 112, 113, 114, 115, 116, 117, 118, 119, 120, 121, 122]
theorem at_abcN : ∀ n : _root_.Fin 26, at? abc (n.val : Int) = some (97 + n.val) := by decide
theorem at_abc {v : Int} (h1 : 0 ≤ v) (h2 : v < 26) : at? abc v = some (97 + v.toNat) := by
  obtain ⟨n, rfl⟩ := Int.eq_ofNat_of_zero_le h1
  exact at_abcN ⟨n, by omega⟩
/-- a letter of the alphabet -/
theorem ix_abc {E : D → Store → Prop} {v : Int} {st : Store} {P : D → Store → Prop} (h1 : 0 ≤ v) (h2 : v < 26) (h : P (.str [97 + v.toNat]) st) : (ixD (.str abc) (.int v) st).satX P E := by
  refine s_ok (st := st) (a := .str [97 + v.toNat]) ?_ h
  show (if abc.length ≤ LINE then Res.of ((at? abc v).map fun c => D.str [c]) st else .bad) = _
  rw [if_pos (by decide), at_abc h1 h2]
  rfl
/-- an item of a short row -/
theorem at_lt {α : Type} {xs : List α} {v : Int} (h1 : 0 ≤ v) (h2 : v < xs.length) : ∃ h : v.toNat < xs.length, at? xs v = some xs[v.toNat] := by
  have h : v.toNat < xs.length := by omega
  refine ⟨h, ?_⟩
  unfold at? ixn
  rw [if_pos h1, if_pos h2]
  simp [h]
theorem ix_lst {E : D → Store → Prop} {xs : List D} {v : Int} {st : Store} {P : D → Store → Prop} (h1 : 0 ≤ v) (h2 : v < xs.length) (h : ∀ x, x ∈ xs → P x st) : (ixD (.lst xs) (.int v) st).satX P E := by
  obtain ⟨h3, h4⟩ := at_lt h1 h2
  refine s_ok (st := st) (a := xs[v.toNat]) ?_ (h _ (List.getElem_mem h3))
  show Res.of (at? xs v) st = _
  rw [h4]
  rfl
theorem six_nat (n d : Nat) (v : Int) (h : 0 ≤ v) : six n d (some v) = min v.toNat n := by
  unfold six
  simp only
  rw [if_neg (by omega)]
theorem cut_to {α : Type} (xs : List α) (v : Int) (h : 0 ≤ v) : cut xs none (some v) = xs.take v.toNat := by
  unfold cut
  rw [six_nat _ _ _ h]
  show (xs.drop 0).take (min v.toNat xs.length - 0) = _
  rw [List.drop_zero, Nat.sub_zero]
  by_cases h2 : v.toNat ≤ xs.length
  · rw [Nat.min_eq_left h2]
  · rw [Nat.min_eq_right (by omega), List.take_of_length_le (by omega), List.take_of_length_le (by omega)]
theorem cut_from {α : Type} (xs : List α) (v : Int) (h : 0 ≤ v) : cut xs (some v) none = xs.drop v.toNat := by
  unfold cut
  rw [six_nat _ _ _ h]
  show (xs.drop (min v.toNat xs.length)).take (xs.length - min v.toNat xs.length) = _
  by_cases h2 : v.toNat ≤ xs.length
  · rw [Nat.min_eq_left h2, List.take_of_length_le (by simp)]
  · rw [List.drop_of_length_le (by omega), List.drop_of_length_le (by omega)]
    simp
/-- a name: one to eight small letters -/
def NameOk (x : List Nat) : Prop := 1 ≤ x.length ∧ x.length ≤ 8 ∧ ∀ c ∈ x, 97 ≤ c ∧ c ≤ 122
/-- up to five names, no two alike -/
structure GroupOk (g : List (List Nat)) : Prop where
  lo : 1 ≤ g.length
  hi : g.length ≤ 5
  names : ∀ x ∈ g, NameOk x
  apart : g.Nodup
def namesB : MS := (.seq (.asg (.var 2) (.k (.str [97, 98, 99, 100, 101, 102, 103, 104, 105, 106, 107, 108, 109, 110, 111, 112, 113, 114, 115, 116, 117, 118, 119, 120, 121, 122])))
 (.seq (.asg (.var 3) (.ix (.lst false (.cons (.k (.int 0)) (.cons (.k (.int 0)) (.cons (.k (.int 1)) (.cons (.k (.int 2)) (.cons (.k (.int 7)) .no)))))) (.fc 4 false (.cons (.var 0) (.cons (.k (.int 5)) .no)))))
 (.seq (.asg (.var 4) (.bm .join false (.k (.str [])) (.cons (.lc false [8] (.var 8) (.rng1 (.var 3)) .no (.ix (.var 2) (.fc 4 false (.cons (.var 0) (.cons (.k (.int 26)) .no))))) .no)))
 (.seq (.asg (.var 5) (.fc 4 false (.cons (.var 0) (.cons (.bin .add false (.var 3) (.k (.int 1))) .no))))
 (.seq (.asg (.var 6) (.fc 4 false (.cons (.var 0) (.cons (.k (.int 26)) .no))))
 (.seq (.asg (.var 7) (.ix (.lst false (.cons (.k (.int 1)) (.cons (.k (.int 5)) (.cons (.k (.int 7)) (.cons (.k (.int 25)) .no))))) (.fc 4 false (.cons (.var 0) (.cons (.k (.int 4)) .no)))))
 (.seq (.ret (.lc true [8] (.var 8) (.rng1 (.var 1)) .no (.bin .add false (.bin .add false (.sl false (.var 4) (.k .non) (.var 5)) (.ix (.var 2) (.bin .mod false (.bi .int false (.cons (.bin .add false (.var 6) (.bin .mul false (.var 7) (.var 8))) .no)) (.k (.int 26))))) (.sl false (.var 4) (.var 5) (.k .non)))))
 .skip)))))))
theorem joinC_nil : ∀ t : List Nat, joinC [] (t.map fun c => [c]) = t
  | [] => rfl
  | [c] => rfl
  | c :: c' :: r => by
    show [c] ++ ([] ++ joinC [] ((c' :: r).map fun c => [c])) = _
    rw [joinC_nil (c' :: r)]
    rfl
theorem sumLen_one : ∀ t : List Nat, sumLen (t.map fun c => [c]) = t.length
  | [] => rfl
  | c :: r => by
    show 1 + sumLen (r.map fun c => [c]) = r.length + 1
    rw [sumLen_one r, Nat.add_comm]
theorem strsOf_map : ∀ g : List (List Nat), strsOf (g.map D.str) = some g
  | [] => rfl
  | x :: g => by
    have := strsOf_map g
    unfold strsOf at this
    simp [strsOf, mapO, asStr, this]
theorem rangeL_len : ∀ (n : Nat) (lo : Int), (rangeL lo n).length = n
  | 0, _ => rfl
  | n + 1, lo => congrArg (· + 1) (rangeL_len n (lo + 1))
theorem s_join {E : D → Store → Prop} {b : Nat} {m : Bool} {s : List Nat} {g : List (List Nat)} {st : Store} {P : D → Store → Prop} (h : sumLen g + g.length * (s.length + 1) ≤ 1000000) (h2 : P (.str (joinC s g)) st) : (bmeth b .join m (.str s) [.lst (g.map D.str)] st).satX P E := by
  refine s_ok (a := .str (joinC s g)) (st := st) ?_ h2
  show (match (some (g.map D.str)).bind strsOf with
    | some ts => if sumLen ts + ts.length * (s.length + 1) ≤ LINE then Res.ok (D.str (joinC s ts)) st else .bad
    | none => .bad) = _
  rw [show (some (g.map D.str)).bind strsOf = some g from strsOf_map g]
  exact if_pos h
theorem s_cat {E : D → Store → Prop} {m : Bool} {x y : List Nat} {st : Store} {P : D → Store → Prop} (h : x.length + y.length ≤ 1000000) (h2 : P (.str (x ++ y)) st) : (binop .add m (.str x) (.str y) st).satX P E := s_ok (if_pos h) h2
theorem s_cutTo {E : D → Store → Prop} {m : Bool} {t : List Nat} {v : Int} {st : Store} {P : D → Store → Prop} (h : t.length ≤ 1000000) (hv : 0 ≤ v) (h2 : P (.str (t.take v.toNat)) st) : (slD m (.str t) none (some v) st).satX P E := by
  refine s_ok (if_pos h) ?_
  rw [cut_to _ _ hv]
  exact h2
theorem s_cutFrom {E : D → Store → Prop} {m : Bool} {t : List Nat} {v : Int} {st : Store} {P : D → Store → Prop} (h : t.length ≤ 1000000) (hv : 0 ≤ v) (h2 : P (.str (t.drop v.toNat)) st) : (slD m (.str t) (some v) none st).satX P E := by
  refine s_ok (if_pos h) ?_
  rw [cut_from _ _ hv]
  exact h2
theorem s_mul {E : D → Store → Prop} {m : Bool} {i j : Int} {st : Store} {P : D → Store → Prop} (h : (-18446744073709551616 < i ∧ i < 18446744073709551616) ∨ (-18446744073709551616 < j ∧ j < 18446744073709551616)) (h2 : P (.int (i * j)) st) : (binop .mul m (.int i) (.int j) st).satX P E := s_ok (if_pos h) h2
theorem s_mod {E : D → Store → Prop} {m : Bool} {i j : Int} {st : Store} {P : D → Store → Prop} (h : 0 < j) (h2 : P (.int (i % j)) st) : (binop .mod m (.int i) (.int j) st).satX P E := s_ok (if_pos h) h2
end MP

set_option autoImplicit false
set_option linter.all false
set_option maxRecDepth 100000
namespace MP
open ME MS
local macro_rules | `(tactic| walk_at "mp") => `(tactic| repeat (first | with_reducible refine x_seq ?_ | with_reducible refine x_asgv ?_ | with_reducible refine x_asg ?_ | with_reducible refine x_ex ?_ | with_reducible refine x_ret ?_ | with_reducible refine x_ite ?_ | with_reducible refine x_fr ?_ | with_reducible refine x_sasg ?_ | with_reducible refine x_skip ?_ | with_reducible refine t_no ?_ | with_reducible refine t_cons ?_ | with_reducible refine t_star ?_ | with_reducible refine s_k ?_ | with_reducible refine s_bin ?_ | with_reducible refine s_neg ?_ | with_reducible refine s_nt ?_ | with_reducible refine s_an ?_ | with_reducible refine s_or ?_ | with_reducible refine s_cmp ?_ | with_reducible refine s_cmp2 ?_ | with_reducible refine s_isn ?_ | with_reducible refine s_notn ?_ | with_reducible refine s_ite ?_ | with_reducible refine s_tup ?_ | with_reducible refine s_lstF ?_ | with_reducible refine s_lstT ?_ | with_reducible refine s_ix ?_ | with_reducible refine s_sl ?_ | with_reducible refine s_bi ?_ | with_reducible refine s_bm ?_ | with_reducible refine s_fc ?_ | with_reducible refine s_lc ?_ | with_reducible refine s_newF ?_ | with_reducible refine s_newT ?_ | with_reducible refine s_fld ?_ | with_reducible refine s_ew ?_ | with_reducible refine s_ep ?_ | with_reducible refine s_ei ?_ | with_reducible refine s_ev ?_ | with_reducible refine i_zp ?_ | with_reducible refine i_rng1 ?_ | with_reducible refine i_rng2 ?_ | with_reducible refine i_enm ?_ | with_reducible refine i_itr ?_ | with_reducible refine s_calm ?_ | with_reducible refine s_need ?_ | ((with_reducible apply s_var); rfl) | ((with_reducible apply s_gl); assumption) | ((with_reducible apply x_rs1); assumption) | ((with_reducible apply s_mx0); assumption) | ((with_reducible apply s_mx1); assumption) | ((with_reducible apply s_my1); assumption) | ((with_reducible apply s_my2); assumption) | ((with_reducible apply s_ok); rfl) | ((with_reducible apply e_some); rfl) | ((with_reducible apply e_rcv); rfl) | ((with_reducible apply e_neg); rfl) | ((with_reducible apply and_t); rfl) | ((with_reducible apply and_f); rfl)))
theorem toNat_cast (n : Nat) : (n : Int).toNat = n := rfl
/-- the k-th name: a letter set into the text -/
def nthName (t : List Nat) (p : Nat) (q s : Int) (k : Nat) : List Nat := t.take p ++ [97 + ((q + s * k) % 26).toNat] ++ t.drop p
def namesOf (t : List Nat) (p : Nat) (q s : Int) (n : Nat) : List (List Nat) := (List.range n).map (nthName t p q s)
theorem apart_step {q s : Int} (hs : s = 1 ∨ s = 5 ∨ s = 7 ∨ s = 25) {i j : Nat} (hi : i < 5) (hj : j < 5) (h : ((q + s * i) % 26).toNat = ((q + s * j) % 26).toNat) : i = j := by
  rcases hs with rfl | rfl | rfl | rfl <;> omega
theorem name_ok {t : List Nat} {p : Nat} {q s : Int} {k : Nat} (ht : t.length ≤ 7) (ha : ∀ c ∈ t, 97 ≤ c ∧ c ≤ 122) : NameOk (nthName t p q s k) := by
  refine ⟨by simp [nthName]; omega, by simp [nthName]; omega, ?_⟩
  intro c hc
  simp only [nthName, List.mem_append, List.mem_singleton] at hc
  rcases hc with (hc | rfl) | hc
  · exact ha _ (List.mem_of_mem_take hc)
  · omega
  · exact ha _ (List.mem_of_mem_drop hc)
theorem nth_inj {t : List Nat} {p : Nat} {q s : Int} {i j : Nat} (h : nthName t p q s i = nthName t p q s j) : ((q + s * i) % 26).toNat = ((q + s * j) % 26).toNat := by
  unfold nthName at h
  have h2 := List.append_cancel_right h
  have h3 := List.append_cancel_left h2
  simp only [List.cons.injEq, and_true] at h3
  omega
theorem names_ok {t : List Nat} {p : Nat} {q s : Int} {n : Nat} (ht : t.length ≤ 7) (ha : ∀ c ∈ t, 97 ≤ c ∧ c ≤ 122) (hs : s = 1 ∨ s = 5 ∨ s = 7 ∨ s = 25) (h1 : 1 ≤ n) (h2 : n ≤ 5) : GroupOk (namesOf t p q s n) := by
  refine ⟨by simp [namesOf]; omega, by simp [namesOf]; omega, ?_, ?_⟩
  · intro x hx
    simp only [namesOf, List.mem_map] at hx
    obtain ⟨k, _, rfl⟩ := hx
    exact name_ok ht ha
  · unfold namesOf
    rw [List.nodup_iff_pairwise_ne, List.pairwise_map]
    refine List.Pairwise.imp_of_mem ?_ List.nodup_range
    intro a b h3 h4 h5 h6
    rw [List.mem_range] at h3 h4
    exact h5 (apart_step hs (by omega) (by omega) (nth_inj h6))
theorem names_exec {C : Cal} {b : Nat} {up : Store} {o : Ob} {count : Nat} {N : Env → Store → Prop} {P : D → Store → Prop} (hd : Draws C 4) (ho : DeckOk o) (h1 : 1 ≤ count) (h2 : count ≤ 5)
    (h : ∀ g o', DeckOk o' → GroupOk g → P (.loc (up ++ [o']).length) (.lst (g.map D.str) :: (up ++ [o']))) : (exec C b namesB [some (.loc 0), some (.int count), none, none, none, none, none, none, none] (up ++ [o])).sat N P := by
  unfold namesB
  walk_at "mp"
  refine hd up o 5 _ ho (by decide) (by decide) ?_
  intro v o1 ho1 hv hv'
  refine ix_lst hv hv' ?_
  intro x hx
  have hn : ∃ n : Nat, n ≤ 7 ∧ x = D.int n := by
    simp only [List.mem_cons, List.not_mem_nil, or_false] at hx
    rcases hx with rfl | rfl | rfl | rfl | rfl
    · exact ⟨0, by decide, rfl⟩
    · exact ⟨0, by decide, rfl⟩
    · exact ⟨1, by decide, rfl⟩
    · exact ⟨2, by decide, rfl⟩
    · exact ⟨7, by decide, rfl⟩
  obtain ⟨n, hn, rfl⟩ := hn
  walk_at "mp"
  refine i_rng (by omega) (by omega) ?_
  rw [toNat_cast]
  show (compGo _ _ _ [] (rangeL 0 n) (up ++ [o1])).sat _
  refine c_loop (I := fun dn rest acc st => ∃ (o' : Ob) (t : List Nat), DeckOk o' ∧ st = up ++ [o'] ∧ acc = (t.map fun c => [c]).map D.str ∧ (∀ c ∈ t, 97 ≤ c ∧ c ≤ 122) ∧ t.length + rest.length = n) ?_ ?_ ?_ (rangeL 0 n) _ ⟨o1, [], ho1, rfl, rfl, by simp, by simp [rangeL_len]⟩
  · rintro _ _ _ _ ⟨o', t, _, rfl, _⟩; rfl
  · rintro dn x rest acc st ⟨o', t, h3, rfl, rfl, h4, h5⟩
    refine ⟨_, rfl, ?_⟩
    walk_at "mp"
    refine hd up o' 26 _ h3 (by decide) (by decide) ?_
    intro w o2 ho2 hw hw'
    refine ix_abc hw hw' ?_
    refine ⟨o2, t ++ [97 + w.toNat], ho2, rfl, by simp, ?_, ?_⟩
    · intro c hc
      simp only [List.mem_append, List.mem_singleton] at hc
      rcases hc with hc | rfl
      · exact h4 _ hc
      · omega
    · simp at h5 ⊢; omega
  rintro dn acc st ⟨o2, t, ho2, rfl, rfl, ht, h5⟩
  simp only [List.length_nil, Nat.add_zero] at h5
  walk_at "mp"
  refine s_join (by rw [sumLen_one]; simp; omega) ?_
  rw [joinC_nil]
  walk_at "mp"
  refine hd up o2 _ _ ho2 (by omega) (by omega) ?_
  intro p o3 ho3 hp hp'
  walk_at "mp"
  refine hd up o3 26 _ ho3 (by decide) (by decide) ?_
  intro q o4 ho4 hq hq'
  walk_at "mp"
  refine hd up o4 4 _ ho4 (by decide) (by decide) ?_
  intro w o5 ho5 hw hw'
  refine ix_lst hw hw' ?_
  intro x hx
  have hs : ∃ s : Int, (s = 1 ∨ s = 5 ∨ s = 7 ∨ s = 25) ∧ x = D.int s := by
    simp only [List.mem_cons, List.not_mem_nil, or_false] at hx
    rcases hx with rfl | rfl | rfl | rfl
    · exact ⟨1, by decide, rfl⟩
    · exact ⟨5, by decide, rfl⟩
    · exact ⟨7, by decide, rfl⟩
    · exact ⟨25, by decide, rfl⟩
  obtain ⟨s, hs, rfl⟩ := hs
  walk_at "mp"
  refine i_rng (by omega) (by omega) ?_
  rw [toNat_cast]
  refine c_loop (I := fun dn rest acc st => st = up ++ [o5] ∧ rest = rangeL (dn.length : Int) (count - dn.length) ∧ dn.length ≤ count ∧ acc = (namesOf t p.toNat q s dn.length).map D.str) ?_ ?_ ?_ (rangeL 0 count) _ ⟨rfl, rfl, Nat.zero_le _, rfl⟩
  · rintro _ _ _ _ ⟨rfl, _⟩; rfl
  · rintro dn x rest acc st ⟨rfl, h6, h7, rfl⟩
    have h8 : ∃ k, count - dn.length = k + 1 := by
      rcases hk : count - dn.length with _ | k
      · rw [hk] at h6; exact (nomatch h6)
      · exact ⟨k, rfl⟩
    obtain ⟨k, hk⟩ := h8
    rw [hk] at h6
    simp only [rangeL, List.cons.injEq] at h6
    obtain ⟨rfl, rfl⟩ := h6
    refine ⟨_, rfl, ?_⟩
    walk_at "mp"
    refine s_cutTo (by omega) hp ?_
    walk_at "mp"
    refine s_mul (by omega) ?_
    walk_at "mp"
    refine ix_abc (by omega) (by omega) ?_
    refine s_cat (by simp; omega) ?_
    walk_at "mp"
    refine s_cutFrom (by omega) hp ?_
    refine s_cat (by simp; omega) ?_
    refine ⟨rfl, ?_, ?_, ?_⟩
    · rw [show count - (dn ++ [D.int dn.length]).length = k from by simp; omega]
      simp
    · simp; omega
    · simp [namesOf, List.range_succ, nthName]
  · rintro dn acc st ⟨rfl, h6, h7, rfl⟩
    have h8 : dn.length = count := by
      rcases hk : count - dn.length with _ | k
      · omega
      · rw [hk] at h6; exact (nomatch h6)
    rw [h8]
    walk_at "mp"
    exact h _ _ ho5 (names_ok (by omega) ht hs h1 h2)
end MP

set_option autoImplicit false
set_option linter.all false
set_option maxRecDepth 100000
namespace MP
open ME MS
local macro_rules | `(tactic| walk_at "mp") => `(tactic| repeat (first | with_reducible refine x_seq ?_ | with_reducible refine x_asgv ?_ | with_reducible refine x_asg ?_ | with_reducible refine x_ex ?_ | with_reducible refine x_ret ?_ | with_reducible refine x_ite ?_ | with_reducible refine x_fr ?_ | with_reducible refine x_sasg ?_ | with_reducible refine x_skip ?_ | with_reducible refine t_no ?_ | with_reducible refine t_cons ?_ | with_reducible refine t_star ?_ | with_reducible refine s_k ?_ | with_reducible refine s_bin ?_ | with_reducible refine s_neg ?_ | with_reducible refine s_nt ?_ | with_reducible refine s_an ?_ | with_reducible refine s_or ?_ | with_reducible refine s_cmp ?_ | with_reducible refine s_cmp2 ?_ | with_reducible refine s_isn ?_ | with_reducible refine s_notn ?_ | with_reducible refine s_ite ?_ | with_reducible refine s_tup ?_ | with_reducible refine s_lstF ?_ | with_reducible refine s_lstT ?_ | with_reducible refine s_ix ?_ | with_reducible refine s_sl ?_ | with_reducible refine s_bi ?_ | with_reducible refine s_bm ?_ | with_reducible refine s_fc ?_ | with_reducible refine s_lc ?_ | with_reducible refine s_newF ?_ | with_reducible refine s_newT ?_ | with_reducible refine s_fld ?_ | with_reducible refine s_ew ?_ | with_reducible refine s_ep ?_ | with_reducible refine s_ei ?_ | with_reducible refine s_ev ?_ | with_reducible refine i_zp ?_ | with_reducible refine i_rng1 ?_ | with_reducible refine i_rng2 ?_ | with_reducible refine i_enm ?_ | with_reducible refine i_itr ?_ | with_reducible refine s_calm ?_ | with_reducible refine s_need ?_ | ((with_reducible apply s_var); rfl) | ((with_reducible apply s_gl); assumption) | ((with_reducible apply x_rs1); assumption) | ((with_reducible apply s_mx0); assumption) | ((with_reducible apply s_mx1); assumption) | ((with_reducible apply s_my1); assumption) | ((with_reducible apply s_my2); assumption) | ((with_reducible apply s_ok); rfl) | ((with_reducible apply e_some); rfl) | ((with_reducible apply e_rcv); rfl) | ((with_reducible apply e_neg); rfl) | ((with_reducible apply and_t); rfl) | ((with_reducible apply and_f); rfl)))
theorem sget_1 {x o : Ob} {up : Store} : sget (x :: (up ++ [o])) (up.length + 1) = some x := by
  have := sg_top x (up ++ [o])
  simpa using this
theorem sput_1 {x y o : Ob} {up : Store} : sput (x :: (up ++ [o])) (up.length + 1) y = y :: (up ++ [o]) := by
  have := sp_top x y (up ++ [o])
  simpa using this
theorem strunc_1 {l up : Store} {o o' : Ob} : strunc (l ++ (up ++ [o'])) (up ++ [o]).length = up ++ [o'] := by
  have := strunc_ap l (up ++ [o'])
  simpa using this
theorem mapO_same {α : Type} {f : α → Option α} : ∀ {xs : List α}, (∀ x ∈ xs, f x = some x) → mapO f xs = some xs
  | [], _ => rfl
  | x :: r, h => by
    simp [mapO, h x (by simp), mapO_same (xs := r) fun y hy => h y (by simp [hy])]
theorem deref_strs {st : Store} {n : Nat} {g : List (List Nat)} : mapO (deref st n) (g.map D.str) = some (g.map D.str) := by
  refine mapO_same ?_
  intro x hx
  simp only [List.mem_map] at hx
  obtain ⟨t, _, rfl⟩ := hx
  cases n <;> rfl
theorem frz_strs {st : Store} {b n : Nat} {g : List (List Nat)} : mapO (frz st b n) (g.map D.str) = some (g.map D.str) := by
  refine mapO_same ?_
  intro x hx
  simp only [List.mem_map] at hx
  obtain ⟨t, _, rfl⟩ := hx
  cases n <;> rfl
theorem any_str {w : List Nat} {n : Nat} {g : List (List Nat)} : (g.map D.str).any (fun z => eqd n z (.str w)) = decide (w ∈ g) := by
  rw [Bool.eq_iff_iff]
  simp only [List.any_map, List.any_eq_true, decide_eq_true_eq, Function.comp]
  have e : ∀ x : List Nat, eqd n (.str x) (.str w) = decide (x = w) := fun x => by cases n <;> rfl
  constructor
  · rintro ⟨x, hx, h⟩
    rw [e, decide_eq_true_eq] at h
    exact h ▸ hx
  · intro h
    exact ⟨w, h, by rw [e]; simp⟩
/-- a text in a list of texts -/
theorem in_strs {st : Store} {w : List Nat} {k : Nat} {g : List (List Nat)} (h : sget st k = some (.lst (g.map D.str))) : isIn st (.str w) (.loc k) = some (decide (w ∈ g)) := by
  have e1 : dctOf st (.loc k) = none := by
    show (match sget st k with
      | some (.dct t kvs) => some (t, kvs)
      | _ => none) = none
    rw [h]
  have e2 : seqOf st (.loc k) = some (g.map D.str) := by
    show (match sget st k with
      | some (.lst xs) => some xs
      | _ => none) = _
    rw [h]
  show (match dctOf st (.loc k) with
    | some (t, kvs) => if isKey t (.str w) then some (dfind (.str w) kvs).isSome else none
    | none => (match deref st DEEP (.str w), seqOf st (.loc k) with
      | some d, some ys => (match mapO (deref st DEEP) ys with
        | some ds => some (ds.any fun z => eqd DEEP z d)
        | none => none)
      | _, _ => none)) = _
  rw [e1, e2]
  show (match mapO (deref st DEEP) (g.map D.str) with
        | some ds => some (ds.any fun z => eqd DEEP z (.str w))
        | none => none) = _
  rw [deref_strs]
  simp only [any_str]
theorem seq_loc {st : Store} {k : Nat} {xs : List D} (h : sget st k = some (.lst xs)) : seqOf st (.loc k) = some xs := by
  show (match sget st k with
    | some (.lst xs) => some xs
    | _ => none) = _
  rw [h]
theorem len_loc {E : D → Store → Prop} {isa : Nat → Nat → Bool} {m : Bool} {st : Store} {k : Nat} {xs : List D} {P : D → Store → Prop} (h : sget st k = some (.lst xs)) (h2 : P (.int xs.length) st) : (bfun isa .len m [.loc k] st).satX P E := by
  refine s_ok (a := .int xs.length) (st := st) ?_ h2
  show Res.of ((match sget st k with
    | some (.lst xs) => some (xs.length : Int)
    | some (.dct _ kvs) => some (kvs.length : Int)
    | _ => none).map D.int) st = _
  rw [h]
  rfl
theorem tup_loc {E : D → Store → Prop} {isa : Nat → Nat → Bool} {m : Bool} {st : Store} {k : Nat} {xs : List D} {P : D → Store → Prop} (h : sget st k = some (.lst xs)) (h2 : P (.tup xs) st) : (bfun isa .tuple m [.loc k] st).satX P E := by
  refine s_ok (a := .tup xs) (st := st) ?_ h2
  show Res.of ((seqOf st (.loc k)).map D.tup) st = _
  rw [seq_loc h]
  rfl
theorem put_str {b k : Nat} {st : Store} {v : Int} {w : List Nat} {g : List (List Nat)} (h : sget st k = some (.lst (g.map D.str))) (h1 : 0 ≤ v) (h2 : v < g.length) : putD b (.loc k) (.int v) (.str w) st = some (sput st k (.lst ((g.set v.toNat w).map D.str))) := by
  show (match sget st k with
    | some (.lst xs) => putL b k xs (.int v) (.str w) st
    | some (.dct t kvs) => if isKey t (.int v) = true ∧ kvs.length < LINE then stput b k (.dct t (dput (.int v) (.str w) kvs)) (.str w) st else none
    | _ => none) = _
  rw [h]
  have e : ixn (g.map D.str).length v = some v.toNat := by
    unfold ixn
    rw [if_pos h1, if_pos (by simpa using h2)]
  show (match ixn (g.map D.str).length v with
    | some j => stput b k (.lst ((g.map D.str).set j (.str w))) (.str w) st
    | none => none) = _
  rw [e]
  show (if b ≤ k ∨ under k DEEP (.str w) = true then some (sput st k (.lst ((g.map D.str).set v.toNat (.str w)))) else none) = _
  rw [if_pos (Or.inr (by rfl)), List.map_set]
theorem nodup_set {α : Type} {w : α} : ∀ {g : List α} {i : Nat}, g.Nodup → w ∉ g → (g.set i w).Nodup
  | [], _, h, _ => h
  | x :: g, 0, h, h2 => by
    rw [List.nodup_cons] at h
    simp only [List.mem_cons, not_or] at h2
    exact List.nodup_cons.2 ⟨h2.2, h.2⟩
  | x :: g, i + 1, h, h2 => by
    rw [List.nodup_cons] at h
    simp only [List.mem_cons, not_or] at h2
    refine List.nodup_cons.2 ⟨?_, nodup_set h.2 h2.2⟩
    intro h3
    rcases List.mem_or_eq_of_mem_set h3 with h4 | h4
    · exact h.1 h4
    · exact h2.1 h4.symm
theorem group_set {g : List (List Nat)} {i : Nat} {w : List Nat} (h : GroupOk g) (hw : NameOk w) (hn : w ∉ g) : GroupOk (g.set i w) := by
  refine ⟨by simpa using h.lo, by simpa using h.hi, ?_, nodup_set h.apart hn⟩
  intro x hx
  rcases List.mem_or_eq_of_mem_set hx with h4 | rfl
  · exact h.names _ h4
  · exact hw
def NamesRun (C : Cal) (f : Nat) : Prop := ∀ (up : Store) (o : Ob) (count : Int) (P : D → Store → Prop), DeckOk o → 1 ≤ count → count ≤ 5 → (∀ g o', DeckOk o' → GroupOk g → P (.loc (up.length + 1)) (.lst (g.map D.str) :: (up ++ [o']))) → (C.fn f true [.loc 0, .int count] (up ++ [o])).sat P
theorem names_run {T : Tb} {n f : Nat} (hf : T.fns[f]? = some ⟨9, 2, [], namesB⟩) (hd : Draws (calN T n) 4) : NamesRun (calN T (n + 1)) f := by
  intro up o count P ho h1 h2 h
  obtain ⟨c, rfl⟩ := Int.eq_ofNat_of_zero_le (show 0 ≤ count by omega)
  rw [calN_fn]
  refine run_sat hf rfl ?_
  refine names_exec (count := c) hd ho (by omega) (by omega) ?_
  intro g o' h3 h4
  have := h g o' h3 h4
  simp only [List.length_append, List.length_singleton]
  exact leave_k this
def groupB : MS := (.seq (.asg (.var 1) (.fc 12 true (.cons (.var 0) (.cons (.bin .add false (.k (.int 1)) (.fc 4 false (.cons (.var 0) (.cons (.k (.int 5)) .no)))) .no))))
 (.seq (.ite (.cmp .eq (.fc 4 false (.cons (.var 0) (.cons (.k (.int 3)) .no))) (.k (.int 0)))
 (.seq (.asg (.var 2) (.ix (.lst false (.cons (.k (.str [111, 102, 102])) (.cons (.k (.str [120])) (.cons (.k (.str [121])) (.cons (.k (.str [108, 97, 121, 101, 114])) (.cons (.k (.str [110, 97, 109, 101, 115])) .no)))))) (.fc 4 false (.cons (.var 0) (.cons (.k (.int 5)) .no)))))
 (.seq (.ite (.cmp .notin (.var 2) (.var 1))
 (.seq (.sasg (.var 1) (.fc 4 false (.cons (.var 0) (.cons (.bi .len false (.cons (.var 1) .no)) .no))) (.var 2))
 .skip)
 .skip)
 .skip))
 .skip)
 (.seq (.ret (.bi .tuple false (.cons (.var 1) .no)))
 .skip)))
theorem Draws.one {C : Cal} {f : Nat} (hd : Draws C f) (x : Ob) (up : Store) (o : Ob) (bound : Int) (P : D → Store → Prop) (h1 : DeckOk o) (h2 : 0 < bound) (h3 : bound < 1073741824) (h : ∀ v o', DeckOk o' → 0 ≤ v → v < bound → P (.int v) (x :: (up ++ [o']))) : (C.fn f false [.loc 0, .int bound] (x :: (up ++ [o]))).sat P := hd (x :: up) o bound P h1 h2 h3 h
theorem group_exec {C : Cal} {b : Nat} {up : Store} {o : Ob} {N : Env → Store → Prop} {P : D → Store → Prop} (hd : Draws C 4) (hm : NamesRun C 12) (ho : DeckOk o)
    (h : ∀ g o' l, DeckOk o' → GroupOk g → P (.tup (g.map D.str)) (l :: (up ++ [o']))) : (exec C b groupB [some (.loc 0), none, none] (up ++ [o])).sat N P := by
  unfold groupB
  walk_at "mp"
  refine hd up o 5 _ ho (by decide) (by decide) ?_
  intro v o1 ho1 hv hv'
  walk_at "mp"
  refine hm up o1 _ _ ho1 (by omega) (by omega) ?_
  intro g o2 ho2 hg
  walk_at "mp"
  refine hd.one _ up o2 3 _ ho2 (by decide) (by decide) ?_
  intro v2 o3 ho3 hv2 hv2'
  walk_at "mp"
  refine ⟨fun _ => ?_, fun _ => ?_⟩
  · walk_at "mp"
    refine hd.one _ up o3 5 _ ho3 (by decide) (by decide) ?_
    intro v3 o4 ho4 hv3 hv3'
    refine ix_lst hv3 hv3' ?_
    intro x hx
    have hw : ∃ w, NameOk w ∧ x = D.str w := by
      simp only [List.mem_cons, List.not_mem_nil, or_false] at hx
      rcases hx with rfl | rfl | rfl | rfl | rfl
      · exact ⟨_, by unfold NameOk; decide, rfl⟩
      · exact ⟨_, by unfold NameOk; decide, rfl⟩
      · exact ⟨_, by unfold NameOk; decide, rfl⟩
      · exact ⟨_, by unfold NameOk; decide, rfl⟩
      · exact ⟨_, by unfold NameOk; decide, rfl⟩
    obtain ⟨w, hw, rfl⟩ := hw
    walk_at "mp"
    refine ⟨!decide (w ∈ g), by show (isIn _ _ _).map _ = _; rw [in_strs sget_1]; rfl, ?_⟩
    walk_at "mp"
    refine ⟨fun hn => ?_, fun _ => ?_⟩
    · walk_at "mp"
      refine len_loc sget_1 ?_
      walk_at "mp"
      refine hd.one _ up o4 _ _ ho4 (by have := hg.lo; simp; omega) (by have := hg.hi; simp; omega) ?_
      intro v5 o5 ho5 hv5 hv5'
      walk_at "mp"
      refine ⟨_, put_str sget_1 hv5 (by simpa using hv5'), ?_⟩
      rw [sput_1]
      walk_at "mp"
      refine tup_loc sget_1 ?_
      exact h _ _ _ ho5 (group_set hg hw (by simpa using hn))
    · walk_at "mp"
      refine tup_loc sget_1 ?_
      exact h _ _ _ ho4 hg
  · walk_at "mp"
    refine tup_loc sget_1 ?_
    exact h _ _ _ ho3 hg
def GroupRun (C : Cal) (f : Nat) : Prop := ∀ (up : Store) (o : Ob) (P : D → Store → Prop), DeckOk o → (∀ g o', DeckOk o' → GroupOk g → P (.tup (g.map D.str)) (up ++ [o'])) → (C.fn f false [.loc 0] (up ++ [o])).sat P
theorem group_run {T : Tb} {n f : Nat} (hf : T.fns[f]? = some ⟨3, 1, [], groupB⟩) (hd : Draws (calN T n) 4) (hm : NamesRun (calN T n) 12) : GroupRun (calN T (n + 1)) f := by
  intro up o P ho h
  rw [calN_fn]
  refine run_sat hf rfl ?_
  refine group_exec hd hm ho ?_
  intro g o' l h3 h4
  refine leave_f (d' := .tup (g.map D.str)) ?_ ?_
  · show (mapO (frz _ _ 7) (g.map D.str)).map D.tup = _
    rw [frz_strs]
    rfl
  · rw [show l :: (up ++ [o']) = [l] ++ (up ++ [o']) from rfl, strunc_1]
    exact h g o' h3 h4
end MP

set_option autoImplicit false
set_option linter.all false
set_option maxRecDepth 100000
namespace MP
open ME MS
local macro_rules | `(tactic| walk_at "mp") => `(tactic| repeat (first | with_reducible refine x_seq ?_ | with_reducible refine x_asgv ?_ | with_reducible refine x_asg ?_ | with_reducible refine x_ex ?_ | with_reducible refine x_ret ?_ | with_reducible refine x_ite ?_ | with_reducible refine x_fr ?_ | with_reducible refine x_sasg ?_ | with_reducible refine x_skip ?_ | with_reducible refine t_no ?_ | with_reducible refine t_cons ?_ | with_reducible refine t_star ?_ | with_reducible refine s_k ?_ | with_reducible refine s_bin ?_ | with_reducible refine s_neg ?_ | with_reducible refine s_nt ?_ | with_reducible refine s_an ?_ | with_reducible refine s_or ?_ | with_reducible refine s_cmp ?_ | with_reducible refine s_cmp2 ?_ | with_reducible refine s_isn ?_ | with_reducible refine s_notn ?_ | with_reducible refine s_ite ?_ | with_reducible refine s_tup ?_ | with_reducible refine s_lstF ?_ | with_reducible refine s_lstT ?_ | with_reducible refine s_ix ?_ | with_reducible refine s_sl ?_ | with_reducible refine s_bi ?_ | with_reducible refine s_bm ?_ | with_reducible refine s_fc ?_ | with_reducible refine s_lc ?_ | with_reducible refine s_newF ?_ | with_reducible refine s_newT ?_ | with_reducible refine s_fld ?_ | with_reducible refine s_ew ?_ | with_reducible refine s_ep ?_ | with_reducible refine s_ei ?_ | with_reducible refine s_ev ?_ | with_reducible refine i_zp ?_ | with_reducible refine i_rng1 ?_ | with_reducible refine i_rng2 ?_ | with_reducible refine i_enm ?_ | with_reducible refine i_itr ?_ | with_reducible refine s_calm ?_ | with_reducible refine s_need ?_ | ((with_reducible apply s_var); rfl) | ((with_reducible apply s_gl); assumption) | ((with_reducible apply x_rs1); assumption) | ((with_reducible apply s_mx0); assumption) | ((with_reducible apply s_mx1); assumption) | ((with_reducible apply s_my1); assumption) | ((with_reducible apply s_my2); assumption) | ((with_reducible apply s_ok); rfl) | ((with_reducible apply e_some); rfl) | ((with_reducible apply e_rcv); rfl) | ((with_reducible apply e_neg); rfl) | ((with_reducible apply and_t); rfl) | ((with_reducible apply and_f); rfl)))
/-- a move, or what is let go: names, an axis, steps -/
structure Mv where
  g : List (List Nat)
  a : Nat
  s : Int
structure MvOk (m : Mv) : Prop where
  g : GroupOk m.g
  a : m.a < 3
  z : m.s ≠ 0
  lo : -999 ≤ m.s
  hi : m.s ≤ 999
structure OffOk (m : Mv) : Prop where
  g : GroupOk m.g
  a : m.a < 3
  s : m.s = 1 ∨ m.s = -1
def mvD (m : Mv) : D := .tup [.tup (m.g.map D.str), .int m.a, .int m.s]
def offD : Option Mv → D
  | none => .non
  | some m => mvD m
def wayD (ms : List Mv) (off : Option Mv) : D := .tup [.lst (ms.map mvD), offD off]
structure WayOk (ms : List Mv) (off : Option Mv) : Prop where
  n : ms.length ≤ 12
  ms : ∀ m ∈ ms, MvOk m
  off : ∀ m, off = some m → OffOk m
theorem app_loc {E : D → Store → Prop} {b k : Nat} {m : Bool} {st : Store} {xs : List D} {d : D} {P : D → Store → Prop} (h : sget st k = some (.lst xs)) (h1 : xs.length < 1000000) (h2 : b ≤ k) (h3 : P .non (sput st k (.lst (xs ++ [d])))) : (bmeth b .append m (.loc k) [d] st).satX P E := by
  refine s_ok (a := .non) (st := sput st k (.lst (xs ++ [d]))) ?_ h3
  show (match sget st k with
    | some (.lst xs) => if xs.length < LINE then (match stput b k (.lst (xs ++ [d])) d st with
      | some st' => Res.ok D.non st'
      | none => .bad) else .bad
    | _ => .bad) = _
  rw [h]
  show (if xs.length < LINE then (match stput b k (.lst (xs ++ [d])) d st with
      | some st' => Res.ok D.non st'
      | none => .bad) else .bad) = _
  rw [if_pos (show xs.length < LINE from h1)]
  show (match (if b ≤ k ∨ under k DEEP d = true then some (sput st k (.lst (xs ++ [d]))) else none) with
      | some st' => Res.ok D.non st'
      | none => .bad) = _
  rw [if_pos (Or.inl h2)]
theorem rcv_app {k : Nat} {st : Store} {xs : List D} (h : sget st k = some (.lst xs)) : rcv .append (.loc k) st = true := by
  show (lstOf st (.loc k)).isSome = true
  show (match sget st k with
    | some (.lst xs) => some xs
    | _ => none).isSome = true
  rw [h]
  rfl
def wayB : MS := (.seq (.asg (.var 1) (.lst true .no))
 (.seq (.fr (.var 2) (.rng1 (.fc 4 false (.cons (.var 0) (.cons (.k (.int 7)) .no))))
 (.seq (.asg (.var 3) (.ix (.lst false (.cons (.k (.int 1)) (.cons (.k (.int 2)) (.cons (.k (.int 9)) (.cons (.k (.int 10)) (.cons (.k (.int 999)) (.cons (.bin .add false (.k (.int 1)) (.fc 4 false (.cons (.var 0) (.cons (.k (.int 999)) .no)))) .no))))))) (.fc 4 false (.cons (.var 0) (.cons (.k (.int 6)) .no)))))
 (.seq (.ex (.bm .append false (.var 1) (.cons (.tup (.cons (.fc 8 false (.cons (.var 0) .no)) (.cons (.fc 4 false (.cons (.var 0) (.cons (.k (.int 3)) .no))) (.cons (.ix (.lst false (.cons (.var 3) (.cons (.neg (.var 3)) .no))) (.fc 4 false (.cons (.var 0) (.cons (.k (.int 2)) .no)))) .no)))) .no)))
 .skip)))
 (.seq (.ite (.cmp .eq (.fc 4 false (.cons (.var 0) (.cons (.k (.int 3)) .no))) (.k (.int 0)))
 (.seq (.ret (.tup (.cons (.var 1) (.cons (.k .non) .no))))
 .skip)
 .skip)
 (.seq (.ret (.tup (.cons (.var 1) (.cons (.tup (.cons (.fc 8 false (.cons (.var 0) .no)) (.cons (.fc 4 false (.cons (.var 0) (.cons (.k (.int 3)) .no))) (.cons (.ix (.lst false (.cons (.k (.int 1)) (.cons (.neg (.k (.int 1))) .no))) (.fc 4 false (.cons (.var 0) (.cons (.k (.int 2)) .no)))) .no)))) .no))))
 .skip))))
theorem GroupRun.one {C : Cal} {f : Nat} (hd : GroupRun C f) (x : Ob) (up : Store) (o : Ob) (P : D → Store → Prop) (h1 : DeckOk o) (h : ∀ g o', DeckOk o' → GroupOk g → P (.tup (g.map D.str)) (x :: (up ++ [o']))) : (C.fn f false [.loc 0] (x :: (up ++ [o]))).sat P := hd (x :: up) o P h1 h
theorem way_exec {C : Cal} {up : Store} {o : Ob} {N : Env → Store → Prop} {P : D → Store → Prop} (hd : Draws C 4) (hm : GroupRun C 8) (ho : DeckOk o)
    (h : ∀ ms off o', DeckOk o' → WayOk ms off → ms.length ≤ 6 → P (.tup [.loc (up.length + 1), offD off]) (.lst (ms.map mvD) :: (up ++ [o']))) : (exec C (up.length + 1) wayB [some (.loc 0), none, none, none] (up ++ [o])).sat N P := by
  unfold wayB
  walk_at "mp"
  simp only [List.length_append, List.length_singleton]
  refine hd.one _ up o 7 _ ho (by decide) (by decide) ?_
  intro v o1 ho1 hv hv'
  refine i_rng (by omega) (by omega) ?_
  refine f_inv (I := fun dn rest env st => ∃ (o' : Ob) (ms : List Mv) (y z : Option D), DeckOk o' ∧ st = .lst (ms.map mvD) :: (up ++ [o']) ∧ env = [some (.loc 0), some (.loc (up.length + 1)), y, z] ∧ (∀ m ∈ ms, MvOk m) ∧ ms.length + rest.length ≤ 6) ?_ ?_ ?_ (rangeL 0 v.toNat) [] _ _ ⟨o1, [], none, none, ho1, rfl, rfl, by simp, by simp [rangeL_len]; omega⟩
  · rintro _ _ _ _ ⟨o', t, _, _, _, rfl, _⟩; rfl
  · rintro dn x rest env st ⟨o', ms, y, z, ho', rfl, rfl, hms, hl⟩
    refine ⟨_, rfl, ?_⟩
    walk_at "mp"
    refine hd.one _ up o' 999 _ ho' (by decide) (by decide) ?_
    intro v1 o2 ho2 hv1 hv1'
    walk_at "mp"
    refine hd.one _ up o2 6 _ ho2 (by decide) (by decide) ?_
    intro v2 o3 ho3 hv2 hv2'
    refine ix_lst hv2 hv2' ?_
    intro x1 hx
    have hs : ∃ s : Int, 1 ≤ s ∧ s ≤ 999 ∧ x1 = D.int s := by
      simp only [List.mem_cons, List.not_mem_nil, or_false] at hx
      rcases hx with rfl | rfl | rfl | rfl | rfl | rfl
      · exact ⟨1, by decide, by decide, rfl⟩
      · exact ⟨2, by decide, by decide, rfl⟩
      · exact ⟨9, by decide, by decide, rfl⟩
      · exact ⟨10, by decide, by decide, rfl⟩
      · exact ⟨999, by decide, by decide, rfl⟩
      · exact ⟨1 + v1, by omega, by omega, rfl⟩
    obtain ⟨s, hs1, hs2, rfl⟩ := hs
    walk_at "mp"
    refine ⟨rcv_app sget_1, ?_⟩
    walk_at "mp"
    refine hm.one _ up o3 _ ho3 ?_
    intro g o4 ho4 hg
    walk_at "mp"
    refine hd.one _ up o4 3 _ ho4 (by decide) (by decide) ?_
    intro a o5 ho5 ha ha'
    walk_at "mp"
    refine hd.one _ up o5 2 _ ho5 (by decide) (by decide) ?_
    intro v4 o6 ho6 hv4 hv4'
    refine ix_lst hv4 hv4' ?_
    intro x2 hx2
    have hs : ∃ s' : Int, s' ≠ 0 ∧ -999 ≤ s' ∧ s' ≤ 999 ∧ x2 = D.int s' := by
      simp only [List.mem_cons, List.not_mem_nil, or_false] at hx2
      rcases hx2 with rfl | rfl
      · exact ⟨s, by omega, by omega, by omega, rfl⟩
      · exact ⟨-s, by omega, by omega, by omega, rfl⟩
    obtain ⟨s', hs3, hs4, hs5, rfl⟩ := hs
    obtain ⟨a, rfl⟩ := Int.eq_ofNat_of_zero_le ha
    simp only [List.length_cons] at hl
    walk_at "mp"
    refine app_loc sget_1 (by simp; omega) (Nat.le_refl _) ?_
    rw [sput_1]
    walk_at "mp"
    refine ⟨o6, ms ++ [⟨g, a, s'⟩], _, _, ho6, by simp [mvD], rfl, ?_, by simp; omega⟩
    intro m hm
    simp only [List.mem_append, List.mem_singleton] at hm
    rcases hm with hm | rfl
    · exact hms m hm
    · exact ⟨hg, by show a < 3; omega, hs3, hs4, hs5⟩
  · rintro dn env st ⟨o', ms, y, z, ho', rfl, rfl, hms, hl⟩
    simp only [List.length_nil, Nat.add_zero] at hl
    walk_at "mp"
    refine hd.one _ up o' 3 _ ho' (by decide) (by decide) ?_
    intro v1 o2 ho2 hv1 hv1'
    walk_at "mp"
    refine ⟨fun _ => ?_, fun _ => ?_⟩
    · walk_at "mp"
      exact h ms none o2 ho2 ⟨by omega, hms, by simp⟩ hl
    · walk_at "mp"
      refine hm.one _ up o2 _ ho2 ?_
      intro g o4 ho4 hg
      walk_at "mp"
      refine hd.one _ up o4 3 _ ho4 (by decide) (by decide) ?_
      intro a o5 ho5 ha ha'
      walk_at "mp"
      refine hd.one _ up o5 2 _ ho5 (by decide) (by decide) ?_
      intro v4 o6 ho6 hv4 hv4'
      refine ix_lst hv4 hv4' ?_
      intro x2 hx2
      have hs : ∃ s' : Int, (s' = 1 ∨ s' = -1) ∧ x2 = D.int s' := by
        simp only [List.mem_cons, List.not_mem_nil, or_false] at hx2
        rcases hx2 with rfl | rfl
        · exact ⟨1, Or.inl rfl, rfl⟩
        · exact ⟨-1, Or.inr rfl, rfl⟩
      obtain ⟨s', hs3, rfl⟩ := hs
      obtain ⟨a, rfl⟩ := Int.eq_ofNat_of_zero_le ha
      walk_at "mp"
      refine h ms (some ⟨g, a, s'⟩) o6 ho6 ⟨by omega, hms, ?_⟩ hl
      intro m hm
      cases hm
      exact ⟨hg, by show a < 3; omega, hs3⟩
end MP

set_option autoImplicit false
set_option linter.all false
set_option maxRecDepth 100000
namespace MP
open ME MS
open PySem (PyData)
/-- data that repr shows, and how heavy it is -/
structure Shw (d : PyData) (w : Nat) : Prop where
  sh : d.showable = true
  lf : d.leavesShort 13 = true
  wt : d.weight ≤ w
theorem Shw.mono {d : PyData} {w v : Nat} (h : Shw d w) (h2 : w ≤ v) : Shw d v := ⟨h.sh, h.lf, Nat.le_trans h.wt h2⟩
theorem shw_none {w : Nat} : Shw .none w := ⟨rfl, rfl, Nat.zero_le _⟩
theorem shw_int {i : Int} (h : i.natAbs < 1000000000) : Shw (.int i) 30 := by
  have hl : i.natAbs.log2 < 30 := by
    by_cases h0 : i.natAbs = 0
    · rw [h0]; decide
    · exact (Nat.log2_lt h0).2 (by omega)
  refine ⟨?_, ?_, ?_⟩
  · simp only [PyData.showable, decide_eq_true_eq]; omega
  · simp only [PyData.leavesShort, decide_eq_true_eq]
    exact PyData.shown_int_le (by omega)
  · simp only [PyData.weight]
    split <;> omega
theorem shw_str {x : List Nat} {w : Nat} (h : ∀ c ∈ x, c < 1114112) (h2 : x.length ≤ w) : Shw (.str ⟨x.toArray⟩) w := by
  refine ⟨by simp only [PyData.showable], ?_, by simp only [PyData.weight]; simpa using h2⟩
  simp only [PyData.leavesShort, List.all_eq_true, decide_eq_true_eq]
  intro c hc
  have := h c hc
  omega
theorem shw_all : ∀ {xs : List PyData} {w : Nat}, (∀ x ∈ xs, Shw x w) → PyData.showableAll xs = true ∧ PyData.leavesShortAll 13 xs = true ∧ PyData.weightAll xs ≤ xs.length * (w + 1)
  | [], w, _ => by simp [PyData.showableAll, PyData.leavesShortAll, PyData.weightAll]
  | x :: r, w, h => by
    have h1 := h x (by simp)
    have h2 := shw_all (xs := r) (w := w) fun y hy => h y (by simp [hy])
    refine ⟨by simp [PyData.showableAll, h1.sh, h2.1], by simp [PyData.leavesShortAll, h1.lf, h2.2.1], ?_⟩
    have h3 := h1.wt
    have h4 := h2.2.2
    simp only [PyData.weightAll, List.length_cons, Nat.add_mul]
    omega
theorem shw_list {xs : List PyData} {w n : Nat} (h : ∀ x ∈ xs, Shw x w) (hn : xs.length ≤ n) : Shw (.list xs) (n * (w + 1)) := by
  obtain ⟨h1, h2, h3⟩ := shw_all h
  refine ⟨by simpa only [PyData.showable] using h1, by simpa only [PyData.leavesShort] using h2, ?_⟩
  simp only [PyData.weight]
  exact Nat.le_trans h3 (Nat.mul_le_mul_right _ hn)
theorem shw_tuple {xs : List PyData} {w n : Nat} (h : ∀ x ∈ xs, Shw x w) (hn : xs.length ≤ n) : Shw (.tuple xs) (n * (w + 1)) := by
  obtain ⟨h1, h2, h3⟩ := shw_all h
  refine ⟨by simpa only [PyData.showable] using h1, by simpa only [PyData.leavesShort] using h2, ?_⟩
  simp only [PyData.weight]
  exact Nat.le_trans h3 (Nat.mul_le_mul_right _ hn)
/-- what repr says -/
def shownL (d : D) : List Nat := (pyd DEEP d).shown.cps.toList
theorem repr_of {E : D → Store → Prop} {isa : Nat → Nat → Bool} {m : Bool} {st : Store} {x d : D} {w : Nat} {P : D → Store → Prop} (h : deref st DEEP x = some d) (h1 : Shw (pyd DEEP d) w) (hw : w ≤ 60000) (h2 : P (.str (shownL d)) st) : (bfun isa .repr m [x] st).satX P E := by
  refine s_ok (a := .str (shownL d)) (st := st) ?_ h2
  have hl : (pyd DEEP d).shown.length ≤ LINE := by
    have := PyData.shown_le 13 (by decide) _ h1.lf
    have := h1.wt
    show (pyd DEEP d).shown.length ≤ 1000000
    omega
  show Res.of ((match deref st DEEP x with
    | some d => if (pyd DEEP d).showable && decide ((pyd DEEP d).shown.length ≤ LINE) then some (pyd DEEP d).shown.cps.toList else none
    | none => none).map D.str) st = _
  rw [h]
  show Res.of ((if (pyd DEEP d).showable && decide ((pyd DEEP d).shown.length ≤ LINE) then some (pyd DEEP d).shown.cps.toList else none).map D.str) st = _
  rw [if_pos (by rw [h1.sh, decide_eq_true hl]; rfl)]
  rfl
def sameB : MS := (.seq (.ret (.cmp .eq (.bi .repr false (.cons (.var 0) .no)) (.bi .repr false (.cons (.var 1) .no))))
 .skip)
def SameRun (C : Cal) (f : Nat) : Prop := ∀ (x y d : D) (w : Nat) (st : Store) (P : D → Store → Prop), deref st DEEP x = some d → deref st DEEP y = some d → Shw (pyd DEEP d) w → w ≤ 60000 → P (.bl true) st → (C.fn f false [x, y] st).sat P
theorem same_run {T : Tb} {n f : Nat} (hf : T.fns[f]? = some ⟨2, 2, [], sameB⟩) : SameRun (calN T (n + 1)) f := by
  intro x y d w st P h1 h2 h3 h4 h
  rw [calN_fn]
  refine run_sat hf rfl ?_
  generalize calN T n = C
  unfold sameB
  refine x_seq (x_ret (s_cmp (s_bi (t_cons (s_var rfl (t_no ?_))))))
  refine repr_of h1 h3 h4 ?_
  refine s_bi (t_cons (s_var rfl (t_no ?_)))
  refine repr_of h2 h3 h4 ?_
  refine ⟨true, ?_, ?_⟩
  · show some (decide (shownL d = shownL d)) = some true
    simp
  · refine leave_f (d' := .bl true) rfl ?_
    rw [strunc_self]
    exact h
theorem frz_mv {st : Store} {b n : Nat} (m : Mv) : frz st b (n + 2) (mvD m) = some (mvD m) := by
  show (mapO (frz st b (n + 1)) [.tup (m.g.map D.str), .int m.a, .int m.s]).map D.tup = _
  have e : frz st b (n + 1) (.tup (m.g.map D.str)) = some (.tup (m.g.map D.str)) := by
    show (mapO (frz st b n) (m.g.map D.str)).map D.tup = _
    rw [frz_strs]
    rfl
  have e2 : ∀ i, frz st b (n + 1) (.int i) = some (.int i) := fun i => rfl
  simp [mapO, e, e2, mvD]
theorem deref_mv {st : Store} {n : Nat} (m : Mv) : deref st (n + 2) (mvD m) = some (mvD m) := by
  show (mapO (deref st (n + 1)) [.tup (m.g.map D.str), .int m.a, .int m.s]).map D.tup = _
  have e : deref st (n + 1) (.tup (m.g.map D.str)) = some (.tup (m.g.map D.str)) := by
    show (mapO (deref st n) (m.g.map D.str)).map D.tup = _
    rw [deref_strs]
    rfl
  have e2 : ∀ i, deref st (n + 1) (.int i) = some (.int i) := fun i => rfl
  simp [mapO, e, e2, mvD]
theorem frz_mvs {st : Store} {b n : Nat} {ms : List Mv} : mapO (frz st b (n + 2)) (ms.map mvD) = some (ms.map mvD) := by
  refine mapO_same ?_
  intro x hx
  simp only [List.mem_map] at hx
  obtain ⟨t, _, rfl⟩ := hx
  exact frz_mv t
theorem deref_mvs {st : Store} {n : Nat} {ms : List Mv} : mapO (deref st (n + 2)) (ms.map mvD) = some (ms.map mvD) := by
  refine mapO_same ?_
  intro x hx
  simp only [List.mem_map] at hx
  obtain ⟨t, _, rfl⟩ := hx
  exact deref_mv t
theorem frz_off {st : Store} {b n : Nat} (off : Option Mv) : frz st b (n + 2) (offD off) = some (offD off) := by
  cases off with
  | none => rfl
  | some m => exact frz_mv m
theorem deref_off {st : Store} {n : Nat} (off : Option Mv) : deref st (n + 2) (offD off) = some (offD off) := by
  cases off with
  | none => rfl
  | some m => exact deref_mv m
theorem deref_way {st : Store} {ms : List Mv} {off : Option Mv} : deref st DEEP (wayD ms off) = some (wayD ms off) := by
  show (mapO (deref st 7) [.lst (ms.map mvD), offD off]).map D.tup = _
  have e : deref st 7 (.lst (ms.map mvD)) = some (.lst (ms.map mvD)) := by
    show (mapO (deref st 6) (ms.map mvD)).map D.lst = _
    rw [deref_mvs]
    rfl
  simp [mapO, e, deref_off, wayD]
/-- moves told, kept in the store -/
theorem deref_wayL {st : Store} {k : Nat} {ms : List Mv} {off : Option Mv} (h : sget st k = some (.lst (ms.map mvD))) : deref st DEEP (.tup [.loc k, offD off]) = some (wayD ms off) := by
  show (mapO (deref st 7) [.loc k, offD off]).map D.tup = _
  have e : deref st 7 (.loc k) = some (.lst (ms.map mvD)) := by
    show (match sget st k with
      | some (.lst xs) => (mapO (deref st 6) xs).map D.lst
      | _ => none) = _
    rw [h]
    show (mapO (deref st 6) (ms.map mvD)).map D.lst = _
    rw [deref_mvs]
    rfl
  simp [mapO, e, deref_off, wayD]
theorem deref_wayT {st : Store} {ms : List Mv} {off : Option Mv} : deref st DEEP (.tup [.tup (ms.map mvD), offD off]) = some (.tup [.tup (ms.map mvD), offD off]) := by
  show (mapO (deref st 7) [.tup (ms.map mvD), offD off]).map D.tup = _
  have e : deref st 7 (.tup (ms.map mvD)) = some (.tup (ms.map mvD)) := by
    show (mapO (deref st 6) (ms.map mvD)).map D.tup = _
    rw [deref_mvs]
    rfl
  simp [mapO, e, deref_off]
def WayRun (C : Cal) (f : Nat) : Prop := ∀ (up : Store) (o : Ob) (P : D → Store → Prop), DeckOk o → (∀ ms off o', DeckOk o' → WayOk ms off → ms.length ≤ 6 → P (wayD ms off) (up ++ [o'])) → (C.fn f false [.loc 0] (up ++ [o])).sat P
theorem way_run {T : Tb} {n f : Nat} (hf : T.fns[f]? = some ⟨4, 1, [], wayB⟩) (hd : Draws (calN T n) 4) (hm : GroupRun (calN T n) 8) : WayRun (calN T (n + 1)) f := by
  intro up o P ho h
  rw [calN_fn]
  refine run_sat hf rfl ?_
  have hl : (up ++ [o]).length = up.length + 1 := by simp
  rw [hl]
  refine way_exec hd hm ho ?_
  intro ms off o' h3 h4 h5
  refine leave_f (d' := wayD ms off) ?_ ?_
  · show (mapO (frz _ _ 7) [.loc (up.length + 1), offD off]).map D.tup = _
    have e : frz (.lst (ms.map mvD) :: (up ++ [o'])) (up.length + 1) 7 (.loc (up.length + 1)) = some (.lst (ms.map mvD)) := by
      show (if up.length + 1 < up.length + 1 then some (D.loc (up.length + 1)) else (match sget (.lst (ms.map mvD) :: (up ++ [o'])) (up.length + 1) with
        | some (.lst xs) => (mapO (frz (.lst (ms.map mvD) :: (up ++ [o'])) (up.length + 1) 6) xs).map D.lst
        | some (.ins c ys) => (mapO (frz (.lst (ms.map mvD) :: (up ++ [o'])) (up.length + 1) 6) ys).map (D.obj c)
        | _ => none)) = _
      rw [if_neg (Nat.lt_irrefl _), sget_1]
      show (mapO (frz (.lst (ms.map mvD) :: (up ++ [o'])) (up.length + 1) 6) (ms.map mvD)).map D.lst = _
      rw [frz_mvs]
      rfl
    simp [mapO, e, frz_off, wayD]
  · have := strunc_1 (l := [.lst (ms.map mvD)]) (up := up) (o := o) (o' := o')
    rw [hl] at this
    show P _ (strunc ([.lst (ms.map mvD)] ++ (up ++ [o'])) (up.length + 1))
    rw [this]
    exact h ms off o' h3 h4 h5
theorem pyd_str (n : Nat) (x : List Nat) : pyd n (.str x) = .str ⟨x.toArray⟩ := by cases n <;> rfl
theorem pyd_int (n : Nat) (i : Int) : pyd n (.int i) = .int i := by cases n <;> rfl
theorem shw_mv {n : Nat} {m : Mv} (hg : GroupOk m.g) (ha : m.a < 3) (h1 : -999 ≤ m.s) (h2 : m.s ≤ 999) : Shw (pyd (n + 2) (mvD m)) 138 := by
  show Shw (.tuple ([.tup (m.g.map D.str), .int m.a, .int m.s].map (pyd (n + 1)))) _
  refine shw_tuple (w := 45) (n := 3) ?_ (by simp)
  intro x hx
  simp only [List.map_cons, List.map_nil, List.mem_cons, List.not_mem_nil, or_false] at hx
  rcases hx with rfl | rfl | rfl
  · show Shw (.tuple ((m.g.map D.str).map (pyd n))) _
    refine shw_tuple (w := 8) (n := 5) ?_ (by simpa using hg.hi)
    intro x hx
    simp only [List.map_map, List.mem_map, Function.comp] at hx
    obtain ⟨t, ht, rfl⟩ := hx
    rw [pyd_str]
    obtain ⟨h3, h4, h5⟩ := hg.names t ht
    refine shw_str ?_ h4
    intro c hc
    have := h5 c hc
    omega
  · rw [pyd_int]; exact (shw_int (by omega)).mono (by decide)
  · rw [pyd_int]; exact (shw_int (by omega)).mono (by decide)
theorem shw_off {n : Nat} {ms : List Mv} {off : Option Mv} (h : WayOk ms off) : Shw (pyd (n + 2) (offD off)) 138 := by
  cases off with
  | none => exact shw_none
  | some m =>
    have := h.off m rfl
    refine shw_mv this.g this.a ?_ ?_ <;> rcases this.s with e | e <;> omega
theorem shw_ms {n : Nat} {ms : List Mv} {off : Option Mv} (h : WayOk ms off) : ∀ x ∈ (ms.map mvD).map (pyd (n + 2)), Shw x 138 := by
  intro x hx
  simp only [List.map_map, List.mem_map, Function.comp] at hx
  obtain ⟨t, ht, rfl⟩ := hx
  have := h.ms t ht
  exact shw_mv this.g this.a this.lo this.hi
theorem shw_way {ms : List Mv} {off : Option Mv} (h : WayOk ms off) : Shw (pyd DEEP (wayD ms off)) 3338 := by
  show Shw (.tuple ([.lst (ms.map mvD), offD off].map (pyd 7))) _
  refine shw_tuple (w := 1668) (n := 2) ?_ (by simp)
  intro x hx
  simp only [List.map_cons, List.map_nil, List.mem_cons, List.not_mem_nil, or_false] at hx
  rcases hx with rfl | rfl
  · exact shw_list (w := 138) (n := 12) (shw_ms (n := 4) h) (by simpa using h.n)
  · exact (shw_off (n := 5) h).mono (by decide)
theorem shw_wayT {ms : List Mv} {off : Option Mv} (h : WayOk ms off) : Shw (pyd DEEP (.tup [.tup (ms.map mvD), offD off])) 3338 := by
  show Shw (.tuple ([.tup (ms.map mvD), offD off].map (pyd 7))) _
  refine shw_tuple (w := 1668) (n := 2) ?_ (by simp)
  intro x hx
  simp only [List.map_cons, List.map_nil, List.mem_cons, List.not_mem_nil, or_false] at hx
  rcases hx with rfl | rfl
  · exact shw_tuple (w := 138) (n := 12) (shw_ms (n := 4) h) (by simpa using h.n)
  · exact (shw_off (n := 5) h).mono (by decide)
end MP

set_option autoImplicit false
set_option linter.all false
set_option maxRecDepth 100000
namespace MP
open ME MS
local macro_rules | `(tactic| walk_at "mp") => `(tactic| repeat (first | with_reducible refine x_seq ?_ | with_reducible refine x_asgv ?_ | with_reducible refine x_asg ?_ | with_reducible refine x_ex ?_ | with_reducible refine x_ret ?_ | with_reducible refine x_ite ?_ | with_reducible refine x_fr ?_ | with_reducible refine x_sasg ?_ | with_reducible refine x_skip ?_ | with_reducible refine t_no ?_ | with_reducible refine t_cons ?_ | with_reducible refine t_star ?_ | with_reducible refine s_k ?_ | with_reducible refine s_bin ?_ | with_reducible refine s_neg ?_ | with_reducible refine s_nt ?_ | with_reducible refine s_an ?_ | with_reducible refine s_or ?_ | with_reducible refine s_cmp ?_ | with_reducible refine s_cmp2 ?_ | with_reducible refine s_isn ?_ | with_reducible refine s_notn ?_ | with_reducible refine s_ite ?_ | with_reducible refine s_tup ?_ | with_reducible refine s_lstF ?_ | with_reducible refine s_lstT ?_ | with_reducible refine s_ix ?_ | with_reducible refine s_sl ?_ | with_reducible refine s_bi ?_ | with_reducible refine s_bm ?_ | with_reducible refine s_fc ?_ | with_reducible refine s_lc ?_ | with_reducible refine s_newF ?_ | with_reducible refine s_newT ?_ | with_reducible refine s_fld ?_ | with_reducible refine s_ew ?_ | with_reducible refine s_ep ?_ | with_reducible refine s_ei ?_ | with_reducible refine s_ev ?_ | with_reducible refine i_zp ?_ | with_reducible refine i_rng1 ?_ | with_reducible refine i_rng2 ?_ | with_reducible refine i_enm ?_ | with_reducible refine i_itr ?_ | with_reducible refine s_calm ?_ | with_reducible refine s_need ?_ | ((with_reducible apply s_var); rfl) | ((with_reducible apply s_gl); assumption) | ((with_reducible apply x_rs1); assumption) | ((with_reducible apply s_mx0); assumption) | ((with_reducible apply s_mx1); assumption) | ((with_reducible apply s_my1); assumption) | ((with_reducible apply s_my2); assumption) | ((with_reducible apply s_ok); rfl) | ((with_reducible apply e_some); rfl) | ((with_reducible apply e_rcv); rfl) | ((with_reducible apply e_neg); rfl) | ((with_reducible apply and_t); rfl) | ((with_reducible apply and_f); rfl)))
def dirW (a : Nat) (s : Int) : List Nat := [if s < 0 then 45 else 43, 120 + a]
def mvW (m : Mv) : List (List Nat) := m.g ++ [dirW m.a m.s, digitsL m.s.natAbs]
def offW (m : Mv) : List (List Nat) := [111, 102, 102] :: (m.g ++ [dirW m.a m.s])
def linesW (ms : List Mv) (off : Option Mv) : List (List (List Nat)) := ms.map mvW ++ off.toList.map offW
def lineD (ws : List (List Nat)) : D := .lst (ws.map D.str)
/-- numbers below a thousand, written -/
theorem dig_ok : ∀ n : _root_.Fin 1000, n.val ≠ 0 → (1 ≤ (digitsL n.val).length ∧ (digitsL n.val).length ≤ 3 ∧ (digitsL n.val).all (fun c => decide (48 ≤ c) && decide (c ≤ 57)) = true ∧ (digitsL n.val)[0]? ≠ some 48 ∧ textInt (digitsL n.val) = some (n.val : Int)) := by decide +kernel
/-- a row of words: few and short -/
structure LineOk (ws : List (List Nat)) : Prop where
  n : ws.length ≤ 7
  w : ∀ x ∈ ws, x.length ≤ 8
theorem mvW_ok {m : Mv} (h : MvOk m) : LineOk (mvW m) := by
  refine ⟨by have := h.g.hi; simp [mvW]; omega, ?_⟩
  intro x hx
  simp only [mvW, List.mem_append, List.mem_cons, List.not_mem_nil, or_false] at hx
  rcases hx with hx | rfl | rfl
  · exact (h.g.names x hx).2.1
  · simp [dirW]
  · have h1 := h.lo
    have h2 := h.hi
    have h3 := h.z
    have := dig_ok ⟨m.s.natAbs, by omega⟩ (by simp only; omega)
    have h5 : (digitsL m.s.natAbs).length ≤ 3 := this.2.1
    omega
theorem offW_ok {m : Mv} (h : OffOk m) : LineOk (offW m) := by
  refine ⟨by have := h.g.hi; simp [offW]; omega, ?_⟩
  intro x hx
  simp only [offW, List.mem_append, List.mem_cons, List.not_mem_nil, or_false] at hx
  rcases hx with rfl | hx | rfl
  · decide
  · exact (h.g.names x hx).2.1
  · simp [dirW]
theorem sumLen_le {w : Nat} : ∀ {g : List (List Nat)}, (∀ x ∈ g, x.length ≤ w) → sumLen g ≤ g.length * w
  | [], _ => Nat.zero_le _
  | x :: g, h => by
    have h1 := h x (by simp)
    have h2 := sumLen_le (g := g) fun y hy => h y (by simp [hy])
    simp only [sumLen, List.length_cons, Nat.add_mul]
    omega
theorem joinC_len {s : List Nat} : ∀ {g : List (List Nat)}, (joinC s g).length ≤ sumLen g + g.length * s.length
  | [] => Nat.zero_le _
  | [x] => by simp [joinC, sumLen]
  | x :: y :: g => by
    have := joinC_len (s := s) (g := y :: g)
    simp only [joinC, List.length_append, sumLen, List.length_cons, Nat.add_mul] at this ⊢
    omega
theorem LineOk.sum {ws : List (List Nat)} (h : LineOk ws) : sumLen ws ≤ 56 := Nat.le_trans (sumLen_le h.w) (by have := h.n; omega)
theorem LineOk.len {ws : List (List Nat)} (h : LineOk ws) : (joinC [32] ws).length ≤ 63 := by
  have := joinC_len (s := [32]) (g := ws)
  have := h.sum
  have := h.n
  simp at *
  omega
theorem lines_ok {ms : List Mv} {off : Option Mv} (h : WayOk ms off) : ∀ ws ∈ linesW ms off, LineOk ws := by
  intro ws hw
  simp only [linesW, List.mem_append, List.mem_map, Option.mem_toList] at hw
  rcases hw with ⟨m, hm, rfl⟩ | ⟨m, hm, rfl⟩
  · exact mvW_ok (h.ms m hm)
  · exact offW_ok (h.off m hm)
theorem lines_few {ms : List Mv} {off : Option Mv} (h : WayOk ms off) : (linesW ms off).length ≤ 13 := by
  have := h.n
  cases off <;> simp [linesW] <;> omega
theorem ix_sgn {E : D → Store → Prop} {s : Int} {st : Store} {P : D → Store → Prop} (h : P (.str [if s < 0 then 45 else 43]) st) : (ixD (.lst [.str [43], .str [45]]) (.int (if decide (s < 0) then 1 else 0)) st).satX P E := by
  by_cases hs : s < 0
  · rw [if_pos hs] at h
    rw [if_pos (decide_eq_true hs)]
    exact h
  · rw [if_neg hs] at h
    rw [if_neg (by simpa using hs)]
    exact h
theorem ix_xyz {E : D → Store → Prop} {a : Nat} {st : Store} {P : D → Store → Prop} (ha : a < 3) (h : P (.str [120 + a]) st) : (ixD (.str [120, 121, 122]) (.int a) st).satX P E := by
  match a, ha with
  | 0, _ => exact h
  | 1, _ => exact h
  | 2, _ => exact h
theorem s_strI {E : D → Store → Prop} {isa : Nat → Nat → Bool} {m : Bool} {s : Int} {st : Store} {P : D → Store → Prop} (hs : s.natAbs < 1000000) (h : P (.str (digitsL s.natAbs)) st) : (bfun isa .str m [.int (if s < 0 then -s else s)] st).satX P E := by
  have e : (if s < 0 then -s else s) = ((s.natAbs : Nat) : Int) := by split <;> omega
  rw [e]
  refine s_ok (if_pos ?_) ?_
  · refine Nat.lt_of_lt_of_le (show (s.natAbs : Int).natAbs < 10 ^ 6 by omega) (Nat.pow_le_pow_right (by decide) (by decide))
  · unfold intText
    rw [if_neg (by omega)]
    exact h
theorem s_addL {E : D → Store → Prop} {xs ys : List D} {st : Store} {P : D → Store → Prop} (h : xs.length + ys.length ≤ 1000000) (h2 : P (.lst (xs ++ ys)) st) : (binop .add false (.lst xs) (.lst ys) st).satX P E := s_ok (if_pos h) h2
def linesB : MS := (.seq (.asg (.var 1) (.lst true .no))
 (.seq (.fr (.tup (.cons (.var 2) (.cons (.var 3) (.cons (.var 4) .no)))) (.itr (.ix (.var 0) (.k (.int 0))))
 (.seq (.ex (.bm .append false (.var 1) (.cons (.bin .add false (.bi .list false (.cons (.var 2) .no)) (.lst false (.cons (.bin .add false (.ix (.lst false (.cons (.k (.str [43])) (.cons (.k (.str [45])) .no))) (.bi .int false (.cons (.cmp .lt (.var 4) (.k (.int 0))) .no))) (.ix (.k (.str [120, 121, 122])) (.var 3))) (.cons (.bi .str false (.cons (.bi .abs false (.cons (.var 4) .no)) .no)) .no)))) .no)))
 .skip))
 (.seq (.ite (.notn (.ix (.var 0) (.k (.int 1))))
 (.seq (.asg (.tup (.cons (.var 2) (.cons (.var 3) (.cons (.var 5) .no)))) (.ix (.var 0) (.k (.int 1))))
 (.seq (.ex (.bm .append false (.var 1) (.cons (.bin .add false (.bin .add false (.lst false (.cons (.k (.str [111, 102, 102])) .no)) (.bi .list false (.cons (.var 2) .no))) (.lst false (.cons (.bin .add false (.ix (.lst false (.cons (.k (.str [43])) (.cons (.k (.str [45])) .no))) (.bi .int false (.cons (.cmp .lt (.var 5) (.k (.int 0))) .no))) (.ix (.k (.str [120, 121, 122])) (.var 3))) .no))) .no)))
 .skip))
 .skip)
 (.seq (.ret (.var 1))
 .skip))))
theorem lines_exec {C : Cal} {st : Store} {ms : List Mv} {off : Option Mv} {N : Env → Store → Prop} {P : D → Store → Prop} (hw : WayOk ms off)
    (h : P (.loc st.length) (.lst ((linesW ms off).map lineD) :: st)) : (exec C st.length linesB [some (wayD ms off), none, none, none, none, none] st).sat N P := by
  unfold linesB
  walk_at "mp"
  refine f_inv (I := fun dn rest env st1 => ∃ (m1 m2 : List Mv) (x y z : Option D), ms = m1 ++ m2 ∧ rest = m2.map mvD ∧ st1 = .lst ((m1.map mvW).map lineD) :: st ∧ env = [some (wayD ms off), some (.loc st.length), x, y, z, none]) ?_ ?_ ?_ (ms.map mvD) [] _ _ ⟨[], ms, none, none, none, rfl, rfl, rfl, rfl⟩
  · rintro _ _ _ _ ⟨m1, m2, _, _, _, _, _, rfl, _⟩; rfl
  · rintro dn d rest env st1 ⟨m1, m2, x, y, z, e, hr, rfl, rfl⟩
    cases m2 with
    | nil => exact (nomatch hr)
    | cons m m2 =>
      simp only [List.map_cons, List.cons.injEq] at hr
      obtain ⟨rfl, rfl⟩ := hr
      have hm : MvOk m := hw.ms m (by rw [e]; simp)
      refine ⟨_, rfl, ?_⟩
      walk_at "mp"
      refine ⟨rcv_app (sg_top _ _), ?_⟩
      walk_at "mp"
      refine ix_sgn ?_
      walk_at "mp"
      refine ix_xyz hm.a ?_
      walk_at "mp"
      refine s_strI (by have := hm.lo; have := hm.hi; omega) ?_
      walk_at "mp"
      refine s_addL (by have := hm.g.hi; simp; omega) ?_
      walk_at "mp"
      refine app_loc (sg_top _ _) (by have := hw.n; rw [e] at this; simp at this ⊢; omega) (Nat.le_refl _) ?_
      rw [sp_top]
      walk_at "mp"
      refine ⟨m1 ++ [m], m2, _, _, _, by rw [e]; simp, rfl, by simp [mvW, lineD, dirW], rfl⟩
  · rintro dn env st1 ⟨m1, m2, x, y, z, e, hr, rfl, rfl⟩
    have : m2 = [] := by cases m2 with
      | nil => rfl
      | cons => exact (nomatch hr)
    subst this
    rw [List.append_nil] at e
    subst e
    cases off with
    | none =>
      walk_at "mp"
      simpa [linesW] using h
    | some m =>
      have hm := hw.off m rfl
      walk_at "mp"
      refine ⟨rcv_app (sg_top _ _), ?_⟩
      walk_at "mp"
      refine s_addL (by have := hm.g.hi; simp; omega) ?_
      walk_at "mp"
      refine ix_sgn ?_
      walk_at "mp"
      refine ix_xyz hm.a ?_
      walk_at "mp"
      refine s_addL (by have := hm.g.hi; simp; omega) ?_
      walk_at "mp"
      refine app_loc (sg_top _ _) (by have := hw.n; simp at this ⊢; omega) (Nat.le_refl _) ?_
      rw [sp_top]
      walk_at "mp"
      simpa [linesW, offW, lineD, dirW] using h
end MP

set_option autoImplicit false
set_option linter.all false
set_option maxRecDepth 100000
namespace MP
open ME MS
local macro_rules | `(tactic| walk_at "mp") => `(tactic| repeat (first | with_reducible refine x_seq ?_ | with_reducible refine x_asgv ?_ | with_reducible refine x_asg ?_ | with_reducible refine x_ex ?_ | with_reducible refine x_ret ?_ | with_reducible refine x_ite ?_ | with_reducible refine x_fr ?_ | with_reducible refine x_sasg ?_ | with_reducible refine x_skip ?_ | with_reducible refine t_no ?_ | with_reducible refine t_cons ?_ | with_reducible refine t_star ?_ | with_reducible refine s_k ?_ | with_reducible refine s_bin ?_ | with_reducible refine s_neg ?_ | with_reducible refine s_nt ?_ | with_reducible refine s_an ?_ | with_reducible refine s_or ?_ | with_reducible refine s_cmp ?_ | with_reducible refine s_cmp2 ?_ | with_reducible refine s_isn ?_ | with_reducible refine s_notn ?_ | with_reducible refine s_ite ?_ | with_reducible refine s_tup ?_ | with_reducible refine s_lstF ?_ | with_reducible refine s_lstT ?_ | with_reducible refine s_ix ?_ | with_reducible refine s_sl ?_ | with_reducible refine s_bi ?_ | with_reducible refine s_bm ?_ | with_reducible refine s_fc ?_ | with_reducible refine s_lc ?_ | with_reducible refine s_newF ?_ | with_reducible refine s_newT ?_ | with_reducible refine s_fld ?_ | with_reducible refine s_ew ?_ | with_reducible refine s_ep ?_ | with_reducible refine s_ei ?_ | with_reducible refine s_ev ?_ | with_reducible refine i_zp ?_ | with_reducible refine i_rng1 ?_ | with_reducible refine i_rng2 ?_ | with_reducible refine i_enm ?_ | with_reducible refine i_itr ?_ | with_reducible refine s_calm ?_ | with_reducible refine s_need ?_ | ((with_reducible apply s_var); rfl) | ((with_reducible apply s_gl); assumption) | ((with_reducible apply x_rs1); assumption) | ((with_reducible apply s_mx0); assumption) | ((with_reducible apply s_mx1); assumption) | ((with_reducible apply s_my1); assumption) | ((with_reducible apply s_my2); assumption) | ((with_reducible apply s_ok); rfl) | ((with_reducible apply e_some); rfl) | ((with_reducible apply e_rcv); rfl) | ((with_reducible apply e_neg); rfl) | ((with_reducible apply and_t); rfl) | ((with_reducible apply and_f); rfl)))
theorem frz_lines {st : Store} {b n : Nat} {ls : List (List (List Nat))} : mapO (frz st b (n + 1)) (ls.map lineD) = some (ls.map lineD) := by
  refine mapO_same ?_
  intro x hx
  simp only [List.mem_map] at hx
  obtain ⟨t, _, rfl⟩ := hx
  show (mapO (frz st b n) (t.map D.str)).map D.lst = _
  rw [frz_strs]
  rfl
theorem strunc_top {α : Type} {x : α} {st : List α} : strunc (x :: st) st.length = st := strunc_ap [x] st
/-- a list of one's own, on top of the store, is data when one leaves -/
theorem frz_own {st : Store} {n : Nat} {xs ys : List D} (h : mapO (frz (.lst xs :: st) st.length n) xs = some ys) : frz (.lst xs :: st) st.length (n + 1) (.loc st.length) = some (.lst ys) := by
  show (if st.length < st.length then some (D.loc st.length) else (match sget (.lst xs :: st) st.length with
    | some (.lst zs) => (mapO (frz (.lst xs :: st) st.length n) zs).map D.lst
    | some (.ins c zs) => (mapO (frz (.lst xs :: st) st.length n) zs).map (D.obj c)
    | _ => none)) = _
  rw [if_neg (Nat.lt_irrefl _), sg_top]
  show (mapO (frz (.lst xs :: st) st.length n) xs).map D.lst = _
  rw [h]
  rfl
def LinesRun (C : Cal) (f : Nat) : Prop := ∀ (st : Store) (ms : List Mv) (off : Option Mv) (P : D → Store → Prop), WayOk ms off → P (.lst ((linesW ms off).map lineD)) st → (C.fn f false [wayD ms off] st).sat P
theorem lines_run {T : Tb} {n f : Nat} (hf : T.fns[f]? = some ⟨6, 1, [], linesB⟩) : LinesRun (calN T (n + 1)) f := by
  intro st ms off P hw h
  rw [calN_fn]
  refine run_sat hf rfl ?_
  refine lines_exec hw ?_
  refine leave_f (d' := .lst ((linesW ms off).map lineD)) (frz_own frz_lines) ?_
  rw [strunc_top]
  exact h
theorem s_joinS {E : D → Store → Prop} {b : Nat} {m : Bool} {s : List Nat} {g : List (List Nat)} {st : Store} {d : D} {P : D → Store → Prop} (hd : seqOf st d = some (g.map D.str)) (h : sumLen g + g.length * (s.length + 1) ≤ 1000000) (h2 : P (.str (joinC s g)) st) : (bmeth b .join m (.str s) [d] st).satX P E := by
  refine s_ok (a := .str (joinC s g)) (st := st) ?_ h2
  show (match (seqOf st d).bind strsOf with
    | some ts => if sumLen ts + ts.length * (s.length + 1) ≤ LINE then Res.ok (D.str (joinC s ts)) st else .bad
    | none => .bad) = _
  rw [hd, show (some (g.map D.str)).bind strsOf = some g from strsOf_map g]
  exact if_pos h
/-- the text of a way -/
def textOf (ms : List Mv) (off : Option Mv) : List Nat := joinC [10] ((linesW ms off).map (joinC [32]))
theorem texts_sum {ms : List Mv} {off : Option Mv} (h : WayOk ms off) : sumLen ((linesW ms off).map (joinC [32])) ≤ 819 := by
  refine Nat.le_trans (sumLen_le (w := 63) ?_) (by have := lines_few h; simp; omega)
  intro x hx
  simp only [List.mem_map] at hx
  obtain ⟨ws, hw, rfl⟩ := hx
  exact (lines_ok h ws hw).len
def dirB : MS := (.seq (.ret (.bin .add false (.ite (.cmp .lt (.var 1) (.k (.int 0))) (.k (.str [45])) (.k (.str [43]))) (.ix (.gl 6) (.var 0))))
 .skip)
def DirRun (C : Cal) (f : Nat) : Prop := ∀ (st : Store) (a : Nat) (s : Int) (P : D → Store → Prop), a < 3 → P (.str (dirW a s)) st → (C.fn f false [.int a, .int s] st).sat P
theorem dir_run {T : Tb} {n f : Nat} (hf : T.fns[f]? = some ⟨2, 2, [], dirB⟩) (hg : T.globs[6]? = some (.str [120, 121, 122])) : DirRun (calN T (n + 1)) f := by
  intro st a s P ha h
  rw [calN_fn]
  refine run_sat hf rfl ?_
  have hg2 : (calN T n).glob 6 = some (.str [120, 121, 122]) := by rw [calN_glob]; exact hg
  generalize calN T n = C at hg2
  unfold dirB
  walk_at "mp"
  refine ⟨fun hs => ?_, fun hs => ?_⟩
  · walk_at "mp"
    refine ix_xyz ha ?_
    walk_at "mp"
    rw [strunc_self]
    unfold dirW at h
    rw [if_pos (by simpa using hs)] at h
    exact h
  · walk_at "mp"
    refine ix_xyz ha ?_
    walk_at "mp"
    rw [strunc_self]
    unfold dirW at h
    rw [if_neg (by simpa using hs)] at h
    exact h
def formatB : MS := (.seq (.asg (.tup (.cons (.var 2) (.cons (.var 3) .no))) (.var 0))
 (.seq (.asg (.var 1) (.lst true .no))
 (.seq (.fr (.tup (.cons (.var 4) (.cons (.var 5) (.cons (.var 6) .no)))) (.itr (.var 2))
 (.seq (.ex (.bm .append false (.var 1) (.cons (.bm .join false (.k (.str [32])) (.cons (.lst false (.star (.var 4) (.cons (.fc 11 false (.cons (.var 5) (.cons (.var 6) .no))) (.cons (.bi .str false (.cons (.bi .abs false (.cons (.var 6) .no)) .no)) .no)))) .no)) .no)))
 .skip))
 (.seq (.ite (.notn (.var 3))
 (.seq (.asg (.tup (.cons (.var 4) (.cons (.var 5) (.cons (.var 7) .no)))) (.var 3))
 (.seq (.ex (.bm .append false (.var 1) (.cons (.bm .join false (.k (.str [32])) (.cons (.lst false (.cons (.gl 7) (.star (.var 4) (.cons (.fc 11 false (.cons (.var 5) (.cons (.var 7) .no))) .no)))) .no)) .no)))
 .skip))
 .skip)
 (.seq (.ret (.bm .join false (.k (.str [10])) (.cons (.var 1) .no)))
 .skip)))))
theorem format_exec {C : Cal} {st : Store} {ms : List Mv} {off : Option Mv} {M : D} {N : Env → Store → Prop} {P : D → Store → Prop} (hw : WayOk ms off) (hM : ∀ (l : Ob) (W : List D × Src → Store → Prop), (∀ sr, (∀ l', unchanged (l' :: st) sr = true) → W (ms.map mvD, sr) (l :: st)) → (itrD M (l :: st)).sat W) (hd : DirRun C 11) (hg : C.glob 7 = some (.str [111, 102, 102]))
    (h : ∀ l, P (.str (textOf ms off)) (l :: st)) : (exec C st.length formatB [some (.tup [M, offD off]), none, none, none, none, none, none, none] st).sat N P := by
  unfold formatB
  walk_at "mp"
  refine hM _ _ ?_
  intro sr hsr
  refine f_inv (I := fun dn rest env st1 => ∃ (m1 m2 : List Mv) (x y z : Option D), ms = m1 ++ m2 ∧ rest = m2.map mvD ∧ st1 = .lst (((m1.map mvW).map (joinC [32])).map D.str) :: st ∧ env = [some (.tup [M, offD off]), some (.loc st.length), some M, some (offD off), x, y, z, none]) ?_ ?_ ?_ (ms.map mvD) [] _ _ ⟨[], ms, none, none, none, rfl, rfl, rfl, rfl⟩
  · rintro _ _ _ _ ⟨m1, m2, _, _, _, _, _, rfl, _⟩; exact hsr _
  · rintro dn d rest env st1 ⟨m1, m2, x, y, z, e, hr, rfl, rfl⟩
    cases m2 with
    | nil => exact (nomatch hr)
    | cons m m2 =>
      simp only [List.map_cons, List.cons.injEq] at hr
      obtain ⟨rfl, rfl⟩ := hr
      have hm : MvOk m := hw.ms m (by rw [e]; simp)
      have hl := mvW_ok hm
      refine ⟨_, rfl, ?_⟩
      walk_at "mp"
      refine ⟨rcv_app (sg_top _ _), ?_⟩
      walk_at "mp"
      refine hd _ _ _ _ hm.a ?_
      walk_at "mp"
      refine s_strI (by have := hm.lo; have := hm.hi; omega) ?_
      walk_at "mp"
      refine ⟨by have := hm.g.hi; simp [LINE]; omega, ?_⟩
      walk_at "mp"
      refine s_joinS (g := mvW m) (by simp [seqOf, mvW]) (by have := hl.sum; have := hl.n; simp; omega) ?_
      walk_at "mp"
      refine app_loc (sg_top _ _) (by have := hw.n; rw [e] at this; simp at this ⊢; omega) (Nat.le_refl _) ?_
      rw [sp_top]
      walk_at "mp"
      refine ⟨m1 ++ [m], m2, _, _, _, by rw [e]; simp, rfl, by simp, rfl⟩
  · rintro dn env st1 ⟨m1, m2, x, y, z, e, hr, rfl, rfl⟩
    have : m2 = [] := by cases m2 with
      | nil => rfl
      | cons => exact (nomatch hr)
    subst this
    rw [List.append_nil] at e
    subst e
    have hs := texts_sum hw
    have hfew := lines_few hw
    cases off with
    | none =>
      walk_at "mp"
      refine s_joinS (g := (linesW ms none).map (joinC [32])) (by rw [seq_loc (sg_top _ _)]; simp [linesW]) (by simp at hs hfew ⊢; omega) ?_
      exact h _
    | some m =>
      have hm := hw.off m rfl
      have hl := offW_ok hm
      walk_at "mp"
      refine ⟨rcv_app (sg_top _ _), ?_⟩
      walk_at "mp"
      refine hd _ _ _ _ hm.a ?_
      walk_at "mp"
      refine ⟨by have := hm.g.hi; simp [LINE]; omega, ?_⟩
      walk_at "mp"
      refine s_joinS (g := offW m) (by simp [seqOf, offW]) (by have := hl.sum; have := hl.n; simp; omega) ?_
      walk_at "mp"
      refine app_loc (sg_top _ _) (by have := hw.n; simp at this ⊢; omega) (Nat.le_refl _) ?_
      rw [sp_top]
      walk_at "mp"
      refine s_joinS (g := (linesW ms (some m)).map (joinC [32])) (by rw [seq_loc (sg_top _ _)]; simp [linesW]) (by simp at hs hfew ⊢; omega) ?_
      exact h _
end MP

set_option autoImplicit false
set_option linter.all false
set_option maxRecDepth 100000
namespace MP
open ME MS
local macro_rules | `(tactic| walk_at "mp") => `(tactic| repeat (first | with_reducible refine x_seq ?_ | with_reducible refine x_asgv ?_ | with_reducible refine x_asg ?_ | with_reducible refine x_ex ?_ | with_reducible refine x_ret ?_ | with_reducible refine x_ite ?_ | with_reducible refine x_fr ?_ | with_reducible refine x_sasg ?_ | with_reducible refine x_skip ?_ | with_reducible refine t_no ?_ | with_reducible refine t_cons ?_ | with_reducible refine t_star ?_ | with_reducible refine s_k ?_ | with_reducible refine s_bin ?_ | with_reducible refine s_neg ?_ | with_reducible refine s_nt ?_ | with_reducible refine s_an ?_ | with_reducible refine s_or ?_ | with_reducible refine s_cmp ?_ | with_reducible refine s_cmp2 ?_ | with_reducible refine s_isn ?_ | with_reducible refine s_notn ?_ | with_reducible refine s_ite ?_ | with_reducible refine s_tup ?_ | with_reducible refine s_lstF ?_ | with_reducible refine s_lstT ?_ | with_reducible refine s_ix ?_ | with_reducible refine s_sl ?_ | with_reducible refine s_bi ?_ | with_reducible refine s_bm ?_ | with_reducible refine s_fc ?_ | with_reducible refine s_lc ?_ | with_reducible refine s_newF ?_ | with_reducible refine s_newT ?_ | with_reducible refine s_fld ?_ | with_reducible refine s_ew ?_ | with_reducible refine s_ep ?_ | with_reducible refine s_ei ?_ | with_reducible refine s_ev ?_ | with_reducible refine i_zp ?_ | with_reducible refine i_rng1 ?_ | with_reducible refine i_rng2 ?_ | with_reducible refine i_enm ?_ | with_reducible refine i_itr ?_ | with_reducible refine s_calm ?_ | with_reducible refine s_need ?_ | ((with_reducible apply s_var); rfl) | ((with_reducible apply s_gl); assumption) | ((with_reducible apply x_rs1); assumption) | ((with_reducible apply s_mx0); assumption) | ((with_reducible apply s_mx1); assumption) | ((with_reducible apply s_my1); assumption) | ((with_reducible apply s_my2); assumption) | ((with_reducible apply s_ok); rfl) | ((with_reducible apply e_some); rfl) | ((with_reducible apply e_rcv); rfl) | ((with_reducible apply e_neg); rfl) | ((with_reducible apply and_t); rfl) | ((with_reducible apply and_f); rfl)))
theorem same_strs {n : Nat} : ∀ {g : List (List Nat)}, (((g.map D.str).zip (g.map D.str)).all fun p => unchanged.same (n + 1) p.1 p.2) = true
  | [] => rfl
  | x :: g => by
    have := same_strs (n := n) (g := g)
    simp only [List.map_cons, List.zip_cons_cons, List.all_cons, this, Bool.and_true]
    unfold unchanged.same
    exact decide_eq_true rfl
theorem same_mv {n : Nat} (m : Mv) : unchanged.same (n + 3) (mvD m) (mvD m) = true := by
  have e1 : unchanged.same (n + 2) (.tup (m.g.map D.str)) (.tup (m.g.map D.str)) = true := by
    show (((m.g.map D.str).length == (m.g.map D.str).length) && ((m.g.map D.str).zip (m.g.map D.str)).all fun p => unchanged.same (n + 1) p.1 p.2) = true
    rw [same_strs]
    simp
  have e2 : ∀ i : Int, unchanged.same (n + 2) (.int i) (.int i) = true := fun i => by unfold unchanged.same; exact decide_eq_true rfl
  show (([D.tup (m.g.map D.str), .int m.a, .int m.s].length == [D.tup (m.g.map D.str), .int m.a, .int m.s].length) && (([D.tup (m.g.map D.str), .int m.a, .int m.s].zip [D.tup (m.g.map D.str), .int m.a, .int m.s]).all fun p => unchanged.same (n + 2) p.1 p.2)) = true
  simp only [List.zip_cons_cons, List.zip_nil_left, List.all_cons, List.all_nil, e1, e2, Bool.and_true, beq_self_eq_true]
theorem same_mvs : ∀ {ms : List Mv}, (((ms.map mvD).zip (ms.map mvD)).all fun p => unchanged.same DEEP p.1 p.2) = true
  | [] => rfl
  | m :: ms => by
    have := same_mvs (ms := ms)
    simp only [List.map_cons, List.zip_cons_cons, List.all_cons, this, Bool.and_true]
    exact same_mv (n := 5) m
theorem unch_mvs {st : Store} {k : Nat} {ms : List Mv} (h : sget st k = some (.lst (ms.map mvD))) : unchanged st [(k, ms.map mvD)] = true := by
  unfold unchanged
  rw [h]
  simp only [same_mvs, beq_self_eq_true, Bool.true_and]
  rfl
def FormatRun (C : Cal) (f : Nat) : Prop := ∀ (st : Store) (ms : List Mv) (off : Option Mv) (M : D) (P : D → Store → Prop), WayOk ms off → (M = .lst (ms.map mvD) ∨ M = .tup (ms.map mvD) ∨ ∃ k, M = .loc k ∧ sget st k = some (.lst (ms.map mvD))) → P (.str (textOf ms off)) st → (C.fn f false [.tup [M, offD off]] st).sat P
theorem format_run {T : Tb} {n f : Nat} (hf : T.fns[f]? = some ⟨8, 1, [], formatB⟩) (hg : T.globs[7]? = some (.str [111, 102, 102])) (hd : DirRun (calN T n) 11) : FormatRun (calN T (n + 1)) f := by
  intro st ms off M P hw hM h
  rw [calN_fn]
  refine run_sat hf rfl ?_
  have hg2 : (calN T n).glob 7 = some (.str [111, 102, 102]) := by rw [calN_glob]; exact hg
  refine format_exec hw ?_ hd hg2 ?_
  · intro l W hW
    rcases hM with rfl | rfl | ⟨k, rfl, hk⟩
    · exact hW [] (fun _ => rfl)
    · exact hW [] (fun _ => rfl)
    · have hk2 : ∀ l' : Ob, sget (l' :: st) k = some (.lst (ms.map mvD)) := fun l' => by rw [sget_cons_lt (sget_lt hk)]; exact hk
      refine s_ok (a := (ms.map mvD, [(k, ms.map mvD)])) (st := l :: st) ?_ (hW _ fun l' => unch_mvs (hk2 l'))
      show itrS (.loc k) (l :: st) = _
      unfold itrS
      rw [seq_loc (hk2 l)]
      unfold srcOf
      simp only [hk2 l]
  · intro l
    refine leave_f (d' := .str (textOf ms off)) rfl ?_
    rw [strunc_top]
    exact h
/-- all alike -/
theorem c_const {tg : Store → D → Option Env} {c : Env → Store → Res Bool} {e : Env → Store → Res D} {sr : Src} {Z : List D → Store → Prop} {v : D} {st : Store} (xs : List D) (hu : unchanged st sr = true)
    (hs : ∀ x ∈ xs, ∃ env1, tg st x = some env1 ∧ (c env1 st).sat fun t st1 => (t = true → (e env1 st1).sat fun d st2 => d = v ∧ st2 = st) ∧ (t = false → False)) (hz : Z (List.replicate xs.length v) st) : (compGo tg c e sr xs st).sat Z := by
  refine c_loop (I := fun dn rest acc st1 => st1 = st ∧ acc = List.replicate dn.length v ∧ dn ++ rest = xs) ?_ ?_ ?_ xs st ⟨rfl, rfl, rfl⟩
  · rintro _ _ _ _ ⟨rfl, _⟩; exact hu
  · rintro dn x rest acc st1 ⟨rfl, rfl, rfl⟩
    obtain ⟨env1, h1, h2⟩ := hs x (by simp)
    refine ⟨env1, h1, s_imp h2 ?_⟩
    rintro t st2 ⟨h3, h4⟩
    refine ⟨fun h5 => s_imp (h3 h5) ?_, fun h5 => (h4 h5).elim⟩
    rintro d st3 ⟨rfl, rfl⟩
    refine ⟨rfl, ?_, by simp⟩
    simp [List.replicate_succ']
  · rintro dn acc st1 ⟨rfl, rfl, rfl⟩
    rw [List.append_nil] at hz
    exact hz
theorem asBools_rep (v : Bool) : ∀ n : Nat, mapO asBool (List.replicate n (D.bl v)) = some (List.replicate n v)
  | 0 => rfl
  | n + 1 => by
    have := asBools_rep v n
    simp [List.replicate_succ, mapO, asBool, this]
theorem all_rep {E : D → Store → Prop} {isa : Nat → Nat → Bool} {m : Bool} {n : Nat} {st : Store} {P : D → Store → Prop} (h : P (.bl true) st) : (bfun isa .all m [.lst (List.replicate n (.bl true))] st).satX P E := by
  refine s_ok (a := .bl true) (st := st) ?_ h
  show Res.of ((mapO asBool (List.replicate n (D.bl true))).map fun bs => D.bl (bs.all id)) st = _
  rw [asBools_rep]
  simp [Res.of]
theorem any_rep {E : D → Store → Prop} {isa : Nat → Nat → Bool} {m : Bool} {n : Nat} {st : Store} {P : D → Store → Prop} (h : P (.bl false) st) : (bfun isa .any m [.lst (List.replicate n (.bl false))] st).satX P E := by
  refine s_ok (a := .bl false) (st := st) ?_ h
  show Res.of ((mapO asBool (List.replicate n (D.bl false))).map fun bs => D.bl (bs.any id)) st = _
  rw [asBools_rep]
  simp [Res.of]
theorem mem_abc {c : Nat} (h1 : 97 ≤ c) (h2 : c ≤ 122) : c ∈ abc := by
  have : ∀ k : _root_.Fin 26, 97 + k.val ∈ abc := by decide
  have := this ⟨c - 97, by omega⟩
  simpa [show 97 + (c - 97) = c by omega] using this
theorem it_str {E : D → Store → Prop} {t : List Nat} {st : Store} {W : List D × Src → Store → Prop} (h : t.length ≤ 1000000) (h2 : W (t.map (fun c => .str [c]), []) st) : (itrD (.str t) st).satX W E := s_ok (if_pos h) h2
theorem len_str {E : D → Store → Prop} {isa : Nat → Nat → Bool} {m : Bool} {t : List Nat} {st : Store} {P : D → Store → Prop} (h : t.length ≤ 1000000) (h2 : P (.int t.length) st) : (bfun isa .len m [.str t] st).satX P E := by
  refine s_ok (a := .int t.length) (st := st) ?_ h2
  show Res.of ((if t.length ≤ LINE then some (t.length : Int) else none).map D.int) st = _
  rw [if_pos (show t.length ≤ LINE from h)]
  rfl
def isNameB : MS := (.seq (.ite (.or (.nt (.bi .isi false (.cons (.var 0) (.cons (.k (.ty 2)) .no)))) (.nt (.cmp2 .le .le (.k (.int 1)) (.bi .len false (.cons (.var 0) .no)) (.gl 1))))
 (.seq (.ret (.k (.bl false)))
 .skip)
 .skip)
 (.seq (.ret (.bi .all false (.cons (.lc false [1] (.var 1) (.itr (.var 0)) .no (.cmp .isin (.var 1) (.gl 2))) .no)))
 .skip))
def IsNameRun (C : Cal) (f : Nat) : Prop := ∀ (st : Store) (x : List Nat) (P : D → Store → Prop), NameOk x → P (.bl true) st → (C.fn f false [.str x] st).sat P
theorem isname_run {T : Tb} {n f : Nat} (hf : T.fns[f]? = some ⟨2, 1, [], isNameB⟩) (hg1 : T.globs[1]? = some (.int 8)) (hg2 : T.globs[2]? = some (.str abc)) : IsNameRun (calN T (n + 1)) f := by
  intro st x P hx h
  rw [calN_fn]
  refine run_sat hf rfl ?_
  have hg1' : (calN T n).glob 1 = some (.int 8) := by rw [calN_glob]; exact hg1
  have hg2' : (calN T n).glob 2 = some (.str abc) := by rw [calN_glob]; exact hg2
  generalize calN T n = C at hg1' hg2'
  obtain ⟨h1, h2, h3⟩ := hx
  unfold isNameB
  walk_at "mp"
  refine len_str (by omega) ?_
  walk_at "mp"
  refine ⟨fun _ => ?_, fun hn => by simp at hn; omega⟩
  refine s_gl hg1' ?_
  walk_at "mp"
  rw [show decide ((x.length : Int) ≤ 8) = true from decide_eq_true (by omega)]
  walk_at "mp"
  refine it_str (by omega) ?_
  refine c_const (v := .bl true) (x.map fun c => .str [c]) rfl ?_ ?_
  · intro d hd
    simp only [List.mem_map] at hd
    obtain ⟨c, hc, rfl⟩ := hd
    refine ⟨_, rfl, ?_⟩
    walk_at "mp"
    refine ⟨?_, rfl⟩
    have := h3 c hc
    rw [decide_eq_true (mem_abc this.1 this.2)]
  · walk_at "mp"
    refine all_rep ?_
    walk_at "mp"
    rw [strunc_self]
    exact h
end MP

set_option autoImplicit false
set_option linter.all false
set_option maxRecDepth 100000
namespace MP
open ME MS
local macro_rules | `(tactic| walk_at "mp") => `(tactic| repeat (first | with_reducible refine x_seq ?_ | with_reducible refine x_asgv ?_ | with_reducible refine x_asg ?_ | with_reducible refine x_ex ?_ | with_reducible refine x_ret ?_ | with_reducible refine x_ite ?_ | with_reducible refine x_fr ?_ | with_reducible refine x_sasg ?_ | with_reducible refine x_skip ?_ | with_reducible refine t_no ?_ | with_reducible refine t_cons ?_ | with_reducible refine t_star ?_ | with_reducible refine s_k ?_ | with_reducible refine s_bin ?_ | with_reducible refine s_neg ?_ | with_reducible refine s_nt ?_ | with_reducible refine s_an ?_ | with_reducible refine s_or ?_ | with_reducible refine s_cmp ?_ | with_reducible refine s_cmp2 ?_ | with_reducible refine s_isn ?_ | with_reducible refine s_notn ?_ | with_reducible refine s_ite ?_ | with_reducible refine s_tup ?_ | with_reducible refine s_lstF ?_ | with_reducible refine s_lstT ?_ | with_reducible refine s_ix ?_ | with_reducible refine s_sl ?_ | with_reducible refine s_bi ?_ | with_reducible refine s_bm ?_ | with_reducible refine s_fc ?_ | with_reducible refine s_lc ?_ | with_reducible refine s_newF ?_ | with_reducible refine s_newT ?_ | with_reducible refine s_fld ?_ | with_reducible refine s_ew ?_ | with_reducible refine s_ep ?_ | with_reducible refine s_ei ?_ | with_reducible refine s_ev ?_ | with_reducible refine i_zp ?_ | with_reducible refine i_rng1 ?_ | with_reducible refine i_rng2 ?_ | with_reducible refine i_enm ?_ | with_reducible refine i_itr ?_ | with_reducible refine s_calm ?_ | with_reducible refine s_need ?_ | ((with_reducible apply s_var); rfl) | ((with_reducible apply s_gl); assumption) | ((with_reducible apply x_rs1); assumption) | ((with_reducible apply s_mx0); assumption) | ((with_reducible apply s_mx1); assumption) | ((with_reducible apply s_my1); assumption) | ((with_reducible apply s_my2); assumption) | ((with_reducible apply s_ok); rfl) | ((with_reducible apply e_some); rfl) | ((with_reducible apply e_rcv); rfl) | ((with_reducible apply e_neg); rfl) | ((with_reducible apply and_t); rfl) | ((with_reducible apply and_f); rfl)))
theorem ix_str {E : D → Store → Prop} {t : List Nat} {i : Int} {c : Nat} {st : Store} {P : D → Store → Prop} (h : t.length ≤ 1000000) (h1 : at? t i = some c) (h2 : P (.str [c]) st) : (ixD (.str t) (.int i) st).satX P E := by
  refine s_ok (a := .str [c]) (st := st) ?_ h2
  show (if t.length ≤ LINE then Res.of ((at? t i).map fun c => D.str [c]) st else .bad) = _
  rw [if_pos (show t.length ≤ LINE from h), h1]
  rfl
theorem ix_lstAt {E : D → Store → Prop} {xs : List D} {i : Int} {d : D} {st : Store} {P : D → Store → Prop} (h1 : at? xs i = some d) (h2 : P d st) : (ixD (.lst xs) (.int i) st).satX P E := by
  refine s_ok (a := d) (st := st) ?_ h2
  show Res.of (at? xs i) st = _
  rw [h1]
  rfl
theorem at_last {α : Type} (xs : List α) (x : α) : at? (xs ++ [x]) (-1) = some x := by
  unfold at? ixn
  rw [if_neg (by decide), if_pos (by simp; omega)]
  simp only
  rw [show ((-1 : Int) + ((xs ++ [x]).length : Nat)).toNat = xs.length by simp; omega]
  simp
theorem at_last2 {α : Type} (xs : List α) (y x : α) : at? (xs ++ [y, x]) (-2) = some y := by
  unfold at? ixn
  rw [if_neg (by decide), if_pos (by simp; omega)]
  simp only
  rw [show ((-2 : Int) + ((xs ++ [y, x]).length : Nat)).toNat = xs.length by simp; omega]
  simp
theorem cut_last2 {α : Type} (xs : List α) (y x : α) : cut (xs ++ [y, x]) none (some (-2)) = xs := by
  unfold cut six
  simp only
  rw [if_pos (by decide), show ((-2 : Int) + ((xs ++ [y, x]).length : Nat)).toNat = xs.length by simp; omega]
  simp
theorem cut_mid {α : Type} (xs : List α) (y x : α) : cut (y :: (xs ++ [x])) (some 1) (some (-1)) = xs := by
  unfold cut six
  simp only
  rw [if_neg (show ¬ ((1 : Int) < 0) by decide), if_pos (show (-1 : Int) < 0 by decide), show ((-1 : Int) + ((y :: (xs ++ [x])).length : Nat)).toNat = xs.length + 1 by simp; omega, show min (1 : Int).toNat (y :: (xs ++ [x])).length = 1 by simp]
  simp
theorem s_cutL {E : D → Store → Prop} {xs : List D} {l g : Option Int} {st : Store} {P : D → Store → Prop} (h : P (.lst (cut xs l g)) st) : (slD false (.lst xs) l g st).satX P E := h
def stepsB : MS := (.seq (.ite (.or (.nt (.cmp2 .le .le (.k (.int 1)) (.bi .len false (.cons (.var 0) .no)) (.gl 4))) (.or (.cmp .eq (.ix (.var 0) (.k (.int 0))) (.k (.str [48]))) (.nt (.bi .all false (.cons (.lc false [2] (.var 2) (.itr (.var 0)) .no (.cmp .isin (.var 2) (.gl 3))) .no)))))
 (.seq .nev
 .skip)
 .skip)
 (.seq (.ret (.bi .int false (.cons (.var 0) .no)))
 .skip))
def StepsRun (C : Cal) (f : Nat) : Prop := ∀ (st : Store) (n : Nat) (i : Int) (P : D → Store → Prop), n ≠ 0 → n ≤ 999 → P (.int n) st → (C.fn f false [.str (digitsL n), .int i] st).sat P
theorem mem_dig {c : Nat} (h1 : 48 ≤ c) (h2 : c ≤ 57) : c ∈ [48, 49, 50, 51, 52, 53, 54, 55, 56, 57] := by
  have : ∀ k : _root_.Fin 10, 48 + k.val ∈ [48, 49, 50, 51, 52, 53, 54, 55, 56, 57] := by decide
  have := this ⟨c - 48, by omega⟩
  simpa [show 48 + (c - 48) = c by omega] using this
theorem steps_run {T : Tb} {n f : Nat} (hf : T.fns[f]? = some ⟨3, 2, [], stepsB⟩) (hg3 : T.globs[3]? = some (.str [48, 49, 50, 51, 52, 53, 54, 55, 56, 57])) (hg4 : T.globs[4]? = some (.int 3)) : StepsRun (calN T (n + 1)) f := by
  intro st k i P h0 hk h
  rw [calN_fn]
  refine run_sat hf rfl ?_
  have hg3' : (calN T n).glob 3 = some (.str [48, 49, 50, 51, 52, 53, 54, 55, 56, 57]) := by rw [calN_glob]; exact hg3
  have hg4' : (calN T n).glob 4 = some (.int 3) := by rw [calN_glob]; exact hg4
  generalize calN T n = C at hg3' hg4'
  obtain ⟨h1, h2, h3, h4, h5⟩ : (1 ≤ (digitsL k).length ∧ (digitsL k).length ≤ 3 ∧ (digitsL k).all (fun c => decide (48 ≤ c) && decide (c ≤ 57)) = true ∧ (digitsL k)[0]? ≠ some 48 ∧ textInt (digitsL k) = some (k : Int)) := dig_ok ⟨k, by omega⟩ h0
  generalize digitsL k = t at *
  unfold stepsB
  walk_at "mp"
  refine len_str (by omega) ?_
  walk_at "mp"
  refine ⟨fun _ => ?_, fun hn => by simp at hn; omega⟩
  refine s_gl hg4' ?_
  walk_at "mp"
  rw [show decide ((t.length : Int) ≤ 3) = true from decide_eq_true (by omega)]
  walk_at "mp"
  obtain ⟨c, r, rfl⟩ : ∃ c r, t = c :: r := by
    cases t with
    | nil => simp at h1
    | cons c r => exact ⟨c, r, rfl⟩
  refine ix_str (c := c) (by omega) (by simp [at?, ixn]) ?_
  walk_at "mp"
  have hc : c ≠ 48 := by simpa using h4
  refine ⟨fun he => ?_, fun _ => ?_⟩
  · have : decide ([c] = [48]) = true := he
    simp at this
    exact absurd this hc
  walk_at "mp"
  refine it_str (by omega) ?_
  refine c_const (v := .bl true) ((c :: r).map fun c => .str [c]) rfl ?_ ?_
  · intro d hd
    simp only [List.mem_map] at hd
    obtain ⟨x, hx, rfl⟩ := hd
    refine ⟨_, rfl, ?_⟩
    walk_at "mp"
    refine ⟨?_, rfl⟩
    have := List.all_eq_true.1 h3 x hx
    simp only [Bool.and_eq_true, decide_eq_true_eq] at this
    rw [decide_eq_true (mem_dig this.1 this.2)]
  · walk_at "mp"
    refine all_rep ?_
    walk_at "mp"
    refine s_of (a := .int k) (by show (textInt (c :: r)).map D.int = _; rw [h5]; rfl) ?_
    walk_at "mp"
    rw [strunc_self]
    exact h
end MP

set_option autoImplicit false
set_option linter.all false
set_option maxRecDepth 100000
namespace MP
open ME MS
local macro_rules | `(tactic| walk_at "mp") => `(tactic| repeat (first | with_reducible refine x_seq ?_ | with_reducible refine x_asgv ?_ | with_reducible refine x_asg ?_ | with_reducible refine x_ex ?_ | with_reducible refine x_ret ?_ | with_reducible refine x_ite ?_ | with_reducible refine x_fr ?_ | with_reducible refine x_sasg ?_ | with_reducible refine x_skip ?_ | with_reducible refine t_no ?_ | with_reducible refine t_cons ?_ | with_reducible refine t_star ?_ | with_reducible refine s_k ?_ | with_reducible refine s_bin ?_ | with_reducible refine s_neg ?_ | with_reducible refine s_nt ?_ | with_reducible refine s_an ?_ | with_reducible refine s_or ?_ | with_reducible refine s_cmp ?_ | with_reducible refine s_cmp2 ?_ | with_reducible refine s_isn ?_ | with_reducible refine s_notn ?_ | with_reducible refine s_ite ?_ | with_reducible refine s_tup ?_ | with_reducible refine s_lstF ?_ | with_reducible refine s_lstT ?_ | with_reducible refine s_ix ?_ | with_reducible refine s_sl ?_ | with_reducible refine s_bi ?_ | with_reducible refine s_bm ?_ | with_reducible refine s_fc ?_ | with_reducible refine s_lc ?_ | with_reducible refine s_newF ?_ | with_reducible refine s_newT ?_ | with_reducible refine s_fld ?_ | with_reducible refine s_ew ?_ | with_reducible refine s_ep ?_ | with_reducible refine s_ei ?_ | with_reducible refine s_ev ?_ | with_reducible refine i_zp ?_ | with_reducible refine i_rng1 ?_ | with_reducible refine i_rng2 ?_ | with_reducible refine i_enm ?_ | with_reducible refine i_itr ?_ | with_reducible refine s_calm ?_ | with_reducible refine s_need ?_ | ((with_reducible apply s_var); rfl) | ((with_reducible apply s_gl); assumption) | ((with_reducible apply x_rs1); assumption) | ((with_reducible apply s_mx0); assumption) | ((with_reducible apply s_mx1); assumption) | ((with_reducible apply s_my1); assumption) | ((with_reducible apply s_my2); assumption) | ((with_reducible apply s_ok); rfl) | ((with_reducible apply e_some); rfl) | ((with_reducible apply e_rcv); rfl) | ((with_reducible apply e_neg); rfl) | ((with_reducible apply and_t); rfl) | ((with_reducible apply and_f); rfl)))
def readDirB : MS := (.seq (.ite (.cmp .notin (.var 0) (.gl 5))
 (.seq .nev
 .skip)
 .skip)
 (.seq (.ret (.tup (.cons (.bm .sindex false (.gl 6) (.cons (.ix (.var 0) (.k (.int 1))) .no)) (.cons (.ite (.cmp .eq (.ix (.var 0) (.k (.int 0))) (.k (.str [45]))) (.neg (.k (.int 1))) (.k (.int 1))) .no))))
 .skip))
def dirsL : List (List Nat) := [[45, 120], [45, 121], [45, 122], [43, 120], [43, 121], [43, 122]]
theorem in_con {st : Store} {w : List Nat} {g : List (List Nat)} : isIn st (.str w) (.con (g.map D.str)) = some (decide (w ∈ g)) := by
  show (match mapO (deref st DEEP) (g.map D.str) with
        | some ds => some (ds.any fun z => eqd DEEP z (.str w))
        | none => none) = _
  rw [deref_strs]
  simp only [any_str]
theorem in_lst {st : Store} {w : List Nat} {g : List (List Nat)} : isIn st (.str w) (.lst (g.map D.str)) = some (decide (w ∈ g)) := by
  show (match mapO (deref st DEEP) (g.map D.str) with
        | some ds => some (ds.any fun z => eqd DEEP z (.str w))
        | none => none) = _
  rw [deref_strs]
  simp only [any_str]
theorem dir_in {a : Nat} {s : Int} (ha : a < 3) : dirW a s ∈ dirsL := by
  unfold dirW
  match a, ha with
  | 0, _ => split <;> decide
  | 1, _ => split <;> decide
  | 2, _ => split <;> decide
def ReadDirRun (C : Cal) (f : Nat) : Prop := ∀ (st : Store) (a : Nat) (s i : Int) (P : D → Store → Prop), a < 3 → P (.tup [.int a, .int (if s < 0 then -1 else 1)]) st → (C.fn f false [.str (dirW a s), .int i] st).sat P
theorem readDir_run {T : Tb} {n f : Nat} (hf : T.fns[f]? = some ⟨2, 2, [], readDirB⟩) (hg5 : T.globs[5]? = some (.con (dirsL.map D.str))) (hg6 : T.globs[6]? = some (.str [120, 121, 122])) : ReadDirRun (calN T (n + 1)) f := by
  intro st a s i P ha h
  rw [calN_fn]
  refine run_sat hf rfl ?_
  have hg5' : (calN T n).glob 5 = some (.con (dirsL.map D.str)) := by rw [calN_glob]; exact hg5
  have hg6' : (calN T n).glob 6 = some (.str [120, 121, 122]) := by rw [calN_glob]; exact hg6
  generalize calN T n = C at hg5' hg6'
  unfold readDirB
  refine x_seq (x_ite (s_cmp (s_var rfl (s_gl hg5' ?_))))
  refine ⟨false, ?_, ?_⟩
  · show (isIn st (.str (dirW a s)) (.con (dirsL.map D.str))).map _ = _
    rw [in_con, decide_eq_true (dir_in ha)]
    rfl
  walk_at "mp"
  unfold dirW
  by_cases hs : s < 0
  · rw [if_pos hs] at h ⊢
    match a, ha with
    | 0, _ =>
      walk_at "mp"
      rw [strunc_self]
      exact h
    | 1, _ =>
      walk_at "mp"
      rw [strunc_self]
      exact h
    | 2, _ =>
      walk_at "mp"
      rw [strunc_self]
      exact h
  · rw [if_neg hs] at h ⊢
    match a, ha with
    | 0, _ =>
      walk_at "mp"
      rw [strunc_self]
      exact h
    | 1, _ =>
      walk_at "mp"
      rw [strunc_self]
      exact h
    | 2, _ =>
      walk_at "mp"
      rw [strunc_self]
      exact h
end MP

set_option autoImplicit false
set_option linter.all false
set_option maxRecDepth 100000
namespace MP
open ME MS
local macro_rules | `(tactic| walk_at "mp") => `(tactic| repeat (first | with_reducible refine x_seq ?_ | with_reducible refine x_asgv ?_ | with_reducible refine x_asg ?_ | with_reducible refine x_ex ?_ | with_reducible refine x_ret ?_ | with_reducible refine x_ite ?_ | with_reducible refine x_fr ?_ | with_reducible refine x_sasg ?_ | with_reducible refine x_skip ?_ | with_reducible refine t_no ?_ | with_reducible refine t_cons ?_ | with_reducible refine t_star ?_ | with_reducible refine s_k ?_ | with_reducible refine s_bin ?_ | with_reducible refine s_neg ?_ | with_reducible refine s_nt ?_ | with_reducible refine s_an ?_ | with_reducible refine s_or ?_ | with_reducible refine s_cmp ?_ | with_reducible refine s_cmp2 ?_ | with_reducible refine s_isn ?_ | with_reducible refine s_notn ?_ | with_reducible refine s_ite ?_ | with_reducible refine s_tup ?_ | with_reducible refine s_lstF ?_ | with_reducible refine s_lstT ?_ | with_reducible refine s_ix ?_ | with_reducible refine s_sl ?_ | with_reducible refine s_bi ?_ | with_reducible refine s_bm ?_ | with_reducible refine s_fc ?_ | with_reducible refine s_lc ?_ | with_reducible refine s_newF ?_ | with_reducible refine s_newT ?_ | with_reducible refine s_fld ?_ | with_reducible refine s_ew ?_ | with_reducible refine s_ep ?_ | with_reducible refine s_ei ?_ | with_reducible refine s_ev ?_ | with_reducible refine i_zp ?_ | with_reducible refine i_rng1 ?_ | with_reducible refine i_rng2 ?_ | with_reducible refine i_enm ?_ | with_reducible refine i_itr ?_ | with_reducible refine s_calm ?_ | with_reducible refine s_need ?_ | ((with_reducible apply s_var); rfl) | ((with_reducible apply s_gl); assumption) | ((with_reducible apply x_rs1); assumption) | ((with_reducible apply s_mx0); assumption) | ((with_reducible apply s_mx1); assumption) | ((with_reducible apply s_my1); assumption) | ((with_reducible apply s_my2); assumption) | ((with_reducible apply s_ok); rfl) | ((with_reducible apply e_some); rfl) | ((with_reducible apply e_rcv); rfl) | ((with_reducible apply e_neg); rfl) | ((with_reducible apply and_t); rfl) | ((with_reducible apply and_f); rfl)))
theorem mem_enumL {p : D} : ∀ {xs : List D} {i : Nat}, p ∈ enumL (i : Int) xs → ∃ (j : Nat) (h : j < xs.length), p = .tup [.int ((i + j : Nat) : Int), xs[j]]
  | [], _, h => (nomatch h)
  | x :: r, i, h => by
    simp only [enumL, List.mem_cons] at h
    rcases h with rfl | h
    · exact ⟨0, by simp, by simp⟩
    · have h' : p ∈ enumL ((i + 1 : Nat) : Int) r := by simpa using h
      obtain ⟨j, hj, rfl⟩ := mem_enumL h'
      exact ⟨j + 1, by simp; omega, by simp; omega⟩
theorem nodup_take {α : Type} : ∀ {g : List α} {j : Nat} (h : j < g.length), g.Nodup → g[j] ∉ g.take j
  | x :: g, 0, _, _ => by simp
  | x :: g, j + 1, h, hn => by
    rw [List.nodup_cons] at hn
    have hj : j < g.length := by simpa using h
    simp only [List.getElem_cons_succ, List.take_succ_cons, List.mem_cons, not_or]
    exact ⟨fun e => hn.1 (e ▸ List.getElem_mem hj), nodup_take hj hn.2⟩
theorem cmp_isin {x y : D} {st : Store} : cmpop .isin x y st = isIn st x y := rfl
def readGroupB : MS := (.seq (.ite (.or (.nt (.cmp2 .le .lt (.k (.int 1)) (.bi .len false (.cons (.var 0) .no)) (.gl 0))) (.nt (.bi .all false (.cons (.lc false [3] (.var 3) (.itr (.var 0)) .no (.fc 16 false (.cons (.var 3) .no))) .no))))
 (.seq .nev
 .skip)
 .skip)
 (.seq (.ite (.bi .any false (.cons (.lc false [2, 3] (.tup (.cons (.var 2) (.cons (.var 3) .no))) (.enm (.var 0)) .no (.cmp .isin (.var 3) (.sl false (.var 0) (.k .non) (.var 2)))) .no))
 (.seq .nev
 .skip)
 .skip)
 (.seq (.ret (.bi .tuple false (.cons (.var 0) .no)))
 .skip)))
def ReadGroupRun (C : Cal) (f : Nat) : Prop := ∀ (st : Store) (g : List (List Nat)) (i : Int) (P : D → Store → Prop), GroupOk g → P (.tup (g.map D.str)) st → (C.fn f false [.lst (g.map D.str), .int i] st).sat P
theorem readGroup_run {T : Tb} {n f : Nat} (hf : T.fns[f]? = some ⟨4, 2, [], readGroupB⟩) (hg0 : T.globs[0]? = some (.int 6)) (hi : IsNameRun (calN T n) 16) : ReadGroupRun (calN T (n + 1)) f := by
  intro st g i P hg h
  rw [calN_fn]
  refine run_sat hf rfl ?_
  have hg0' : (calN T n).glob 0 = some (.int 6) := by rw [calN_glob]; exact hg0
  generalize calN T n = C at hg0' hi
  unfold readGroupB
  have h1 := hg.lo
  have h2 := hg.hi
  walk_at "mp"
  refine ⟨fun _ => ?_, fun hn => by simp at hn; omega⟩
  refine s_gl hg0' ?_
  walk_at "mp"
  rw [show decide (((g.map D.str).length : Int) < 6) = true from decide_eq_true (by simp; omega)]
  walk_at "mp"
  refine c_const (v := .bl true) (g.map D.str) rfl ?_ ?_
  · intro d hd
    simp only [List.mem_map] at hd
    obtain ⟨x, hx, rfl⟩ := hd
    refine ⟨_, rfl, ?_⟩
    walk_at "mp"
    exact hi _ _ _ (hg.names x hx) ⟨rfl, rfl⟩
  walk_at "mp"
  refine all_rep ?_
  walk_at "mp"
  refine c_const (v := .bl false) (enumL 0 (g.map D.str)) rfl ?_ ?_
  · intro d hd
    obtain ⟨j, hj, rfl⟩ := mem_enumL (i := 0) hd
    have hj' : j < g.length := by simpa using hj
    refine ⟨_, rfl, ?_⟩
    walk_at "mp"
    refine ⟨false, ?_, rfl, rfl⟩
    rw [cut_to _ _ (by omega)]
    rw [cmp_isin, List.getElem_map, ← List.map_take, in_lst]
    have := nodup_take hj' hg.apart
    simpa using this
  walk_at "mp"
  refine any_rep ?_
  walk_at "mp"
  refine leave_f (d' := .tup (g.map D.str)) ?_ ?_
  · show (mapO (frz _ _ 7) (g.map D.str)).map D.tup = _
    rw [frz_strs]
    rfl
  · rw [strunc_self]
    exact h
end MP

set_option autoImplicit false
set_option linter.all false
set_option maxRecDepth 100000
namespace MP
open ME MS
local macro_rules | `(tactic| walk_at "mp") => `(tactic| repeat (first | with_reducible refine x_seq ?_ | with_reducible refine x_asgv ?_ | with_reducible refine x_asg ?_ | with_reducible refine x_ex ?_ | with_reducible refine x_ret ?_ | with_reducible refine x_ite ?_ | with_reducible refine x_fr ?_ | with_reducible refine x_sasg ?_ | with_reducible refine x_skip ?_ | with_reducible refine t_no ?_ | with_reducible refine t_cons ?_ | with_reducible refine t_star ?_ | with_reducible refine s_k ?_ | with_reducible refine s_bin ?_ | with_reducible refine s_neg ?_ | with_reducible refine s_nt ?_ | with_reducible refine s_an ?_ | with_reducible refine s_or ?_ | with_reducible refine s_cmp ?_ | with_reducible refine s_cmp2 ?_ | with_reducible refine s_isn ?_ | with_reducible refine s_notn ?_ | with_reducible refine s_ite ?_ | with_reducible refine s_tup ?_ | with_reducible refine s_lstF ?_ | with_reducible refine s_lstT ?_ | with_reducible refine s_ix ?_ | with_reducible refine s_sl ?_ | with_reducible refine s_bi ?_ | with_reducible refine s_bm ?_ | with_reducible refine s_fc ?_ | with_reducible refine s_lc ?_ | with_reducible refine s_newF ?_ | with_reducible refine s_newT ?_ | with_reducible refine s_fld ?_ | with_reducible refine s_ew ?_ | with_reducible refine s_ep ?_ | with_reducible refine s_ei ?_ | with_reducible refine s_ev ?_ | with_reducible refine i_zp ?_ | with_reducible refine i_rng1 ?_ | with_reducible refine i_rng2 ?_ | with_reducible refine i_enm ?_ | with_reducible refine i_itr ?_ | with_reducible refine s_calm ?_ | with_reducible refine s_need ?_ | ((with_reducible apply s_var); rfl) | ((with_reducible apply s_gl); assumption) | ((with_reducible apply x_rs1); assumption) | ((with_reducible apply s_mx0); assumption) | ((with_reducible apply s_mx1); assumption) | ((with_reducible apply s_my1); assumption) | ((with_reducible apply s_my2); assumption) | ((with_reducible apply s_ok); rfl) | ((with_reducible apply e_some); rfl) | ((with_reducible apply e_rcv); rfl) | ((with_reducible apply e_neg); rfl) | ((with_reducible apply and_t); rfl) | ((with_reducible apply and_f); rfl)))
def readMoveB : MS := (.seq (.ite (.cmp .lt (.bi .len false (.cons (.var 0) .no)) (.k (.int 3)))
 (.seq .nev
 .skip)
 .skip)
 (.seq (.asg (.var 2) (.fc 15 false (.cons (.ix (.var 0) (.neg (.k (.int 1)))) (.cons (.var 1) .no))))
 (.seq (.asg (.tup (.cons (.var 3) (.cons (.var 4) .no))) (.fc 13 false (.cons (.ix (.var 0) (.neg (.k (.int 2)))) (.cons (.var 1) .no))))
 (.seq (.ret (.tup (.cons (.fc 14 false (.cons (.sl false (.var 0) (.k .non) (.neg (.k (.int 2)))) (.cons (.var 1) .no))) (.cons (.var 3) (.cons (.bin .mul false (.var 4) (.var 2)) .no)))))
 .skip))))
def ReadMoveRun (C : Cal) (f : Nat) : Prop := ∀ (st : Store) (m : Mv) (i : Int) (P : D → Store → Prop), MvOk m → P (mvD m) st → (C.fn f false [lineD (mvW m), .int i] st).sat P
theorem readMove_run {T : Tb} {n f : Nat} (hf : T.fns[f]? = some ⟨5, 2, [], readMoveB⟩) (hs : StepsRun (calN T n) 15) (hd : ReadDirRun (calN T n) 13) (hg : ReadGroupRun (calN T n) 14) : ReadMoveRun (calN T (n + 1)) f := by
  intro st m i P hm h
  rw [calN_fn]
  refine run_sat hf rfl ?_
  generalize calN T n = C at hs hd hg
  have e : (mvW m).map D.str = m.g.map D.str ++ [.str (dirW m.a m.s), .str (digitsL m.s.natAbs)] := by simp [mvW]
  unfold lineD
  rw [e]
  have h1 := hm.g.lo
  have h2 := hm.z
  have h3 := hm.lo
  have h4 := hm.hi
  unfold readMoveB
  walk_at "mp"
  refine ⟨fun hn => by simp at hn; omega, fun _ => ?_⟩
  walk_at "mp"
  refine ix_lstAt (d := .str (digitsL m.s.natAbs)) (by
    have := at_last (m.g.map D.str ++ [.str (dirW m.a m.s)]) (D.str (digitsL m.s.natAbs))
    simpa using this) ?_
  walk_at "mp"
  refine hs _ _ _ _ (by omega) (by omega) ?_
  walk_at "mp"
  refine ix_lstAt (at_last2 _ _ _) ?_
  walk_at "mp"
  refine hd _ _ _ _ _ hm.a ?_
  walk_at "mp"
  rw [cut_last2]
  refine hg _ _ _ _ hm.g ?_
  walk_at "mp"
  refine s_mul (by split <;> omega) ?_
  walk_at "mp"
  refine leave_f (d' := mvD m) ?_ ?_
  · have e2 : (if m.s < 0 then (-1 : Int) else 1) * (m.s.natAbs : Int) = m.s := by split <;> omega
    rw [e2]
    exact frz_mv m
  · rw [strunc_self]
    exact h
def readOffB : MS := (.seq (.ite (.cmp .ne (.ix (.var 0) (.k (.int 0))) (.gl 7))
 (.seq .nev
 .skip)
 .skip)
 (.seq (.asg (.tup (.cons (.var 2) (.cons (.var 3) .no))) (.fc 13 false (.cons (.ix (.var 0) (.neg (.k (.int 1)))) (.cons (.var 1) .no))))
 (.seq (.ret (.tup (.cons (.fc 14 false (.cons (.sl false (.var 0) (.k (.int 1)) (.neg (.k (.int 1)))) (.cons (.var 1) .no))) (.cons (.var 2) (.cons (.var 3) .no)))))
 .skip)))
def ReadOffRun (C : Cal) (f : Nat) : Prop := ∀ (st : Store) (m : Mv) (i : Int) (P : D → Store → Prop), OffOk m → P (mvD m) st → (C.fn f false [lineD (offW m), .int i] st).sat P
theorem readOff_run {T : Tb} {n f : Nat} (hf : T.fns[f]? = some ⟨4, 2, [], readOffB⟩) (h7 : T.globs[7]? = some (.str [111, 102, 102])) (hd : ReadDirRun (calN T n) 13) (hg : ReadGroupRun (calN T n) 14) : ReadOffRun (calN T (n + 1)) f := by
  intro st m i P hm h
  rw [calN_fn]
  refine run_sat hf rfl ?_
  have h7' : (calN T n).glob 7 = some (.str [111, 102, 102]) := by rw [calN_glob]; exact h7
  generalize calN T n = C at hd hg h7'
  have e : (offW m).map D.str = .str [111, 102, 102] :: (m.g.map D.str ++ [.str (dirW m.a m.s)]) := by simp [offW]
  unfold lineD
  rw [e]
  unfold readOffB
  walk_at "mp"
  refine ix_lstAt (d := .str [111, 102, 102]) (by
    unfold at? ixn
    rw [if_pos (by decide), if_pos (by simp; omega)]
    rfl) ?_
  refine s_gl h7' ?_
  walk_at "mp"
  refine ix_lstAt (d := .str (dirW m.a m.s)) (by
    have := at_last (.str [111, 102, 102] :: m.g.map D.str) (D.str (dirW m.a m.s))
    simpa using this) ?_
  walk_at "mp"
  refine hd _ _ _ _ _ hm.a ?_
  walk_at "mp"
  rw [cut_mid]
  refine hg _ _ _ _ hm.g ?_
  walk_at "mp"
  refine leave_f (d' := mvD m) ?_ ?_
  · have e2 : (if m.s < 0 then (-1 : Int) else 1) = m.s := by rcases hm.s with e | e <;> rw [e] <;> decide
    rw [e2]
    exact frz_mv m
  · rw [strunc_self]
    exact h
end MP

set_option autoImplicit false
set_option linter.all false
set_option maxRecDepth 100000
namespace MP
open ME MS
theorem splitC_acc {c : Nat} : ∀ (x acc r : List Nat), c ∉ x → splitC c acc (x ++ r) = splitC c (acc ++ x) r
  | [], acc, r, _ => by simp
  | y :: x, acc, r, h => by
    simp only [List.mem_cons, not_or] at h
    simp only [List.cons_append, splitC]
    rw [if_neg (fun e => h.1 e.symm), splitC_acc x (acc ++ [y]) r h.2]
    simp
theorem splitC_join {c : Nat} : ∀ (xs : List (List Nat)), xs ≠ [] → (∀ x ∈ xs, c ∉ x) → splitC c [] (joinC [c] xs) = xs
  | [], h, _ => (h rfl).elim
  | [x], _, h => by
    have := splitC_acc x [] [] (h x (by simp))
    simpa [joinC, splitC] using this
  | x :: y :: xs, _, h => by
    show splitC c [] (x ++ ([c] ++ joinC [c] (y :: xs))) = _
    rw [splitC_acc x [] _ (h x (by simp))]
    simp only [List.nil_append, List.singleton_append, splitC, if_pos]
    rw [splitC_join (y :: xs) (by simp) fun z hz => h z (by simp [hz])]
theorem s_split {E : D → Store → Prop} {b : Nat} {x : List Nat} {c : Nat} {xs : List (List Nat)} {st : Store} {P : D → Store → Prop} (h : x.length ≤ 900000) (hc : c < 256) (e : splitC c [] x = xs) (h2 : P (.lst (xs.map D.str)) st) : (bmeth b .split false (.str x) [.str [c]] st).satX P E := by
  subst e
  exact s_ok (if_pos ⟨by show x.length + 2 ≤ 1000000; omega, hc⟩) h2
/-- the signs that a line's words are made of -/
theorem word_signs {ws : List (List Nat)} (h : ∃ ms off, WayOk ms off ∧ ws ∈ linesW ms off) : ∀ x ∈ ws, ∀ c ∈ x, 33 ≤ c := by
  obtain ⟨ms, off, hw, hm⟩ := h
  have hg : ∀ g, GroupOk g → ∀ x ∈ g, ∀ c ∈ x, 33 ≤ c := by
    intro g hg x hx c hc
    have := (hg.names x hx).2.2 c hc
    omega
  have hd : ∀ a s, ∀ c ∈ dirW a s, 33 ≤ c := by
    intro a s c hc
    simp only [dirW, List.mem_cons, List.not_mem_nil, or_false] at hc
    rcases hc with rfl | rfl
    · split <;> omega
    · omega
  simp only [linesW, List.mem_append, List.mem_map, Option.mem_toList] at hm
  intro x hx c hc
  rcases hm with ⟨m, hm, rfl⟩ | ⟨m, hm, rfl⟩
  · have hk := hw.ms m hm
    simp only [mvW, List.mem_append, List.mem_cons, List.not_mem_nil, or_false] at hx
    rcases hx with hx | rfl | rfl
    · exact hg _ hk.g x hx c hc
    · exact hd _ _ c hc
    · have h1 := hk.lo
      have h2 := hk.hi
      have h3 := hk.z
      have := (dig_ok ⟨m.s.natAbs, by omega⟩ (by simp only; omega)).2.2.1
      have := List.all_eq_true.1 this c hc
      simp only [Bool.and_eq_true, decide_eq_true_eq] at this
      omega
  · have hk := hw.off m hm
    simp only [offW, List.mem_append, List.mem_cons, List.not_mem_nil, or_false] at hx
    rcases hx with rfl | hx | rfl
    · revert c; decide
    · exact hg _ hk.g x hx c hc
    · exact hd _ _ c hc
end MP

set_option autoImplicit false
set_option linter.all false
set_option maxRecDepth 100000
namespace MP
open ME MS
theorem mem_joinC {s : List Nat} {c : Nat} : ∀ {g : List (List Nat)}, c ∈ joinC s g → c ∈ s ∨ ∃ x ∈ g, c ∈ x
  | [], h => (nomatch h)
  | [x], h => Or.inr ⟨x, by simp, h⟩
  | x :: y :: g, h => by
    simp only [joinC, List.mem_append] at h
    rcases h with h | h | h
    · exact Or.inr ⟨x, by simp, h⟩
    · exact Or.inl h
    · rcases mem_joinC (g := y :: g) h with h2 | ⟨z, hz, h2⟩
      · exact Or.inl h2
      · exact Or.inr ⟨z, by simp only [List.mem_cons] at hz ⊢; exact Or.inr hz, h2⟩
theorem line_split {ms : List Mv} {off : Option Mv} {ws : List (List Nat)} (h : WayOk ms off) (hm : ws ∈ linesW ms off) : splitC 32 [] (joinC [32] ws) = ws ∧ 10 ∉ joinC [32] ws ∧ joinC [32] ws ≠ [] := by
  have hs := word_signs ⟨ms, off, h, hm⟩
  have hne : ws ≠ [] := by
    simp only [linesW, List.mem_append, List.mem_map, Option.mem_toList] at hm
    rcases hm with ⟨m, _, rfl⟩ | ⟨m, _, rfl⟩ <;> simp [mvW, offW]
  have h0 : splitC 32 [] (joinC [32] ws) = ws := splitC_join ws hne (by
    intro x hx hc
    have := hs x hx 32 hc
    omega)
  refine ⟨h0, ?_, ?_⟩
  · intro hc
    rcases mem_joinC hc with h2 | ⟨x, hx, h2⟩
    · simp at h2
    · have := hs x hx 10 h2
      omega
  · intro e
    rw [e] at h0
    have h1 : ws = [[]] := h0.symm
    simp only [linesW, List.mem_append, List.mem_map, Option.mem_toList] at hm
    rcases hm with ⟨m, _, rfl⟩ | ⟨m, _, rfl⟩
    · have := congrArg List.length h1
      simp [mvW] at this
    · have := congrArg List.length h1
      simp [offW] at this
theorem text_split {ms : List Mv} {off : Option Mv} (h : WayOk ms off) (hn : linesW ms off ≠ []) : splitC 10 [] (textOf ms off) = (linesW ms off).map (joinC [32]) := by
  refine splitC_join _ (by simpa using hn) ?_
  intro x hx
  simp only [List.mem_map] at hx
  obtain ⟨ws, hw, rfl⟩ := hx
  exact (line_split h hw).2.1
theorem text_some {ms : List Mv} {off : Option Mv} (h : WayOk ms off) (hn : linesW ms off ≠ []) : textOf ms off ≠ [] := by
  intro e
  have h1 := text_split h hn
  rw [e] at h1
  have h2 : [] ∈ (linesW ms off).map (joinC [32]) := by
    rw [← h1]
    exact List.mem_singleton.2 rfl
  simp only [List.mem_map] at h2
  obtain ⟨ws, hw, h3⟩ := h2
  exact (line_split h hw).2.2 h3
end MP

set_option autoImplicit false
set_option linter.all false
set_option maxRecDepth 100000
namespace MP
open ME MS
local macro_rules | `(tactic| walk_at "mp") => `(tactic| repeat (first | with_reducible refine x_seq ?_ | with_reducible refine x_asgv ?_ | with_reducible refine x_asg ?_ | with_reducible refine x_ex ?_ | with_reducible refine x_ret ?_ | with_reducible refine x_ite ?_ | with_reducible refine x_fr ?_ | with_reducible refine x_sasg ?_ | with_reducible refine x_skip ?_ | with_reducible refine t_no ?_ | with_reducible refine t_cons ?_ | with_reducible refine t_star ?_ | with_reducible refine s_k ?_ | with_reducible refine s_bin ?_ | with_reducible refine s_neg ?_ | with_reducible refine s_nt ?_ | with_reducible refine s_an ?_ | with_reducible refine s_or ?_ | with_reducible refine s_cmp ?_ | with_reducible refine s_cmp2 ?_ | with_reducible refine s_isn ?_ | with_reducible refine s_notn ?_ | with_reducible refine s_ite ?_ | with_reducible refine s_tup ?_ | with_reducible refine s_lstF ?_ | with_reducible refine s_lstT ?_ | with_reducible refine s_ix ?_ | with_reducible refine s_sl ?_ | with_reducible refine s_bi ?_ | with_reducible refine s_bm ?_ | with_reducible refine s_fc ?_ | with_reducible refine s_lc ?_ | with_reducible refine s_newF ?_ | with_reducible refine s_newT ?_ | with_reducible refine s_fld ?_ | with_reducible refine s_ew ?_ | with_reducible refine s_ep ?_ | with_reducible refine s_ei ?_ | with_reducible refine s_ev ?_ | with_reducible refine i_zp ?_ | with_reducible refine i_rng1 ?_ | with_reducible refine i_rng2 ?_ | with_reducible refine i_enm ?_ | with_reducible refine i_itr ?_ | with_reducible refine s_calm ?_ | with_reducible refine s_need ?_ | ((with_reducible apply s_var); rfl) | ((with_reducible apply s_gl); assumption) | ((with_reducible apply x_rs1); assumption) | ((with_reducible apply s_mx0); assumption) | ((with_reducible apply s_mx1); assumption) | ((with_reducible apply s_my1); assumption) | ((with_reducible apply s_my2); assumption) | ((with_reducible apply s_ok); rfl) | ((with_reducible apply e_some); rfl) | ((with_reducible apply e_rcv); rfl) | ((with_reducible apply e_neg); rfl) | ((with_reducible apply and_t); rfl) | ((with_reducible apply and_f); rfl)))
def parseB : MS := (.seq (.asg (.var 1) (.lst true .no))
 (.seq (.asg (.var 2) (.k .non))
 (.seq (.ite (.cmp .eq (.var 0) (.k (.str [])))
 (.seq (.ret (.tup (.cons (.var 1) (.cons (.var 2) .no))))
 .skip)
 .skip)
 (.seq (.fr (.tup (.cons (.var 3) (.cons (.var 4) .no))) (.enm (.bm .split false (.var 0) (.cons (.k (.str [10])) .no)))
 (.seq (.asg (.var 5) (.bm .split false (.var 4) (.cons (.k (.str [32])) .no)))
 (.seq (.ite (.notn (.var 2))
 (.seq .nev
 .skip)
 .skip)
 (.seq (.ite (.cmp .isin (.ix (.var 5) (.neg (.k (.int 1)))) (.gl 5))
 (.seq (.asg (.var 2) (.fc 9 false (.cons (.var 5) (.cons (.var 3) .no))))
 .skip)
 (.seq (.ex (.bm .append false (.var 1) (.cons (.fc 10 false (.cons (.var 5) (.cons (.var 3) .no))) .no)))
 .skip))
 .skip))))
 (.seq (.ret (.tup (.cons (.var 1) (.cons (.var 2) .no))))
 .skip)))))
theorem dig_notdir {t : List Nat} (h : t.all (fun c => decide (48 ≤ c) && decide (c ≤ 57)) = true) : t ∉ dirsL := by
  have : ∀ x ∈ dirsL, x.all (fun c => decide (48 ≤ c) && decide (c ≤ 57)) = false := by decide
  intro hm
  rw [this t hm] at h
  exact nomatch h
theorem mv_last (m : Mv) : at? ((mvW m).map D.str) (-1) = some (.str (digitsL m.s.natAbs)) := by
  have := at_last ((m.g ++ [dirW m.a m.s]).map D.str) (D.str (digitsL m.s.natAbs))
  simpa [mvW] using this
theorem off_last (m : Mv) : at? ((offW m).map D.str) (-1) = some (.str (dirW m.a m.s)) := by
  have := at_last (([111, 102, 102] :: m.g).map D.str) (D.str (dirW m.a m.s))
  simpa [offW] using this
theorem text_len {ms : List Mv} {off : Option Mv} (h : WayOk ms off) : (textOf ms off).length ≤ 900 := by
  have h1 := joinC_len (s := [10]) (g := (linesW ms off).map (joinC [32]))
  have h2 := texts_sum h
  have h3 := lines_few h
  simp only [List.length_map, List.length_singleton] at h1
  unfold textOf
  omega
theorem parse_exec {C : Cal} {st : Store} {ms : List Mv} {off : Option Mv} {N : Env → Store → Prop} {P : D → Store → Prop} (hw : WayOk ms off) (hg : C.glob 5 = some (.con (dirsL.map D.str))) (hm : ReadMoveRun C 10) (ho : ReadOffRun C 9)
    (h : P (.tup [.loc st.length, offD off]) (.lst (ms.map mvD) :: st)) : (exec C st.length parseB [some (.str (textOf ms off)), none, none, none, none, none] st).sat N P := by
  unfold parseB
  walk_at "mp"
  have hlen := text_len hw
  refine ⟨fun he => ?_, fun he => ?_⟩
  · have h0 : textOf ms off = [] := by
      have : decide (textOf ms off = []) = true := he
      simpa using this
    have h1 : linesW ms off = [] := Classical.byContradiction fun hn => text_some hw hn h0
    have h2 : ms = [] ∧ off = none := by
      cases off <;> simp [linesW] at h1 <;> simp [h1]
    obtain ⟨rfl, rfl⟩ := h2
    walk_at "mp"
    exact h
  have h1 : linesW ms off ≠ [] := by
    intro hn
    have : decide (textOf ms off = []) = false := he
    simp [textOf, hn, joinC] at this
  walk_at "mp"
  refine s_split (by omega) (by decide) (text_split hw h1) ?_
  walk_at "mp"
  refine f_inv (I := fun dn rest env st1 => ∃ (m1 m2 : List Mv) (k : Nat) (x y z : Option D), ms = m1 ++ m2 ∧ st1 = .lst (m1.map mvD) :: st ∧ ((rest = enumL (k : Int) (((linesW m2 off).map (joinC [32])).map D.str) ∧ env = [some (.str (textOf ms off)), some (.loc st.length), some .non, x, y, z] ∧ (m2 = [] → off = none ∨ rest ≠ [])) ∨ (m2 = [] ∧ rest = [] ∧ env = [some (.str (textOf ms off)), some (.loc st.length), some (offD off), x, y, z]))) ?_ ?_ ?_ (enumL 0 (((linesW ms off).map (joinC [32])).map D.str)) [] _ _ ⟨[], ms, 0, none, none, none, rfl, rfl, Or.inl ⟨rfl, rfl, ?_⟩⟩
  · rintro _ _ _ _ ⟨m1, m2, _, _, _, _, _, rfl, _⟩; rfl
  · rintro dn d rest env st1 ⟨m1, m2, k, x, y, z, e, rfl, (⟨hr, rfl, _⟩ | ⟨_, hr, _⟩)⟩
    · cases m2 with
      | nil =>
        cases off with
        | none => exact (nomatch hr)
        | some o =>
          have hk := hw.off o rfl
          have hmem : offW o ∈ linesW ms (some o) := by simp [linesW]
          simp only [linesW, List.map_nil, Option.toList_some, List.map_cons, List.nil_append, enumL, List.cons.injEq] at hr
          obtain ⟨rfl, rfl⟩ := hr
          refine ⟨_, rfl, ?_⟩
          walk_at "mp"
          refine s_split (by have := (lines_ok hw _ hmem).len; omega) (by decide) (line_split hw hmem).1 ?_
          walk_at "mp"
          refine ix_lstAt (off_last o) ?_
          refine s_gl hg ?_
          refine ⟨true, by rw [cmp_isin, in_con, decide_eq_true (dir_in hk.a)], ?_⟩
          walk_at "mp"
          refine ho _ _ _ _ hk ?_
          walk_at "mp"
          exact ⟨m1, [], k, _, _, _, e, rfl, Or.inr ⟨rfl, rfl, rfl⟩⟩
      | cons m m2 =>
        have hk := hw.ms m (by rw [e]; simp)
        have hmem : mvW m ∈ linesW ms off := by rw [e]; simp [linesW]
        have hl : linesW (m :: m2) off = mvW m :: linesW m2 off := rfl
        rw [hl] at hr
        simp only [List.map_cons, enumL, List.cons.injEq] at hr
        obtain ⟨rfl, rfl⟩ := hr
        refine ⟨_, rfl, ?_⟩
        walk_at "mp"
        refine s_split (by have := (lines_ok hw _ hmem).len; omega) (by decide) (line_split hw hmem).1 ?_
        walk_at "mp"
        refine ix_lstAt (mv_last m) ?_
        refine s_gl hg ?_
        have hdig := (dig_ok ⟨m.s.natAbs, by have := hk.lo; have := hk.hi; omega⟩ (by have := hk.z; simp only; omega)).2.2.1
        refine ⟨false, by rw [cmp_isin, in_con, decide_eq_false (dig_notdir hdig)], ?_⟩
        walk_at "mp"
        refine ⟨rcv_app (sg_top _ _), ?_⟩
        walk_at "mp"
        refine hm _ _ _ _ hk ?_
        walk_at "mp"
        refine app_loc (sg_top _ _) (by have := hw.n; rw [e] at this; simp at this ⊢; omega) (Nat.le_refl _) ?_
        rw [sp_top]
        walk_at "mp"
        refine ⟨m1 ++ [m], m2, k + 1, _, _, _, by rw [e]; simp, by simp, Or.inl ⟨rfl, rfl, ?_⟩⟩
        rintro rfl
        cases off with
        | none => exact Or.inl rfl
        | some o => exact Or.inr (by simp [linesW, enumL])
    · exact (nomatch hr)
  · rintro dn env st1 ⟨m1, m2, k, x, y, z, e, rfl, (⟨hr, rfl, hq⟩ | ⟨hq, hr, rfl⟩)⟩
    · have : m2 = [] := by cases m2 with
        | nil => rfl
        | cons => exact (nomatch hr)
      subst this
      have hoff : off = none := by
        rcases hq rfl with h2 | h2
        · exact h2
        · exact (h2 rfl).elim
      subst hoff
      rw [List.append_nil] at e
      subst e
      walk_at "mp"
      exact h
    · subst hq
      rw [List.append_nil] at e
      subst e
      walk_at "mp"
      exact h
  · rintro rfl
    cases off with
    | none => exact Or.inl rfl
    | some o => exact Or.inr (by simp [linesW, enumL])
end MP

set_option autoImplicit false
set_option linter.all false
set_option maxRecDepth 100000
namespace MP
open ME MS
local macro_rules | `(tactic| walk_at "mp") => `(tactic| repeat (first | with_reducible refine x_seq ?_ | with_reducible refine x_asgv ?_ | with_reducible refine x_asg ?_ | with_reducible refine x_ex ?_ | with_reducible refine x_ret ?_ | with_reducible refine x_ite ?_ | with_reducible refine x_fr ?_ | with_reducible refine x_sasg ?_ | with_reducible refine x_skip ?_ | with_reducible refine t_no ?_ | with_reducible refine t_cons ?_ | with_reducible refine t_star ?_ | with_reducible refine s_k ?_ | with_reducible refine s_bin ?_ | with_reducible refine s_neg ?_ | with_reducible refine s_nt ?_ | with_reducible refine s_an ?_ | with_reducible refine s_or ?_ | with_reducible refine s_cmp ?_ | with_reducible refine s_cmp2 ?_ | with_reducible refine s_isn ?_ | with_reducible refine s_notn ?_ | with_reducible refine s_ite ?_ | with_reducible refine s_tup ?_ | with_reducible refine s_lstF ?_ | with_reducible refine s_lstT ?_ | with_reducible refine s_ix ?_ | with_reducible refine s_sl ?_ | with_reducible refine s_bi ?_ | with_reducible refine s_bm ?_ | with_reducible refine s_fc ?_ | with_reducible refine s_lc ?_ | with_reducible refine s_newF ?_ | with_reducible refine s_newT ?_ | with_reducible refine s_fld ?_ | with_reducible refine s_ew ?_ | with_reducible refine s_ep ?_ | with_reducible refine s_ei ?_ | with_reducible refine s_ev ?_ | with_reducible refine i_zp ?_ | with_reducible refine i_rng1 ?_ | with_reducible refine i_rng2 ?_ | with_reducible refine i_enm ?_ | with_reducible refine i_itr ?_ | with_reducible refine s_calm ?_ | with_reducible refine s_need ?_ | ((with_reducible apply s_var); rfl) | ((with_reducible apply s_gl); assumption) | ((with_reducible apply x_rs1); assumption) | ((with_reducible apply s_mx0); assumption) | ((with_reducible apply s_mx1); assumption) | ((with_reducible apply s_my1); assumption) | ((with_reducible apply s_my2); assumption) | ((with_reducible apply s_ok); rfl) | ((with_reducible apply e_some); rfl) | ((with_reducible apply e_rcv); rfl) | ((with_reducible apply e_neg); rfl) | ((with_reducible apply and_t); rfl) | ((with_reducible apply and_f); rfl)))
def ParseRun (C : Cal) (f : Nat) : Prop := ∀ (st : Store) (ms : List Mv) (off : Option Mv) (P : D → Store → Prop), WayOk ms off → P (.tup [.loc st.length, offD off]) (.lst (ms.map mvD) :: st) → (C.fn f true [.str (textOf ms off)] st).sat P
theorem parse_run {T : Tb} {n f : Nat} (hf : T.fns[f]? = some ⟨6, 1, [], parseB⟩) (hg : T.globs[5]? = some (.con (dirsL.map D.str))) (hm : ReadMoveRun (calN T n) 10) (ho : ReadOffRun (calN T n) 9) : ParseRun (calN T (n + 1)) f := by
  intro st ms off P hw h
  rw [calN_fn]
  refine run_sat hf rfl ?_
  have hg2 : (calN T n).glob 5 = some (.con (dirsL.map D.str)) := by rw [calN_glob]; exact hg
  exact parse_exec hw hg2 hm ho h
theorem strunc_0 {α : Type} : ∀ r : List α, strunc r 0 = []
  | [] => rfl
  | o :: r => by
    show (if 0 ≤ r.length then strunc r 0 else o :: r) = []
    rw [if_pos (Nat.zero_le _), strunc_0 r]
def restB : MS := (.seq (.asg (.var 5) (.bi .repr false (.cons (.var 4) .no)))
 (.seq (.fr (.var 6) (.rng1 (.k (.int 2)))
 (.seq (.asg (.var 7) (.fc 5 true (.cons (.var 3) .no)))
 (.seq (.ite (.or (.nt (.fc 6 false (.cons (.fc 7 false (.cons (.var 4) .no)) (.cons (.var 3) .no)))) (.or (.nt (.fc 6 false (.cons (.var 7) (.cons (.var 2) .no)))) (.cmp .ne (.bi .repr false (.cons (.var 4) .no)) (.var 5))))
 (.seq (.ret (.k (.bl false)))
 .skip)
 .skip)
 (.seq (.ex (.bm .append false (.ix (.var 7) (.k (.int 0))) (.cons (.k .non) .no)))
 .skip))))
 (.seq (.ret (.an (.fc 6 false (.cons (.fc 5 true (.cons (.k (.str [])) .no)) (.cons (.tup (.cons (.lst false .no) (.cons (.k .non) .no))) .no))) (.fc 6 false (.cons (.fc 7 false (.cons (.tup (.cons (.lst false .no) (.cons (.k .non) .no))) .no)) (.cons (.k (.str [])) .no)))))
 .skip)))
def lawB : MS := (.seq (.asg (.var 1) (.fc 1 true (.cons (.var 0) .no)))
 (.seq (.asg (.var 2) (.fc 2 false (.cons (.var 1) .no)))
 (.seq (.asg (.var 3) (.bm .join false (.k (.str [10])) (.cons (.lc false [8] (.var 8) (.itr (.fc 3 false (.cons (.var 2) .no))) .no (.bm .join false (.k (.str [32])) (.cons (.var 8) .no))) .no)))
 (.seq (.asg (.var 4) (.var 2))
 (.seq (.ite (.cmp .eq (.fc 4 false (.cons (.var 1) (.cons (.k (.int 2)) .no))) (.k (.int 0)))
 (.seq (.asg (.var 4) (.tup (.cons (.bi .tuple false (.cons (.ix (.var 2) (.k (.int 0))) .no)) (.cons (.ix (.var 2) (.k (.int 1))) .no))))
 .skip)
 .skip)
 restB)))))
theorem shw_text {ms : List Mv} {off : Option Mv} (h : WayOk ms off) : Shw (pyd DEEP (.str (textOf ms off))) 900 := by
  rw [pyd_str]
  refine shw_str ?_ (text_len h)
  intro c hc
  have hs : ∀ ws ∈ linesW ms off, ∀ x ∈ ws, ∀ c ∈ x, c < 1114112 := by
    intro ws hws x hx c hc
    have hg : ∀ g, GroupOk g → ∀ x ∈ g, ∀ c ∈ x, c < 1114112 := by
      intro g hg x hx c hc
      have := (hg.names x hx).2.2 c hc
      omega
    have hd : ∀ a, a < 3 → ∀ s, ∀ c ∈ dirW a s, c < 1114112 := by
      intro a ha s c hc
      simp only [dirW, List.mem_cons, List.not_mem_nil, or_false] at hc
      rcases hc with rfl | rfl
      · split <;> omega
      · omega
    simp only [linesW, List.mem_append, List.mem_map, Option.mem_toList] at hws
    rcases hws with ⟨m, hm, rfl⟩ | ⟨m, hm, rfl⟩
    · have hk := h.ms m hm
      simp only [mvW, List.mem_append, List.mem_cons, List.not_mem_nil, or_false] at hx
      rcases hx with hx | rfl | rfl
      · exact hg _ hk.g x hx c hc
      · exact hd _ hk.a _ c hc
      · have h1 := hk.lo
        have h2 := hk.hi
        have h3 := hk.z
        have := (dig_ok ⟨m.s.natAbs, by omega⟩ (by simp only; omega)).2.2.1
        have := List.all_eq_true.1 this c hc
        simp only [Bool.and_eq_true, decide_eq_true_eq] at this
        omega
    · have hk := h.off m hm
      simp only [offW, List.mem_append, List.mem_cons, List.not_mem_nil, or_false] at hx
      rcases hx with rfl | hx | rfl
      · revert c; decide
      · exact hg _ hk.g x hx c hc
      · exact hd _ hk.a _ c hc
  rcases mem_joinC hc with h2 | ⟨x, hx, h2⟩
  · simp at h2; omega
  · simp only [List.mem_map] at hx
    obtain ⟨ws, hws, rfl⟩ := hx
    rcases mem_joinC h2 with h3 | ⟨y, hy, h3⟩
    · simp at h3; omega
    · exact hs ws hws y hy c h3
/-- what is handed: the moves as a list or a tuple -/
def handD (b : Bool) (ms : List Mv) (off : Option Mv) : D := if b then .tup [.tup (ms.map mvD), offD off] else wayD ms off
theorem deref_hand {st : Store} {b : Bool} {ms : List Mv} {off : Option Mv} : deref st DEEP (handD b ms off) = some (handD b ms off) := by
  cases b
  · exact deref_way
  · exact deref_wayT
theorem shw_hand {b : Bool} {ms : List Mv} {off : Option Mv} (h : WayOk ms off) : Shw (pyd DEEP (handD b ms off)) 3338 := by
  cases b
  · exact shw_way h
  · exact shw_wayT h
theorem tuple_lst {E : D → Store → Prop} {isa : Nat → Nat → Bool} {m : Bool} {xs : List D} {st : Store} {P : D → Store → Prop} (h : P (.tup xs) st) : (bfun isa .tuple m [.lst xs] st).satX P E := s_ok (a := .tup xs) (st := st) rfl h
/-- what the law reaches -/
structure Runs (C : Cal) : Prop where
  deck : ∀ (ns : List Int) (P : D → Store → Prop), (∀ o, DeckOk o → P (.loc 0) [o]) → (C.fn 1 true [.kl (ns.map D.int)] []).sat P
  way : WayRun C 2
  lines : LinesRun C 3
  draw : Draws C 4
  parse : ParseRun C 5
  same : SameRun C 6
  format : FormatRun C 7
theorem Fl.weak {r : Fl} {N : Env → Store → Prop} {P : D → Store → Prop} (h : r.sat (fun _ _ => False) P) : r.sat N P := by
  cases r with
  | nx e s => exact h.elim
  | rt d s => exact h
  | bk e s => exact h.elim
  | exc x e s => exact h.elim
  | bad => exact h.elim
theorem wayOk_nil : WayOk [] none := ⟨by decide, by simp, by simp⟩
theorem itr_lst {E : D → Store → Prop} {st : Store} {xs : List D} {W : List D × Src → Store → Prop} (h : W (xs, []) st) : (itrD (.lst xs) st).satX W E := h
theorem ne_same {st : Store} {x : List Nat} : cmpop .ne (.str x) (.str x) st = some false := by
  show some (!decide (x = x)) = some false
  simp
theorem rest_exec {C : Cal} (R : Runs C) {ms : List Mv} {off : Option Mv} (hw : WayOk ms off) (b : Bool) {o2 : Ob} {s0 : Option D} : (exec C 0 restB [s0, some (.loc 0), some (wayD ms off), some (.str (textOf ms off)), some (handD b ms off), none, none, none, none] [o2]).sat (fun _ _ => False) (fun d st1 => (leave false 0 d st1).sat fun d st => d = .bl true ∧ st = []) := by
  unfold restB
  walk_at "mp"
  refine repr_of deref_hand (shw_hand hw) (by decide) ?_
  walk_at "mp"
  refine f_inv (I := fun dn rest env st => ∃ (up : Store) (x y : Option D), st = up ++ [o2] ∧ (∃ m : List Int, rest = m.map D.int) ∧ env = [s0, some (.loc 0), some (wayD ms off), some (.str (textOf ms off)), some (handD b ms off), some (.str (shownL (handD b ms off))), x, y, none]) ?_ ?_ ?_ (rangeL 0 (2 : Int).toNat) [] _ _ ⟨[], none, none, rfl, ⟨[0, 1], rfl⟩, rfl⟩
  · rintro _ _ _ _ _; rfl
  · rintro dn d rest env st ⟨up, x, y, rfl, ⟨m, hr⟩, rfl⟩
    cases m with
    | nil => exact (nomatch hr)
    | cons m0 m =>
      simp only [List.map_cons, List.cons.injEq] at hr
      obtain ⟨rfl, rfl⟩ := hr
      refine ⟨_, rfl, ?_⟩
      walk_at "mp"
      refine R.parse _ ms off _ hw ?_
      walk_at "mp"
      have hh : handD b ms off = .tup [if b then .tup (ms.map mvD) else .lst (ms.map mvD), offD off] := by cases b <;> rfl
      rw [hh]
      refine R.format _ ms off (if b then .tup (ms.map mvD) else .lst (ms.map mvD)) _ hw (by cases b <;> simp) ?_
      rw [← hh]
      walk_at "mp"
      refine R.same (.str _) (.str _) (.str (textOf ms off)) 900 _ _ rfl rfl (shw_text hw) (by decide) ?_
      walk_at "mp"
      refine R.same _ _ (wayD ms off) 3338 _ _ (deref_wayL (sg_top _ _)) deref_way (shw_way hw) (by decide) ?_
      walk_at "mp"
      refine repr_of deref_hand (shw_hand hw) (by decide) ?_
      walk_at "mp"
      refine and_f (by show (!decide (_ = _)) = false; simp) ?_
      walk_at "mp"
      refine ⟨rcv_app (sg_top _ _), ?_⟩
      walk_at "mp"
      refine app_loc (sg_top _ _) (by have := hw.n; simp; omega) (Nat.zero_le _) ?_
      rw [sp_top]
      walk_at "mp"
      exact ⟨.lst (ms.map mvD ++ [.non]) :: up, _, _, rfl, ⟨m, rfl⟩, rfl⟩
  · rintro dn env st ⟨up, x, y, rfl, _, rfl⟩
    walk_at "mp"
    refine R.parse _ [] none _ wayOk_nil ?_
    walk_at "mp"
    refine R.same _ _ (wayD [] none) 3338 _ _ (deref_wayL (ms := []) (sg_top _ _)) (deref_way (ms := []) (off := none)) (shw_way wayOk_nil) (by decide) ?_
    walk_at "mp"
    refine R.format _ [] none (.lst []) _ wayOk_nil (Or.inl rfl) ?_
    walk_at "mp"
    refine R.same (.str _) (.str _) (.str []) 900 _ _ rfl rfl (shw_text wayOk_nil) (by decide) ?_
    refine leave_f (d' := .bl true) rfl ?_
    exact ⟨rfl, strunc_0 _⟩
theorem law_run {T : Tb} {n f : Nat} {ns : List Int} (hf : T.fns[f]? = some ⟨9, 1, [], lawB⟩) (R : Runs (calN T n)) : ((calN T (n + 1)).fn f false [.kl (ns.map D.int)] []).sat fun d st => d = .bl true ∧ st = [] := by
  rw [calN_fn]
  refine run_sat hf rfl ?_
  generalize calN T n = C at R
  unfold lawB
  walk_at "mp"
  refine R.deck ns _ ?_
  intro o ho
  walk_at "mp"
  refine R.way [] o _ ho ?_
  intro ms off o1 ho1 hw _
  walk_at "mp"
  refine R.lines _ ms off _ hw ?_
  walk_at "mp"
  refine c_loop (I := fun dn rest acc st => st = [o1] ∧ ∃ w1 w2, linesW ms off = w1 ++ w2 ∧ rest = w2.map lineD ∧ acc = (w1.map (joinC [32])).map D.str) ?_ ?_ ?_ _ _ ⟨rfl, [], linesW ms off, rfl, rfl, rfl⟩
  · rintro _ _ _ _ ⟨rfl, _⟩; rfl
  · rintro dn x rest acc st ⟨rfl, w1, w2, e, hr, rfl⟩
    cases w2 with
    | nil => exact (nomatch hr)
    | cons w w2 =>
      simp only [List.map_cons, List.cons.injEq] at hr
      obtain ⟨rfl, rfl⟩ := hr
      have hl := lines_ok hw w (by rw [e]; simp)
      refine ⟨_, rfl, ?_⟩
      refine s_ok rfl ⟨fun _ => ?_, fun h => (nomatch h)⟩
      walk_at "mp"
      refine s_joinS (g := w) rfl (by have := hl.sum; have := hl.n; simp; omega) ?_
      exact ⟨rfl, w1 ++ [w], w2, by rw [e]; simp, rfl, by simp⟩
  · rintro dn acc st ⟨rfl, w1, w2, e, hr, rfl⟩
    have : w2 = [] := by cases w2 with
      | nil => rfl
      | cons => exact (nomatch hr)
    subst this
    rw [List.append_nil] at e
    subst e
    walk_at "mp"
    have hs := texts_sum hw
    have hfew := lines_few hw
    refine s_joinS (g := (linesW ms off).map (joinC [32])) rfl (by simp at hs hfew ⊢; omega) ?_
    walk_at "mp"
    refine R.draw [] o1 2 _ ho1 (by decide) (by decide) ?_
    intro v o2 ho2 hv hv2
    walk_at "mp"
    refine ⟨fun _ => ?_, fun _ => ?_⟩
    · walk_at "mp"
      exact Fl.weak (rest_exec R hw true)
    · walk_at "mp"
      exact Fl.weak (rest_exec R hw false)
end MP

set_option autoImplicit false
set_option linter.all false
set_option maxRecDepth 100000
namespace MP
open ME MS
local macro_rules | `(tactic| walk_at "mp") => `(tactic| repeat (first | with_reducible refine x_seq ?_ | with_reducible refine x_asgv ?_ | with_reducible refine x_asg ?_ | with_reducible refine x_ex ?_ | with_reducible refine x_ret ?_ | with_reducible refine x_ite ?_ | with_reducible refine x_fr ?_ | with_reducible refine x_sasg ?_ | with_reducible refine x_skip ?_ | with_reducible refine t_no ?_ | with_reducible refine t_cons ?_ | with_reducible refine t_star ?_ | with_reducible refine s_k ?_ | with_reducible refine s_bin ?_ | with_reducible refine s_neg ?_ | with_reducible refine s_nt ?_ | with_reducible refine s_an ?_ | with_reducible refine s_or ?_ | with_reducible refine s_cmp ?_ | with_reducible refine s_cmp2 ?_ | with_reducible refine s_isn ?_ | with_reducible refine s_notn ?_ | with_reducible refine s_ite ?_ | with_reducible refine s_tup ?_ | with_reducible refine s_lstF ?_ | with_reducible refine s_lstT ?_ | with_reducible refine s_ix ?_ | with_reducible refine s_sl ?_ | with_reducible refine s_bi ?_ | with_reducible refine s_bm ?_ | with_reducible refine s_fc ?_ | with_reducible refine s_lc ?_ | with_reducible refine s_newF ?_ | with_reducible refine s_newT ?_ | with_reducible refine s_fld ?_ | with_reducible refine s_ew ?_ | with_reducible refine s_ep ?_ | with_reducible refine s_ei ?_ | with_reducible refine s_ev ?_ | with_reducible refine i_zp ?_ | with_reducible refine i_rng1 ?_ | with_reducible refine i_rng2 ?_ | with_reducible refine i_enm ?_ | with_reducible refine i_itr ?_ | with_reducible refine s_calm ?_ | with_reducible refine s_need ?_ | ((with_reducible apply s_var); rfl) | ((with_reducible apply s_gl); assumption) | ((with_reducible apply x_rs1); assumption) | ((with_reducible apply s_mx0); assumption) | ((with_reducible apply s_mx1); assumption) | ((with_reducible apply s_my1); assumption) | ((with_reducible apply s_my2); assumption) | ((with_reducible apply s_ok); rfl) | ((with_reducible apply e_some); rfl) | ((with_reducible apply e_rcv); rfl) | ((with_reducible apply e_neg); rfl) | ((with_reducible apply and_t); rfl) | ((with_reducible apply and_f); rfl)))
/-! Ms1: names and groups, of any words. -/
/-- BadLine -/
def badL : List Nat := [66, 97, 100, 76, 105, 110, 101]
def badX (i : Int) : D := .exc 1 (.str badL) (.int i)
theorem frz_bad {st : Store} {b : Nat} {i : Int} : frz st b DEEP (badX i) = some (badX i) := rfl
/-- words of a size that is no matter -/
structure Small (ws : List (List Nat)) : Prop where
  n : ws.length ≤ 5000
  w : ∀ x ∈ ws, x.length ≤ 5000
section
variable {E : D → Store → Prop}
/-- each item by itself -/
theorem c_map {tg : Store → D → Option Env} {c : Env → Store → Res Bool} {e : Env → Store → Res D} {sr : Src} {Z : List D → Store → Prop} {st : Store} (g : D → D) (xs : List D) (hu : unchanged st sr = true)
    (hs : ∀ x ∈ xs, ∃ env1, tg st x = some env1 ∧ (c env1 st).sat fun t st1 => (t = true → (e env1 st1).sat fun d st2 => d = g x ∧ st2 = st) ∧ (t = false → False)) (hz : Z (xs.map g) st) : (compGo tg c e sr xs st).satX Z E := by
  refine c_loop (I := fun dn rest acc st1 => st1 = st ∧ acc = dn.map g ∧ dn ++ rest = xs) ?_ ?_ ?_ xs st ⟨rfl, rfl, rfl⟩
  · rintro _ _ _ _ ⟨rfl, _⟩; exact hu
  · rintro dn x rest acc st1 ⟨rfl, rfl, rfl⟩
    obtain ⟨env1, h1, h2⟩ := hs x (by simp)
    refine ⟨env1, h1, s_imp h2 ?_⟩
    rintro t st2 ⟨h3, h4⟩
    refine ⟨fun h5 => s_imp (h3 h5) ?_, fun h5 => (h4 h5).elim⟩
    rintro d st3 ⟨rfl, rfl⟩
    exact ⟨rfl, by simp, by simp⟩
  · rintro dn acc st1 ⟨rfl, rfl, rfl⟩
    rw [List.append_nil] at hz
    exact hz
theorem asBools_map : ∀ bs : List Bool, mapO asBool (bs.map D.bl) = some bs
  | [] => rfl
  | b :: bs => by
    have := asBools_map bs
    simp [mapO, asBool, this]
theorem all_bl {isa : Nat → Nat → Bool} {m : Bool} {bs : List Bool} {st : Store} {P : D → Store → Prop} (h : P (.bl (bs.all id)) st) : (bfun isa .all m [.lst (bs.map D.bl)] st).satX P E := by
  refine s_ok (a := .bl (bs.all id)) (st := st) ?_ h
  show Res.of ((mapO asBool (bs.map D.bl)).map fun bs => D.bl (bs.all id)) st = _
  rw [asBools_map]
  rfl
theorem any_bl {isa : Nat → Nat → Bool} {m : Bool} {bs : List Bool} {st : Store} {P : D → Store → Prop} (h : P (.bl (bs.any id)) st) : (bfun isa .any m [.lst (bs.map D.bl)] st).satX P E := by
  refine s_ok (a := .bl (bs.any id)) (st := st) ?_ h
  show Res.of ((mapO asBool (bs.map D.bl)).map fun bs => D.bl (bs.any id)) st = _
  rw [asBools_map]
  rfl
/-- all of a text's signs -/
theorem all_signs {isa : Nat → Nat → Bool} {m : Bool} {t : List Nat} {g : Nat → Bool} {k : D → D} (hk : ∀ c, k (.str [c]) = .bl (g c)) {st : Store} {P : D → Store → Prop} (h : P (.bl (t.all g)) st) : (bfun isa .all m [.lst ((t.map fun c => D.str [c]).map k)] st).satX P E := by
  have e : ((t.map fun c => D.str [c]).map k) = (t.map g).map D.bl := by
    rw [List.map_map, List.map_map]
    refine List.map_congr_left fun c _ => ?_
    exact hk c
  rw [e]
  refine all_bl ?_
  rw [List.all_map]
  exact h
theorem all_words {isa : Nat → Nat → Bool} {m : Bool} {ws : List (List Nat)} {g : List Nat → Bool} {k : D → D} (hk : ∀ x, k (.str x) = .bl (g x)) {st : Store} {P : D → Store → Prop} (h : P (.bl (ws.all g)) st) : (bfun isa .all m [.lst ((ws.map D.str).map k)] st).satX P E := by
  have e : ((ws.map D.str).map k) = (ws.map g).map D.bl := by
    rw [List.map_map, List.map_map]
    refine List.map_congr_left fun c _ => ?_
    exact hk c
  rw [e]
  refine all_bl ?_
  rw [List.all_map]
  exact h
end
/-! ### names -/
def nameB (x : List Nat) : Bool := decide (1 ≤ x.length) && (decide (x.length ≤ 8) && x.all fun c => decide (c ∈ abc))
theorem abc_of {c : Nat} (h : c ∈ abc) : 97 ≤ c ∧ c ≤ 122 := by
  have : ∀ x ∈ abc, 97 ≤ x ∧ x ≤ 122 := by decide
  exact this c h
theorem nameB_ok {x : List Nat} (h : nameB x = true) : NameOk x := by
  unfold nameB at h
  simp only [Bool.and_eq_true, decide_eq_true_eq, List.all_eq_true] at h
  exact ⟨h.1, h.2.1, fun c hc => abc_of (h.2.2 c hc)⟩
def IsNameX (C : Cal) (f : Nat) : Prop := ∀ (st : Store) (x : List Nat) (P E : D → Store → Prop), x.length ≤ 5000 → P (.bl (nameB x)) st → (C.fn f false [.str x] st).satX P E
theorem isnameX {T : Tb} {n f : Nat} (hf : T.fns[f]? = some ⟨2, 1, [], isNameB⟩) (hg1 : T.globs[1]? = some (.int 8)) (hg2 : T.globs[2]? = some (.str abc)) : IsNameX (calN T (n + 1)) f := by
  intro st x P E hx h
  rw [calN_fn]
  refine run_satX hf rfl ?_
  have hg1' : (calN T n).glob 1 = some (.int 8) := by rw [calN_glob]; exact hg1
  have hg2' : (calN T n).glob 2 = some (.str abc) := by rw [calN_glob]; exact hg2
  generalize calN T n = C at hg1' hg2'
  have key : ∀ b, b = nameB x → P (.bl b) (strunc st st.length) := fun b e => by rw [strunc_self, e]; exact h
  unfold isNameB
  walk_at "mp"
  refine len_str (by omega) ?_
  walk_at "mp"
  refine ⟨fun h1 => ?_, fun h1 => ?_⟩
  · have h1 : 1 ≤ x.length := by have := of_decide_eq_true h1; omega
    walk_at "mp"
    by_cases h2 : x.length ≤ 8
    · refine and_f (by simp; omega) ?_
      walk_at "mp"
      refine it_str (by omega) ?_
      refine c_map (fun d => match d with
        | .str [c] => .bl (decide (c ∈ abc))
        | _ => .non) _ rfl ?_ ?_
      · intro d hd
        simp only [List.mem_map] at hd
        obtain ⟨c, hc, rfl⟩ := hd
        refine ⟨_, rfl, ?_⟩
        walk_at "mp"
        exact ⟨rfl, rfl⟩
      · walk_at "mp"
        refine all_signs (g := fun c => decide (c ∈ abc)) (fun c => rfl) ?_
        refine leave_f (d' := .bl _) rfl (key _ ?_)
        unfold nameB
        rw [decide_eq_true h1, decide_eq_true h2]
        rfl
    · refine and_t (by simp; omega) ?_
      walk_at "mp"
      refine key _ ?_
      unfold nameB
      rw [decide_eq_false h2]
      simp
  · have h1 : ¬ 1 ≤ x.length := by have := of_decide_eq_false h1; omega
    walk_at "mp"
    refine key _ ?_
    unfold nameB
    rw [decide_eq_false h1]
    rfl
end MP

set_option autoImplicit false
set_option linter.all false
set_option maxRecDepth 100000
namespace MP
open ME MS
local macro_rules | `(tactic| walk_at "mp") => `(tactic| repeat (first | with_reducible refine x_seq ?_ | with_reducible refine x_asgv ?_ | with_reducible refine x_asg ?_ | with_reducible refine x_ex ?_ | with_reducible refine x_ret ?_ | with_reducible refine x_ite ?_ | with_reducible refine x_fr ?_ | with_reducible refine x_sasg ?_ | with_reducible refine x_skip ?_ | with_reducible refine t_no ?_ | with_reducible refine t_cons ?_ | with_reducible refine t_star ?_ | with_reducible refine s_k ?_ | with_reducible refine s_bin ?_ | with_reducible refine s_neg ?_ | with_reducible refine s_nt ?_ | with_reducible refine s_an ?_ | with_reducible refine s_or ?_ | with_reducible refine s_cmp ?_ | with_reducible refine s_cmp2 ?_ | with_reducible refine s_isn ?_ | with_reducible refine s_notn ?_ | with_reducible refine s_ite ?_ | with_reducible refine s_tup ?_ | with_reducible refine s_lstF ?_ | with_reducible refine s_lstT ?_ | with_reducible refine s_ix ?_ | with_reducible refine s_sl ?_ | with_reducible refine s_bi ?_ | with_reducible refine s_bm ?_ | with_reducible refine s_fc ?_ | with_reducible refine s_lc ?_ | with_reducible refine s_newF ?_ | with_reducible refine s_newT ?_ | with_reducible refine s_fld ?_ | with_reducible refine s_ew ?_ | with_reducible refine s_ep ?_ | with_reducible refine s_ei ?_ | with_reducible refine s_ev ?_ | with_reducible refine i_zp ?_ | with_reducible refine i_rng1 ?_ | with_reducible refine i_rng2 ?_ | with_reducible refine i_enm ?_ | with_reducible refine i_itr ?_ | with_reducible refine s_calm ?_ | with_reducible refine s_need ?_ | ((with_reducible apply s_var); rfl) | ((with_reducible apply s_gl); assumption) | ((with_reducible apply x_rs1); assumption) | ((with_reducible apply s_mx0); assumption) | ((with_reducible apply s_mx1); assumption) | ((with_reducible apply s_my1); assumption) | ((with_reducible apply s_my2); assumption) | ((with_reducible apply s_ok); rfl) | ((with_reducible apply e_some); rfl) | ((with_reducible apply e_rcv); rfl) | ((with_reducible apply e_neg); rfl) | ((with_reducible apply and_t); rfl) | ((with_reducible apply and_f); rfl)))
open PySem (PyData)
/-! Mt1: errors of all classes. -/
/-- the classes and their words, in the words' order -/
def ow : List (Nat × List Nat) := [(1, [66, 97, 100, 67, 111, 117, 110, 116]), (13, [66, 97, 100, 69, 100, 105, 116]), (9, [66, 97, 100, 70, 105, 110, 101]), (12, [66, 97, 100, 76, 105, 110, 101]), (8, [66, 97, 100, 77, 111, 118, 101]), (2, [66, 97, 100, 78, 97, 109, 101]), (7, [66, 97, 100, 80, 108, 97, 99, 105, 110, 103]), (11, [66, 97, 100, 83, 104, 97, 112, 101]), (3, [66, 97, 100, 83, 111, 108, 105, 100]), (10, [66, 97, 100, 83, 112, 101, 101, 100, 115]), (16, [78, 111, 116, 104, 105, 110, 103, 84, 111, 82, 101, 100, 111]), (15, [78, 111, 116, 104, 105, 110, 103, 84, 111, 85, 110, 100, 111]), (5, [79, 118, 101, 114, 108, 97, 112]), (4, [83, 97, 109, 101, 78, 97, 109, 101]), (14, [84, 111, 111, 77, 97, 110, 121]), (6, [85, 110, 107, 110, 111, 119, 110, 78, 97, 109, 101])]
structure ErrT (C : Cal) : Prop where
  err : ∀ j, j < 17 → C.err j = true
  isa : ∀ c, c < 17 → ∀ j, j < 17 → C.isa c j = (decide (j = c) || decide (j = 0))
  word : ∀ q ∈ ow, C.word q.1 = some q.2
  bare : C.bare 0 = true
/-- a place that an error may have -/
structure Pl (p : D) : Prop where
  dr : ∀ st n, deref st (n + 5) p = some p
  fr : ∀ st b n, frz st b (n + 5) p = some p
  sh : ∀ n, Shw (pyd (n + 5) p) 300
theorem shw_bl {b : Bool} {w : Nat} : Shw (.bool b) w := ⟨rfl, by cases b <;> rfl, Nat.zero_le _⟩
theorem pl_non : Pl .non := ⟨fun _ _ => rfl, fun _ _ _ => rfl, fun _ => shw_none⟩
theorem pl_int {i : Int} (h : i.natAbs < 1000000000) : Pl (.int i) := ⟨fun _ _ => rfl, fun _ _ _ => rfl, fun n => by rw [pyd_int]; exact (shw_int h).mono (by decide)⟩
theorem pl_str {x : List Nat} (h : ∀ c ∈ x, c < 1114112) (h2 : x.length ≤ 100) : Pl (.str x) := ⟨fun _ _ => rfl, fun _ _ _ => rfl, fun n => by rw [pyd_str]; exact shw_str h (by omega)⟩
theorem pl_bl {b : Bool} : Pl (.bl b) := ⟨fun _ _ => rfl, fun _ _ _ => rfl, fun n => shw_bl⟩
theorem sh_a (n : Nat) : Shw (pyd n (.str [97])) 1 := by rw [pyd_str]; exact shw_str (by decide) (by decide)
theorem sh_b (n : Nat) : Shw (pyd n (.str [98])) 1 := by rw [pyd_str]; exact shw_str (by decide) (by decide)
theorem pl_a3 : Pl (.tup [.str [97], .int 3]) := ⟨fun _ _ => rfl, fun _ _ _ => rfl, fun n => by
  show Shw (.tuple [pyd (n + 4) (.str [97]), pyd (n + 4) (.int 3)]) 300
  refine (shw_tuple (w := 30) (n := 2) ?_ (by simp)).mono (by decide)
  intro x hx
  simp only [List.mem_cons, List.not_mem_nil, or_false] at hx
  rcases hx with rfl | rfl
  · exact (sh_a _).mono (by decide)
  · rw [pyd_int]; exact shw_int (by decide)⟩
theorem pl_1b : Pl (.lst [.int 1, .str [98]]) := ⟨fun _ _ => rfl, fun _ _ _ => rfl, fun n => by
  show Shw (.list [pyd (n + 4) (.int 1), pyd (n + 4) (.str [98])]) 300
  refine (shw_list (w := 30) (n := 2) ?_ (by simp)).mono (by decide)
  intro x hx
  simp only [List.mem_cons, List.not_mem_nil, or_false] at hx
  rcases hx with rfl | rfl
  · rw [pyd_int]; exact shw_int (by decide)
  · exact (sh_b _).mono (by decide)⟩
theorem pl_t0 : Pl (.tup []) := ⟨fun _ _ => rfl, fun _ _ _ => rfl, fun n => by
  show Shw (.tuple []) 300
  exact (shw_tuple (w := 0) (n := 0) (by simp) (by simp)).mono (by decide)⟩
theorem pl_deep : Pl (.tup [.str [97], .tup [.int 1, .lst [.str [98]]]]) := ⟨fun _ _ => rfl, fun _ _ _ => rfl, fun n => by
  show Shw (.tuple [pyd (n + 4) (.str [97]), .tuple [pyd (n + 3) (.int 1), .list [pyd (n + 2) (.str [98])]]]) 300
  refine (shw_tuple (w := 64) (n := 2) ?_ (by simp)).mono (by decide)
  intro x hx
  simp only [List.mem_cons, List.not_mem_nil, or_false] at hx
  rcases hx with rfl | rfl
  · exact (sh_a _).mono (by decide)
  · refine (shw_tuple (w := 30) (n := 2) ?_ (by simp)).mono (by decide)
    intro x hx
    simp only [List.mem_cons, List.not_mem_nil, or_false] at hx
    rcases hx with rfl | rfl
    · rw [pyd_int]; exact shw_int (by decide)
    · refine (shw_list (w := 1) (n := 1) ?_ (by simp)).mono (by decide)
      intro x hx
      simp only [List.mem_cons, List.not_mem_nil, or_false] at hx
      subst hx
      exact sh_b _⟩
/-! ### words, errors made -/
def wordsB : MS := (.seq (.asg (.var 0) (.lst false (.cons (.k (.str [66, 97, 100, 67, 111, 117, 110, 116])) (.cons (.k (.str [66, 97, 100, 69, 100, 105, 116])) (.cons (.k (.str [66, 97, 100, 70, 105, 110, 101])) (.cons (.k (.str [66, 97, 100, 76, 105, 110, 101])) (.cons (.k (.str [66, 97, 100, 77, 111, 118, 101])) (.cons (.k (.str [66, 97, 100, 78, 97, 109, 101])) (.cons (.k (.str [66, 97, 100, 80, 108, 97, 99, 105, 110, 103])) (.cons (.k (.str [66, 97, 100, 83, 104, 97, 112, 101])) (.cons (.k (.str [66, 97, 100, 83, 111, 108, 105, 100])) .no)))))))))))
 (.seq (.ret (.bin .add false (.var 0) (.lst false (.cons (.k (.str [66, 97, 100, 83, 112, 101, 101, 100, 115])) (.cons (.k (.str [78, 111, 116, 104, 105, 110, 103, 84, 111, 82, 101, 100, 111])) (.cons (.k (.str [78, 111, 116, 104, 105, 110, 103, 84, 111, 85, 110, 100, 111])) (.cons (.k (.str [79, 118, 101, 114, 108, 97, 112])) (.cons (.k (.str [83, 97, 109, 101, 78, 97, 109, 101])) (.cons (.k (.str [84, 111, 111, 77, 97, 110, 121])) (.cons (.k (.str [85, 110, 107, 110, 111, 119, 110, 78, 97, 109, 101])) .no))))))))))
 .skip))
def WordsRun (C : Cal) (f : Nat) : Prop := ∀ (st : Store) (P : D → Store → Prop), P (.lst (ow.map fun q => .str q.2)) st → (C.fn f false [] st).sat P
theorem words_run {T : Tb} {n f : Nat} (hf : T.fns[f]? = some ⟨1, 0, [], wordsB⟩) : WordsRun (calN T (n + 1)) f := by
  intro st P h
  rw [calN_fn]
  refine run_sat hf rfl ?_
  generalize calN T n = C
  unfold wordsB
  walk_at "mp"
  rw [strunc_self]
  exact h
theorem frz_excs {st : Store} {b n : Nat} {p : D} (hp : Pl p) : ∀ qs : List (Nat × List Nat), mapO (frz st b (n + 6)) (qs.map fun q => .exc q.1 (.str q.2) p) = some (qs.map fun q => .exc q.1 (.str q.2) p)
  | [] => rfl
  | q :: qs => by
    have h1 : frz st b (n + 6) (.exc q.1 (.str q.2) p) = some (.exc q.1 (.str q.2) p) := by
      show (match frz st b (n + 5) (.str q.2), frz st b (n + 5) p with
        | some w', some p' => some (D.exc q.1 w' p')
        | _, _ => none) = _
      rw [hp.fr]
      rfl
    simp only [List.map_cons, mapO, h1, frz_excs hp qs]
def madeB : MS := (.seq (.asg (.var 1) (.lst false (.cons (.mx1 1 (.var 0)) (.cons (.mx1 13 (.var 0)) (.cons (.mx1 9 (.var 0)) (.cons (.mx1 12 (.var 0)) (.cons (.mx1 8 (.var 0)) (.cons (.mx1 2 (.var 0)) .no))))))))
 (.seq (.asg (.var 1) (.bin .add false (.var 1) (.lst false (.cons (.mx1 7 (.var 0)) (.cons (.mx1 11 (.var 0)) (.cons (.mx1 3 (.var 0)) (.cons (.mx1 10 (.var 0)) (.cons (.mx1 16 (.var 0)) .no))))))))
 (.seq (.asg (.var 1) (.bin .add false (.var 1) (.lst false (.cons (.mx1 15 (.var 0)) (.cons (.mx1 5 (.var 0)) (.cons (.mx1 4 (.var 0)) (.cons (.mx1 14 (.var 0)) .no)))))))
 (.seq (.ret (.bin .add false (.var 1) (.lst false (.cons (.mx1 6 (.var 0)) .no))))
 .skip))))
def MadeRun (C : Cal) (f : Nat) : Prop := ∀ (st : Store) (p : D) (P : D → Store → Prop), Pl p → P (.lst (ow.map fun q => .exc q.1 (.str q.2) p)) st → (C.fn f false [p] st).sat P
theorem made_run {T : Tb} {n f : Nat} (hf : T.fns[f]? = some ⟨2, 1, [], madeB⟩) (E : ErrT (calN T n)) : MadeRun (calN T (n + 1)) f := by
  intro st p P hp h
  rw [calN_fn]
  refine run_sat hf rfl ?_
  generalize calN T n = C at E
  have hw := E.word
  simp only [ow, List.forall_mem_cons] at hw
  obtain ⟨w1, w2, w3, w4, w5, w6, w7, w8, w9, w10, w11, w12, w13, w14, w15, w16, _⟩ := hw
  unfold madeB
  walk_at "mp"
  refine leave_f (d' := .lst (ow.map fun q => .exc q.1 (.str q.2) p)) ?_ ?_
  · show (mapO (frz _ _ 7) (ow.map fun q => D.exc q.1 (.str q.2) p)).map D.lst = _
    rw [frz_excs hp]
    rfl
  · rw [strunc_self]
    exact h
def bareB' : MS := (.seq (.asg (.var 0) (.lst false (.cons (.mx0 1) (.cons (.mx0 13) (.cons (.mx0 9) (.cons (.mx0 12) (.cons (.mx0 8) (.cons (.mx0 2) (.cons (.mx0 7) (.cons (.mx0 11) (.cons (.mx0 3) .no)))))))))))
 (.seq (.asg (.var 0) (.bin .add false (.var 0) (.lst false (.cons (.mx0 10) (.cons (.mx0 16) (.cons (.mx0 15) (.cons (.mx0 5) (.cons (.mx0 4) (.cons (.mx0 14) (.cons (.mx0 6) .no))))))))))
 (.seq (.ret (.var 0))
 .skip)))
def BareRun (C : Cal) (f : Nat) : Prop := ∀ (st : Store) (P : D → Store → Prop), P (.lst (ow.map fun q => .exc q.1 (.str q.2) .non)) st → (C.fn f false [] st).sat P
theorem bare_run {T : Tb} {n f : Nat} (hf : T.fns[f]? = some ⟨1, 0, [], bareB'⟩) (E : ErrT (calN T n)) : BareRun (calN T (n + 1)) f := by
  intro st P h
  rw [calN_fn]
  refine run_sat hf rfl ?_
  generalize calN T n = C at E
  have hw := E.word
  simp only [ow, List.forall_mem_cons] at hw
  obtain ⟨w1, w2, w3, w4, w5, w6, w7, w8, w9, w10, w11, w12, w13, w14, w15, w16, _⟩ := hw
  unfold bareB'
  walk_at "mp"
  rw [strunc_self]
  exact h
/-! ### classes asked -/
def kindsB : MS := (.seq (.asg (.var 1) (.lst false (.cons (.ei (.var 0) 1) (.cons (.ei (.var 0) 13) (.cons (.ei (.var 0) 9) .no)))))
 (.seq (.asg (.var 1) (.bin .add false (.var 1) (.lst false (.cons (.ei (.var 0) 12) (.cons (.ei (.var 0) 8) (.cons (.ei (.var 0) 2) .no))))))
 (.seq (.asg (.var 1) (.bin .add false (.var 1) (.lst false (.cons (.ei (.var 0) 7) (.cons (.ei (.var 0) 11) (.cons (.ei (.var 0) 3) .no))))))
 (.seq (.asg (.var 1) (.bin .add false (.var 1) (.lst false (.cons (.ei (.var 0) 10) (.cons (.ei (.var 0) 16) (.cons (.ei (.var 0) 15) .no))))))
 (.seq (.asg (.var 1) (.bin .add false (.var 1) (.lst false (.cons (.ei (.var 0) 5) (.cons (.ei (.var 0) 4) (.cons (.ei (.var 0) 14) .no))))))
 (.seq (.ret (.bin .add false (.var 1) (.lst false (.cons (.ei (.var 0) 6) .no))))
 .skip))))))
def KindsRun (C : Cal) (f : Nat) : Prop := ∀ (st : Store) (c : Nat) (w p : D) (P : D → Store → Prop), c < 17 → P (.lst (ow.map fun q => .bl (decide (q.1 = c)))) st → (C.fn f false [.exc c w p] st).sat P
theorem kinds_run {T : Tb} {n f : Nat} (hf : T.fns[f]? = some ⟨2, 1, [], kindsB⟩) (E : ErrT (calN T n)) : KindsRun (calN T (n + 1)) f := by
  intro st c w p P hc h
  rw [calN_fn]
  refine run_sat hf rfl ?_
  generalize calN T n = C at E
  have key : ∀ j, j < 17 → j ≠ 0 → C.err c = true ∧ C.err j = true ∧ C.isa c j = decide (j = c) := fun j h1 h2 => ⟨E.err c hc, E.err j h1, by rw [E.isa c hc j h1, decide_eq_false h2, Bool.or_false]⟩
  have ec := E.err c hc
  unfold kindsB
  repeat (walk_at "mp"; refine ⟨_, _, _, rfl, ec, E.err _ (by decide), ?_⟩)
  walk_at "mp"
  rw [strunc_self]
  have e : ∀ j, j < 17 → j ≠ 0 → C.isa c j = decide (j = c) := fun j h1 h2 => (key j h1 h2).2.2
  rw [e 1 (by decide) (by decide), e 13 (by decide) (by decide), e 9 (by decide) (by decide), e 12 (by decide) (by decide), e 8 (by decide) (by decide), e 2 (by decide) (by decide), e 7 (by decide) (by decide), e 11 (by decide) (by decide), e 3 (by decide) (by decide), e 10 (by decide) (by decide), e 16 (by decide) (by decide), e 15 (by decide) (by decide), e 5 (by decide) (by decide), e 4 (by decide) (by decide), e 14 (by decide) (by decide), e 6 (by decide) (by decide)]
  exact h
end MP

set_option autoImplicit false
set_option linter.all false
set_option maxRecDepth 100000
namespace MP
open ME MS
local macro_rules | `(tactic| walk_at "mp") => `(tactic| repeat (first | with_reducible refine x_seq ?_ | with_reducible refine x_asgv ?_ | with_reducible refine x_asg ?_ | with_reducible refine x_ex ?_ | with_reducible refine x_ret ?_ | with_reducible refine x_ite ?_ | with_reducible refine x_fr ?_ | with_reducible refine x_sasg ?_ | with_reducible refine x_skip ?_ | with_reducible refine t_no ?_ | with_reducible refine t_cons ?_ | with_reducible refine t_star ?_ | with_reducible refine s_k ?_ | with_reducible refine s_bin ?_ | with_reducible refine s_neg ?_ | with_reducible refine s_nt ?_ | with_reducible refine s_an ?_ | with_reducible refine s_or ?_ | with_reducible refine s_cmp ?_ | with_reducible refine s_cmp2 ?_ | with_reducible refine s_isn ?_ | with_reducible refine s_notn ?_ | with_reducible refine s_ite ?_ | with_reducible refine s_tup ?_ | with_reducible refine s_lstF ?_ | with_reducible refine s_lstT ?_ | with_reducible refine s_ix ?_ | with_reducible refine s_sl ?_ | with_reducible refine s_bi ?_ | with_reducible refine s_bm ?_ | with_reducible refine s_fc ?_ | with_reducible refine s_lc ?_ | with_reducible refine s_newF ?_ | with_reducible refine s_newT ?_ | with_reducible refine s_fld ?_ | with_reducible refine s_ew ?_ | with_reducible refine s_ep ?_ | with_reducible refine s_ei ?_ | with_reducible refine s_ev ?_ | with_reducible refine i_zp ?_ | with_reducible refine i_rng1 ?_ | with_reducible refine i_rng2 ?_ | with_reducible refine i_enm ?_ | with_reducible refine i_itr ?_ | with_reducible refine s_calm ?_ | with_reducible refine s_need ?_ | ((with_reducible apply s_var); rfl) | ((with_reducible apply s_gl); assumption) | ((with_reducible apply x_rs1); assumption) | ((with_reducible apply s_mx0); assumption) | ((with_reducible apply s_mx1); assumption) | ((with_reducible apply s_my1); assumption) | ((with_reducible apply s_my2); assumption) | ((with_reducible apply s_ok); rfl) | ((with_reducible apply e_some); rfl) | ((with_reducible apply e_rcv); rfl) | ((with_reducible apply e_neg); rfl) | ((with_reducible apply and_t); rfl) | ((with_reducible apply and_f); rfl)))
open PySem (PyData)
/-! Mt2: the law on errors. -/
theorem at_map {α β : Type} {f : α → β} {xs : List α} {k : Nat} (h : k < xs.length) : at? (xs.map f) (k : Nat) = some (f xs[k]) := by
  unfold at? ixn
  rw [if_pos (by omega), if_pos (by simp; omega)]
  simp [List.getElem?_eq_getElem h]
def isErrB : MS := (.seq (.ite (.or (.nt (.ei (.var 0) 0)) (.nt (.ev (.var 0))))
 (.seq (.ret (.k (.bl false)))
 .skip)
 .skip)
 (.seq (.ite (.nt (.fc 2 false (.cons (.fc 3 false (.cons (.var 0) .no)) (.cons (.lc false [3] (.var 3) (.itr (.fc 5 false .no)) .no (.cmp .eq (.var 3) (.var 1))) .no))))
 (.seq (.ret (.k (.bl false)))
 .skip)
 .skip)
 (.seq (.ret (.an (.fc 2 false (.cons (.ew (.var 0)) (.cons (.var 1) .no))) (.fc 2 false (.cons (.ep (.var 0)) (.cons (.var 2) .no)))))
 .skip)))
def IsErrRun (C : Cal) (f : Nat) : Prop := ∀ (st : Store) (q : Nat × List Nat) (p : D) (P : D → Store → Prop), q ∈ ow → Pl p → P (.bl true) st → (C.fn f false [.exc q.1 (.str q.2) p, .str q.2, p] st).sat P
/-- the classes of an error and its word go together -/
theorem ow_apart : ∀ q ∈ ow, ∀ r ∈ ow, decide (r.1 = q.1) = decide (r.2 = q.2) := by decide
theorem ow_lt : ∀ q ∈ ow, q.1 < 17 ∧ (∀ c ∈ q.2, c < 1114112) ∧ q.2.length ≤ 20 := by decide
theorem deref_bls {st : Store} {n : Nat} : ∀ bs : List Bool, mapO (deref st (n + 1)) (bs.map D.bl) = some (bs.map D.bl)
  | [] => rfl
  | b :: bs => by
    have h1 : deref st (n + 1) (.bl b) = some (.bl b) := rfl
    simp only [List.map_cons, mapO, h1, deref_bls bs]
theorem deref_lst {st : Store} {n : Nat} {xs : List D} (h : mapO (deref st n) xs = some xs) : deref st (n + 1) (.lst xs) = some (.lst xs) := by
  show (mapO (deref st n) xs).map D.lst = _
  rw [h]
  rfl
theorem shw_kinds {bs : List Bool} (h : bs.length ≤ 16) : Shw (pyd DEEP (.lst (bs.map D.bl))) 32 := by
  show Shw (.list ((bs.map D.bl).map (pyd 7))) _
  refine shw_list (w := 1) (n := 16) ?_ (by simpa using h)
  intro x hx
  simp only [List.map_map, List.mem_map, Function.comp] at hx
  obtain ⟨b, _, rfl⟩ := hx
  exact shw_bl
theorem isErr_run {T : Tb} {n f : Nat} (hf : T.fns[f]? = some ⟨4, 3, [], isErrB⟩) (E : ErrT (calN T n)) (hs : SameRun (calN T n) 2) (hk : KindsRun (calN T n) 3) (hw : WordsRun (calN T n) 5) : IsErrRun (calN T (n + 1)) f := by
  intro st q p P hq hp h
  rw [calN_fn]
  refine run_sat hf rfl ?_
  generalize calN T n = C at E hs hk hw
  obtain ⟨hlt, hch, hlen⟩ := ow_lt q hq
  have k1 := E.err q.1 hlt
  have k2 := E.err 0 (by decide)
  have k3 : C.isa q.1 0 = true := by rw [E.isa q.1 hlt 0 (by decide)]; simp
  unfold isErrB
  walk_at "mp"
  refine ⟨_, _, _, rfl, k1, k2, ?_⟩
  rw [k3]
  walk_at "mp"
  refine ⟨_, _, _, rfl, k1, ?_⟩
  walk_at "mp"
  refine hk _ _ _ _ _ hlt ?_
  walk_at "mp"
  refine hw _ _ ?_
  walk_at "mp"
  have e1 : (ow.map fun r => D.bl (decide (r.1 = q.1))) = (ow.map fun r => decide (r.1 = q.1)).map D.bl := by rw [List.map_map]; rfl
  have e2 : (ow.map fun r => decide (r.2 = q.2)) = ow.map fun r => decide (r.1 = q.1) := List.map_congr_left fun r hr => (ow_apart q hq r hr).symm
  show (C.fn 2 false [D.lst (ow.map fun r => D.bl (decide (r.1 = q.1))), D.lst ((ow.map fun r => decide (r.2 = q.2)).map D.bl)] st).satX _ _
  rw [e1, e2]
  refine hs _ _ _ 32 _ _ (deref_lst (deref_bls _)) (deref_lst (deref_bls _)) (shw_kinds (by simp [ow])) (by decide) ?_
  walk_at "mp"
  refine ⟨_, _, _, rfl, k1, ?_⟩
  walk_at "mp"
  refine hs _ _ (.str q.2) 20 _ _ rfl rfl (by rw [pyd_str]; exact shw_str hch hlen) (by decide) ?_
  walk_at "mp"
  refine ⟨_, _, _, rfl, k1, ?_⟩
  walk_at "mp"
  refine hs _ _ p 300 _ _ (hp.dr _ 3) (hp.dr _ 3) (hp.sh 3) (by decide) ?_
  refine leave_f (d' := .bl true) rfl ?_
  rw [strunc_self]
  exact h
/-- what the law reaches -/
structure Runs98 (C : Cal) : Prop where
  deck : ∀ (ns : List Int) (P : D → Store → Prop), (∀ o, DeckOk o → P (.loc 0) [o]) → (C.fn 1 true [.kl (ns.map D.int)] []).sat P
  draw : Draws C 4
  same : SameRun C 2
  kinds : KindsRun C 3
  words : WordsRun C 5
  made : MadeRun C 6
  bare : BareRun C 7
  isErr : IsErrRun C 8
  E : ErrT C
theorem deref_wp {st : Store} {w : List Nat} {p : D} (hp : Pl p) : deref st DEEP (.lst [.str w, p]) = some (.lst [.str w, p]) := by
  refine deref_lst ?_
  have h1 : deref st 7 (.str w) = some (.str w) := rfl
  simp only [mapO, h1, hp.dr st 2]
theorem shw_wp {w : List Nat} {p : D} (hw : ∀ c ∈ w, c < 1114112) (hl : w.length ≤ 100) (hp : Pl p) : Shw (pyd DEEP (.lst [.str w, p])) 602 := by
  show Shw (.list [pyd 7 (.str w), pyd 7 p]) _
  refine shw_list (w := 300) (n := 2) ?_ (by simp)
  intro x hx
  simp only [List.mem_cons, List.not_mem_nil, or_false] at hx
  rcases hx with rfl | rfl
  · rw [pyd_str]; exact shw_str hw (by omega)
  · exact hp.sh 2
theorem place_ok {i : Int} (h1 : 0 ≤ i) (h2 : i < 1000000) {x : D} (hx : x ∈ [D.non, .int 0, .int i, .int (-i), .str [97], .str [], .tup [.str [97], .int 3], .lst [.int 1, .str [98]], .tup [], .bl true, .tup [.str [97], .tup [.int 1, .lst [.str [98]]]], .int 1000]) : Pl x := by
  simp only [List.mem_cons, List.not_mem_nil, or_false] at hx
  rcases hx with rfl | rfl | rfl | rfl | rfl | rfl | rfl | rfl | rfl | rfl | rfl | rfl
  · exact pl_non
  · exact pl_int (by decide)
  · exact pl_int (by omega)
  · exact pl_int (by omega)
  · exact pl_str (by decide) (by decide)
  · exact pl_str (by decide) (by decide)
  · exact pl_a3
  · exact pl_1b
  · exact pl_t0
  · exact pl_bl
  · exact pl_deep
  · exact pl_int (by decide)
def lawEB : MS := (.seq (.asg (.var 1) (.fc 1 true (.cons (.var 0) .no)))
 (.seq (.asg (.var 2) (.fc 4 false (.cons (.var 1) (.cons (.k (.int 1000000)) .no))))
 (.seq (.asg (.var 3) (.lst false (.cons (.k .non) (.cons (.k (.int 0)) (.cons (.var 2) (.cons (.neg (.var 2)) (.cons (.k (.str [97])) (.cons (.k (.str [])) (.cons (.tup (.cons (.k (.str [97])) (.cons (.k (.int 3)) .no))) (.cons (.lst false (.cons (.k (.int 1)) (.cons (.k (.str [98])) .no))) (.cons (.tup .no) (.cons (.k (.bl true)) (.cons (.tup (.cons (.k (.str [97])) (.cons (.tup (.cons (.k (.int 1)) (.cons (.lst false (.cons (.k (.str [98])) .no)) .no))) .no))) (.cons (.k (.int 1000)) .no))))))))))))))
 (.seq (.asg (.var 4) (.ix (.var 3) (.fc 4 false (.cons (.var 1) (.cons (.k (.int 12)) .no)))))
 (.seq (.asg (.var 5) (.fc 5 false .no))
 (.seq (.asg (.var 6) (.fc 6 false (.cons (.var 4) .no)))
 (.seq (.asg (.var 7) (.fc 7 false .no))
 (.seq (.fr (.var 8) (.rng1 (.bi .len false (.cons (.var 5) .no)))
 (.seq (.ite (.or (.nt (.fc 8 false (.cons (.ix (.var 6) (.var 8)) (.cons (.ix (.var 5) (.var 8)) (.cons (.var 4) .no))))) (.nt (.fc 8 false (.cons (.ix (.var 7) (.var 8)) (.cons (.ix (.var 5) (.var 8)) (.cons (.k .non) .no))))))
 (.seq (.ret (.k (.bl false)))
 .skip)
 .skip)
 .skip))
 (.seq (.asg (.var 9) (.bin .add false (.ix (.var 5) (.fc 4 false (.cons (.var 1) (.cons (.k (.int 16)) .no)))) (.ix (.lst false (.cons (.k (.str [])) (.cons (.k (.str [120])) .no))) (.fc 4 false (.cons (.var 1) (.cons (.k (.int 2)) .no))))))
 (.seq (.asg (.var 10) (.lst false (.cons (.my2 0 (.var 9) (.var 4)) (.cons (.my1 0 (.var 9)) (.cons (.my2 0 (.bin .add false (.var 9) (.k (.str [121]))) (.k .non)) .no)))))
 (.seq (.fr (.var 8) (.rng1 (.k (.int 3)))
 (.seq (.ite (.or (.nt (.ev (.ix (.var 10) (.var 8)))) (.bi .any false (.cons (.fc 3 false (.cons (.ix (.var 10) (.var 8)) .no)) .no)))
 (.seq (.ret (.k (.bl false)))
 .skip)
 .skip)
 (.seq (.ite (.nt (.fc 2 false (.cons (.lst false (.cons (.ew (.ix (.var 10) (.var 8))) (.cons (.ep (.ix (.var 10) (.var 8))) .no))) (.cons (.ix (.lst false (.cons (.lst false (.cons (.var 9) (.cons (.var 4) .no))) (.cons (.lst false (.cons (.var 9) (.cons (.k .non) .no))) (.cons (.lst false (.cons (.bin .add false (.var 9) (.k (.str [121]))) (.cons (.k .non) .no))) .no)))) (.var 8)) .no))))
 (.seq (.ret (.k (.bl false)))
 .skip)
 .skip)
 .skip)))
 (.seq (.asg (.var 11) (.lst false (.cons (.mx1 12 (.var 4)) (.cons (.my2 0 (.var 9) (.var 4)) .no))))
 (.seq (.ret (.an (.bi .all false (.cons (.lc false [12] (.var 12) (.itr (.var 11)) .no (.fc 2 false (.cons (.ep (.var 12)) (.cons (.var 4) .no)))) .no)) (.fc 2 false (.cons (.ew (.ix (.var 11) (.k (.int 1)))) (.cons (.var 9) .no)))))
 .skip)))))))))))))
set_option maxHeartbeats 0 in
theorem lawE_run {T : Tb} {n f : Nat} {ns : List Int} (hf : T.fns[f]? = some ⟨13, 1, [], lawEB⟩) (R : Runs98 (calN T n)) : ((calN T (n + 1)).fn f false [.kl (ns.map D.int)] []).sat fun d st => d = .bl true ∧ st = [] := by
  rw [calN_fn]
  refine run_sat hf rfl ?_
  generalize calN T n = C at R
  have b0 := R.E.bare
  have k0 := R.E.err 0 (by decide)
  have k12 := R.E.err 12 (by decide)
  have w12 : C.word 12 = some [66, 97, 100, 76, 105, 110, 101] := R.E.word (12, [66, 97, 100, 76, 105, 110, 101]) (by simp [ow])
  unfold lawEB
  walk_at "mp"
  refine R.deck ns _ ?_
  intro o ho
  walk_at "mp"
  refine R.draw [] o 1000000 _ ho (by decide) (by decide) ?_
  intro i o1 ho1 hi hi'
  walk_at "mp"
  refine R.draw [] o1 12 _ ho1 (by decide) (by decide) ?_
  intro v o2 ho2 hv hv'
  refine ix_lst hv hv' ?_
  intro p hpm
  have hp : Pl p := place_ok hi hi' hpm
  walk_at "mp"
  refine R.words _ _ ?_
  walk_at "mp"
  refine R.made _ p _ hp ?_
  walk_at "mp"
  refine R.bare _ _ ?_
  walk_at "mp"
  refine f_inv (I := fun dn rest env st => st = [o2] ∧ rest = rangeL (dn.length : Int) (16 - dn.length) ∧ dn.length ≤ 16 ∧ ∃ (a b c y : Option D), env = [a, some (.loc 0), b, c, some p, some (.lst (ow.map fun q => .str q.2)), some (.lst (ow.map fun q => .exc q.1 (.str q.2) p)), some (.lst (ow.map fun q => .exc q.1 (.str q.2) .non)), y, none, none, none, none]) ?_ ?_ ?_ (rangeL 0 16) [] _ _ ⟨rfl, rfl, Nat.zero_le _, _, _, _, _, rfl⟩
  · rintro _ _ _ _ ⟨rfl, _⟩; rfl
  · rintro dn x rest env st ⟨rfl, hr, hd, a, b, c, y, rfl⟩
    obtain ⟨m, hm⟩ : ∃ m, 16 - dn.length = m + 1 := by
      rcases hk : 16 - dn.length with _ | m
      · rw [hk] at hr; exact (nomatch hr)
      · exact ⟨m, rfl⟩
    rw [hm] at hr
    simp only [rangeL, List.cons.injEq] at hr
    obtain ⟨rfl, rfl⟩ := hr
    have hlen : dn.length < ow.length := by show dn.length < 16; omega
    have hmem : ow[dn.length] ∈ ow := List.getElem_mem hlen
    refine ⟨_, rfl, ?_⟩
    walk_at "mp"
    refine ix_lstAt (at_map hlen) ?_
    walk_at "mp"
    refine ix_lstAt (at_map hlen) ?_
    walk_at "mp"
    refine R.isErr _ _ p _ hmem hp ?_
    walk_at "mp"
    refine ix_lstAt (at_map hlen) ?_
    walk_at "mp"
    refine ix_lstAt (at_map hlen) ?_
    walk_at "mp"
    refine R.isErr _ _ .non _ hmem pl_non ?_
    walk_at "mp"
    refine ⟨rfl, ?_, by simp; omega, _, _, _, _, rfl⟩
    rw [show 16 - (dn ++ [D.int dn.length]).length = m from by simp; omega]
    simp
  rintro dn env st ⟨rfl, hr, hd, a, b, c, y, rfl⟩
  walk_at "mp"
  refine R.draw [] o2 16 _ ho2 (by decide) (by decide) ?_
  intro v2 o3 ho3 hv2 hv2'
  refine ix_lst hv2 hv2' ?_
  intro x hx
  simp only [List.mem_map] at hx
  obtain ⟨q, hq, rfl⟩ := hx
  obtain ⟨hlt, hch, hql⟩ := ow_lt q hq
  walk_at "mp"
  refine R.draw [] o3 2 _ ho3 (by decide) (by decide) ?_
  intro v3 o4 ho4 hv3 hv3'
  refine ix_lst hv3 hv3' ?_
  intro x hx
  obtain ⟨t, rfl, ht1, ht2⟩ : ∃ t : List Nat, x = .str t ∧ t.length ≤ 1 ∧ ∀ c ∈ t, c < 1114112 := by
    simp only [List.mem_cons, List.not_mem_nil, or_false] at hx
    rcases hx with rfl | rfl
    · exact ⟨[], rfl, by decide, by decide⟩
    · exact ⟨[120], rfl, by decide, by decide⟩
  refine s_cat (by omega) ?_
  have hw1 : (q.2 ++ t).length ≤ 50 := by simp; omega
  have hw2 : ∀ c ∈ q.2 ++ t, c < 1114112 := by
    intro c hc
    rcases List.mem_append.1 hc with h | h
    · exact hch c h
    · exact ht2 c h
  generalize q.2 ++ t = w at hw1 hw2
  have hy1 : (w ++ [121]).length ≤ 51 := by simp; omega
  have hy2 : ∀ c ∈ w ++ [121], c < 1114112 := by
    intro c hc
    rcases List.mem_append.1 hc with h | h
    · exact hw2 c h
    · simp at h; omega
  walk_at "mp"
  refine s_cat (by simp; omega) ?_
  walk_at "mp"
  refine f_inv (I := fun dn rest env st => st = [o4] ∧ rest = rangeL (dn.length : Int) (3 - dn.length) ∧ dn.length ≤ 3 ∧ ∃ (a1 a2 a3 a5 a6 a7 y : Option D), env = [a1, some (.loc 0), a2, a3, some p, a5, a6, a7, y, some (.str w), some (.lst [.exc 0 (.str w) p, .exc 0 (.str w) .non, .exc 0 (.str (w ++ [121])) .non]), none, none]) ?_ ?_ ?_ (rangeL 0 3) [] _ _ ⟨rfl, rfl, Nat.zero_le _, _, _, _, _, _, _, _, rfl⟩
  · rintro _ _ _ _ ⟨rfl, _⟩; rfl
  · rintro dn x rest env st ⟨rfl, hr, hd, a1, a2, a3, a5, a6, a7, y, rfl⟩
    obtain ⟨m, hm⟩ : ∃ m, 3 - dn.length = m + 1 := by
      rcases hk : 3 - dn.length with _ | m
      · rw [hk] at hr; exact (nomatch hr)
      · exact ⟨m, rfl⟩
    rw [hm] at hr
    simp only [rangeL, List.cons.injEq] at hr
    obtain ⟨rfl, rfl⟩ := hr
    obtain ⟨w', p', hp', hx1, hx2, hc1, hc2⟩ : ∃ (w' : List Nat) (p' : D), Pl p' ∧ at? [D.exc 0 (.str w) p, .exc 0 (.str w) .non, .exc 0 (.str (w ++ [121])) .non] (dn.length : Int) = some (.exc 0 (.str w') p') ∧ at? [D.lst [.str w, p], .lst [.str w, .non], .lst [.str (w ++ [121]), .non]] (dn.length : Int) = some (.lst [.str w', p']) ∧ w'.length ≤ 100 ∧ ∀ c ∈ w', c < 1114112 := by
      have h3 : dn.length = 0 ∨ dn.length = 1 ∨ dn.length = 2 := by omega
      rcases h3 with e | e | e <;> rw [e]
      · exact ⟨w, p, hp, rfl, rfl, by omega, hw2⟩
      · exact ⟨w, .non, pl_non, rfl, rfl, by omega, hw2⟩
      · exact ⟨w ++ [121], .non, pl_non, rfl, rfl, by omega, hy2⟩
    refine ⟨_, rfl, ?_⟩
    walk_at "mp"
    refine ix_lstAt hx1 ?_
    refine ⟨_, _, _, rfl, k0, ?_⟩
    walk_at "mp"
    refine ix_lstAt hx1 ?_
    walk_at "mp"
    refine R.kinds _ _ _ _ _ (by decide) ?_
    walk_at "mp"
    refine ix_lstAt hx1 ?_
    refine ⟨_, _, _, rfl, k0, ?_⟩
    walk_at "mp"
    refine ix_lstAt hx1 ?_
    refine ⟨_, _, _, rfl, k0, ?_⟩
    walk_at "mp"
    refine s_cat (by simp; omega) ?_
    walk_at "mp"
    refine ix_lstAt hx2 ?_
    walk_at "mp"
    refine R.same _ _ _ 602 _ _ (deref_wp hp') (deref_wp hp') (shw_wp hc2 hc1 hp') (by decide) ?_
    walk_at "mp"
    refine ⟨rfl, ?_, by simp; omega, _, _, _, _, _, _, _, rfl⟩
    rw [show 3 - (dn ++ [D.int dn.length]).length = m from by simp; omega]
    simp
  rintro dn env st ⟨rfl, hr, hd, a1, a2, a3, a5, a6, a7, y, rfl⟩
  walk_at "mp"
  refine c_map (fun _ => .bl true) _ rfl ?_ ?_
  · intro d hd
    have hd2 : ∃ c w'', d = .exc c (.str w'') p ∧ C.err c = true := by
      simp only [List.mem_cons, List.not_mem_nil, or_false] at hd
      rcases hd with rfl | rfl
      · exact ⟨12, _, rfl, k12⟩
      · exact ⟨0, _, rfl, k0⟩
    obtain ⟨c, w'', rfl, hc⟩ := hd2
    refine ⟨_, rfl, ?_⟩
    walk_at "mp"
    refine ⟨_, _, _, rfl, hc, ?_⟩
    walk_at "mp"
    exact R.same _ _ p 300 _ _ (hp.dr _ 3) (hp.dr _ 3) (hp.sh 3) (by decide) ⟨rfl, rfl⟩
  · walk_at "mp"
    refine ⟨_, _, _, rfl, k0, ?_⟩
    walk_at "mp"
    refine R.same _ _ (.str w) 50 _ _ rfl rfl (by rw [pyd_str]; exact shw_str hw2 hw1) (by decide) ?_
    refine leave_f (d' := .bl true) rfl ?_
    exact ⟨rfl, strunc_0 _⟩
end MP

set_option autoImplicit false
set_option linter.all false
set_option Elab.async false
set_option maxRecDepth 100000
set_option maxHeartbeats 0
namespace MPk
open PySem MP
open MP.ME MP.MS
def top (i : Nat) : PySem.Stmt := PySem.Challenge.pw_takenapart_k98_errors_stand_apart.main.body.getD i (.Pass ⟨0, 0, 0, 0⟩)
/-- law: 0 script, 1 deck, 2 number, 3 places, 4 place, 5 words, 6 made, 7 bare, 8 k, 9 word, 10 plain, 11 named, 12 error -/
def b_law : MS := (.seq (.asg (.var 1) (.fc 1 true (.cons (.var 0) .no)))
 (.seq (.asg (.var 2) (.fc 4 false (.cons (.var 1) (.cons (.k (.int 1000000)) .no))))
 (.seq (.asg (.var 3) (.lst false (.cons (.k .non) (.cons (.k (.int 0)) (.cons (.var 2) (.cons (.neg (.var 2)) (.cons (.k (.str [97])) (.cons (.k (.str [])) (.cons (.tup (.cons (.k (.str [97])) (.cons (.k (.int 3)) .no))) (.cons (.lst false (.cons (.k (.int 1)) (.cons (.k (.str [98])) .no))) (.cons (.tup .no) (.cons (.k (.bl true)) (.cons (.tup (.cons (.k (.str [97])) (.cons (.tup (.cons (.k (.int 1)) (.cons (.lst false (.cons (.k (.str [98])) .no)) .no))) .no))) (.cons (.k (.int 1000)) .no))))))))))))))
 (.seq (.asg (.var 4) (.ix (.var 3) (.fc 4 false (.cons (.var 1) (.cons (.k (.int 12)) .no)))))
 (.seq (.asg (.var 5) (.fc 5 false .no))
 (.seq (.asg (.var 6) (.fc 6 false (.cons (.var 4) .no)))
 (.seq (.asg (.var 7) (.fc 7 false .no))
 (.seq (.fr (.var 8) (.rng1 (.bi .len false (.cons (.var 5) .no)))
 (.seq (.ite (.or (.nt (.fc 8 false (.cons (.ix (.var 6) (.var 8)) (.cons (.ix (.var 5) (.var 8)) (.cons (.var 4) .no))))) (.nt (.fc 8 false (.cons (.ix (.var 7) (.var 8)) (.cons (.ix (.var 5) (.var 8)) (.cons (.k .non) .no))))))
 (.seq (.ret (.k (.bl false)))
 .skip)
 .skip)
 .skip))
 (.seq (.asg (.var 9) (.bin .add false (.ix (.var 5) (.fc 4 false (.cons (.var 1) (.cons (.k (.int 16)) .no)))) (.ix (.lst false (.cons (.k (.str [])) (.cons (.k (.str [120])) .no))) (.fc 4 false (.cons (.var 1) (.cons (.k (.int 2)) .no))))))
 (.seq (.asg (.var 10) (.lst false (.cons (.my2 0 (.var 9) (.var 4)) (.cons (.my1 0 (.var 9)) (.cons (.my2 0 (.bin .add false (.var 9) (.k (.str [121]))) (.k .non)) .no)))))
 (.seq (.fr (.var 8) (.rng1 (.k (.int 3)))
 (.seq (.ite (.or (.nt (.ev (.ix (.var 10) (.var 8)))) (.bi .any false (.cons (.fc 3 false (.cons (.ix (.var 10) (.var 8)) .no)) .no)))
 (.seq (.ret (.k (.bl false)))
 .skip)
 .skip)
 (.seq (.ite (.nt (.fc 2 false (.cons (.lst false (.cons (.ew (.ix (.var 10) (.var 8))) (.cons (.ep (.ix (.var 10) (.var 8))) .no))) (.cons (.ix (.lst false (.cons (.lst false (.cons (.var 9) (.cons (.var 4) .no))) (.cons (.lst false (.cons (.var 9) (.cons (.k .non) .no))) (.cons (.lst false (.cons (.bin .add false (.var 9) (.k (.str [121]))) (.cons (.k .non) .no))) .no)))) (.var 8)) .no))))
 (.seq (.ret (.k (.bl false)))
 .skip)
 .skip)
 .skip)))
 (.seq (.asg (.var 11) (.lst false (.cons (.mx1 12 (.var 4)) (.cons (.my2 0 (.var 9) (.var 4)) .no))))
 (.seq (.ret (.an (.bi .all false (.cons (.lc false [12] (.var 12) (.itr (.var 11)) .no (.fc 2 false (.cons (.ep (.var 12)) (.cons (.var 4) .no)))) .no)) (.fc 2 false (.cons (.ew (.ix (.var 11) (.k (.int 1)))) (.cons (.var 9) .no)))))
 .skip)))))))))))))
def f_law : Fn := ⟨13, 1, [], b_law⟩
/-- _law_deck: 0 script, 1 seed, 2 cell -/
def b__law_deck : MS := (.seq (.asg (.var 1) (.k (.int 7)))
 (.seq (.fr (.var 2) (.itr (.var 0))
 (.seq (.asg (.var 1) (.bin .mod false (.bi .int false (.cons (.bin .add false (.bin .mul false (.var 1) (.k (.int 48271))) (.var 2)) .no)) (.k (.int 2147483647))))
 .skip))
 (.seq (.ret (.lst true (.cons (.k (.int 0)) (.cons (.k (.int 0)) (.cons (.var 1) (.cons (.bi .list false (.cons (.var 0) .no)) (.cons (.k (.int 0)) .no)))))))
 .skip)))
def f__law_deck : Fn := ⟨3, 1, [], b__law_deck⟩
/-- _law_same: 0 value, 1 due -/
def b__law_same : MS := (.seq (.ret (.cmp .eq (.bi .repr false (.cons (.var 0) .no)) (.bi .repr false (.cons (.var 1) .no))))
 .skip)
def f__law_same : Fn := ⟨2, 2, [], b__law_same⟩
/-- _law_kinds: 0 error, 1 found -/
def b__law_kinds : MS := (.seq (.asg (.var 1) (.lst false (.cons (.ei (.var 0) 1) (.cons (.ei (.var 0) 13) (.cons (.ei (.var 0) 9) .no)))))
 (.seq (.asg (.var 1) (.bin .add false (.var 1) (.lst false (.cons (.ei (.var 0) 12) (.cons (.ei (.var 0) 8) (.cons (.ei (.var 0) 2) .no))))))
 (.seq (.asg (.var 1) (.bin .add false (.var 1) (.lst false (.cons (.ei (.var 0) 7) (.cons (.ei (.var 0) 11) (.cons (.ei (.var 0) 3) .no))))))
 (.seq (.asg (.var 1) (.bin .add false (.var 1) (.lst false (.cons (.ei (.var 0) 10) (.cons (.ei (.var 0) 16) (.cons (.ei (.var 0) 15) .no))))))
 (.seq (.asg (.var 1) (.bin .add false (.var 1) (.lst false (.cons (.ei (.var 0) 5) (.cons (.ei (.var 0) 4) (.cons (.ei (.var 0) 14) .no))))))
 (.seq (.ret (.bin .add false (.var 1) (.lst false (.cons (.ei (.var 0) 6) .no))))
 .skip))))))
def f__law_kinds : Fn := ⟨2, 1, [], b__law_kinds⟩
/-- _law_draw: 0 deck, 1 bound, 2 value, 3 number -/
def b__law_draw : MS := (.seq (.ite (.an (.cmp .eq (.ix (.var 0) (.k (.int 0))) (.k (.int 0))) (.cmp .lt (.ix (.var 0) (.k (.int 1))) (.bi .len false (.cons (.ix (.var 0) (.k (.int 3))) .no))))
 (.seq (.sasg (.var 0) (.k (.int 0)) (.bi .abs false (.cons (.ix (.ix (.var 0) (.k (.int 3))) (.ix (.var 0) (.k (.int 1)))) .no)))
 (.seq (.sasg (.var 0) (.k (.int 1)) (.bin .add false (.ix (.var 0) (.k (.int 1))) (.k (.int 1))))
 .skip))
 (.seq (.ite (.cmp .eq (.ix (.var 0) (.k (.int 0))) (.k (.int 0)))
 (.seq (.sasg (.var 0) (.k (.int 4)) (.bin .add false (.ix (.var 0) (.k (.int 4))) (.k (.int 1))))
 (.seq (.asg (.var 3) (.bin .mod false (.bi .int false (.cons (.bin .add false (.bin .add false (.bin .mul false (.ix (.var 0) (.k (.int 2))) (.k (.int 48271))) (.bin .mul false (.ix (.var 0) (.k (.int 4))) (.k (.int 69621)))) (.k (.int 12345))) .no)) (.k (.int 2147483647))))
 (.seq (.asg (.var 3) (.bin .mod false (.bi .int false (.cons (.bin .add false (.bin .add false (.bin .mul false (.var 3) (.var 3)) (.bin .mul false (.k (.int 16807)) (.ix (.var 0) (.k (.int 4))))) (.k (.int 7))) .no)) (.k (.int 998244353))))
 (.seq (.asg (.var 3) (.bin .mod false (.bi .int false (.cons (.bin .add false (.bin .add false (.bin .mul false (.var 3) (.var 3)) (.bin .mul false (.k (.int 48271)) (.ix (.var 0) (.k (.int 4))))) (.ix (.var 0) (.k (.int 2)))) .no)) (.k (.int 2147483629))))
 (.seq (.sasg (.var 0) (.k (.int 0)) (.bin .fdiv false (.var 3) (.k (.int 13))))
 .skip)))))
 .skip)
 .skip))
 (.seq (.asg (.var 2) (.bin .mod false (.bi .int false (.cons (.ix (.var 0) (.k (.int 0))) .no)) (.var 1)))
 (.seq (.sasg (.var 0) (.k (.int 0)) (.bin .fdiv false (.ix (.var 0) (.k (.int 0))) (.var 1)))
 (.seq (.ret (.var 2))
 .skip))))
def f__law_draw : Fn := ⟨4, 2, [], b__law_draw⟩
/-- _law_words: 0 words -/
def b__law_words : MS := (.seq (.asg (.var 0) (.lst false (.cons (.k (.str [66, 97, 100, 67, 111, 117, 110, 116])) (.cons (.k (.str [66, 97, 100, 69, 100, 105, 116])) (.cons (.k (.str [66, 97, 100, 70, 105, 110, 101])) (.cons (.k (.str [66, 97, 100, 76, 105, 110, 101])) (.cons (.k (.str [66, 97, 100, 77, 111, 118, 101])) (.cons (.k (.str [66, 97, 100, 78, 97, 109, 101])) (.cons (.k (.str [66, 97, 100, 80, 108, 97, 99, 105, 110, 103])) (.cons (.k (.str [66, 97, 100, 83, 104, 97, 112, 101])) (.cons (.k (.str [66, 97, 100, 83, 111, 108, 105, 100])) .no)))))))))))
 (.seq (.ret (.bin .add false (.var 0) (.lst false (.cons (.k (.str [66, 97, 100, 83, 112, 101, 101, 100, 115])) (.cons (.k (.str [78, 111, 116, 104, 105, 110, 103, 84, 111, 82, 101, 100, 111])) (.cons (.k (.str [78, 111, 116, 104, 105, 110, 103, 84, 111, 85, 110, 100, 111])) (.cons (.k (.str [79, 118, 101, 114, 108, 97, 112])) (.cons (.k (.str [83, 97, 109, 101, 78, 97, 109, 101])) (.cons (.k (.str [84, 111, 111, 77, 97, 110, 121])) (.cons (.k (.str [85, 110, 107, 110, 111, 119, 110, 78, 97, 109, 101])) .no))))))))))
 .skip))
def f__law_words : Fn := ⟨1, 0, [], b__law_words⟩
/-- _law_made: 0 place, 1 found -/
def b__law_made : MS := (.seq (.asg (.var 1) (.lst false (.cons (.mx1 1 (.var 0)) (.cons (.mx1 13 (.var 0)) (.cons (.mx1 9 (.var 0)) (.cons (.mx1 12 (.var 0)) (.cons (.mx1 8 (.var 0)) (.cons (.mx1 2 (.var 0)) .no))))))))
 (.seq (.asg (.var 1) (.bin .add false (.var 1) (.lst false (.cons (.mx1 7 (.var 0)) (.cons (.mx1 11 (.var 0)) (.cons (.mx1 3 (.var 0)) (.cons (.mx1 10 (.var 0)) (.cons (.mx1 16 (.var 0)) .no))))))))
 (.seq (.asg (.var 1) (.bin .add false (.var 1) (.lst false (.cons (.mx1 15 (.var 0)) (.cons (.mx1 5 (.var 0)) (.cons (.mx1 4 (.var 0)) (.cons (.mx1 14 (.var 0)) .no)))))))
 (.seq (.ret (.bin .add false (.var 1) (.lst false (.cons (.mx1 6 (.var 0)) .no))))
 .skip))))
def f__law_made : Fn := ⟨2, 1, [], b__law_made⟩
/-- _law_bare: 0 found -/
def b__law_bare : MS := (.seq (.asg (.var 0) (.lst false (.cons (.mx0 1) (.cons (.mx0 13) (.cons (.mx0 9) (.cons (.mx0 12) (.cons (.mx0 8) (.cons (.mx0 2) (.cons (.mx0 7) (.cons (.mx0 11) (.cons (.mx0 3) .no)))))))))))
 (.seq (.asg (.var 0) (.bin .add false (.var 0) (.lst false (.cons (.mx0 10) (.cons (.mx0 16) (.cons (.mx0 15) (.cons (.mx0 5) (.cons (.mx0 4) (.cons (.mx0 14) (.cons (.mx0 6) .no))))))))))
 (.seq (.ret (.var 0))
 .skip)))
def f__law_bare : Fn := ⟨1, 0, [], b__law_bare⟩
/-- _law_is_error: 0 error, 1 word, 2 place, 3 other -/
def b__law_is_error : MS := (.seq (.ite (.or (.nt (.ei (.var 0) 0)) (.nt (.ev (.var 0))))
 (.seq (.ret (.k (.bl false)))
 .skip)
 .skip)
 (.seq (.ite (.nt (.fc 2 false (.cons (.fc 3 false (.cons (.var 0) .no)) (.cons (.lc false [3] (.var 3) (.itr (.fc 5 false .no)) .no (.cmp .eq (.var 3) (.var 1))) .no))))
 (.seq (.ret (.k (.bl false)))
 .skip)
 .skip)
 (.seq (.ret (.an (.fc 2 false (.cons (.ew (.var 0)) (.cons (.var 1) .no))) (.fc 2 false (.cons (.ep (.var 0)) (.cons (.var 2) .no)))))
 .skip)))
def f__law_is_error : Fn := ⟨4, 3, [], b__law_is_error⟩
def rows : List Row := [
  ⟨⟨("law", none), "law", "law", L2.defArgs (top 27), L2.defBody (top 27), L2.defScope (top 27), [], []⟩, ["script", "deck", "number", "places", "place", "words", "made", "bare", "k", "word", "plain", "named", "error"], f_law⟩,
  ⟨⟨("_law_deck", none), "_law_deck", "_law_deck", L2.defArgs (top 19), L2.defBody (top 19), L2.defScope (top 19), [], []⟩, ["script", "seed", "cell"], f__law_deck⟩,
  ⟨⟨("_law_same", none), "_law_same", "_law_same", L2.defArgs (top 21), L2.defBody (top 21), L2.defScope (top 21), [], []⟩, ["value", "due"], f__law_same⟩,
  ⟨⟨("_law_kinds", none), "_law_kinds", "_law_kinds", L2.defArgs (top 22), L2.defBody (top 22), L2.defScope (top 22), [], []⟩, ["error", "found"], f__law_kinds⟩,
  ⟨⟨("_law_draw", none), "_law_draw", "_law_draw", L2.defArgs (top 20), L2.defBody (top 20), L2.defScope (top 20), [], []⟩, ["deck", "bound", "value", "number"], f__law_draw⟩,
  ⟨⟨("_law_words", none), "_law_words", "_law_words", L2.defArgs (top 23), L2.defBody (top 23), L2.defScope (top 23), [], []⟩, ["words"], f__law_words⟩,
  ⟨⟨("_law_made", none), "_law_made", "_law_made", L2.defArgs (top 24), L2.defBody (top 24), L2.defScope (top 24), [], []⟩, ["place", "found"], f__law_made⟩,
  ⟨⟨("_law_bare", none), "_law_bare", "_law_bare", L2.defArgs (top 25), L2.defBody (top 25), L2.defScope (top 25), [], []⟩, ["found"], f__law_bare⟩,
  ⟨⟨("_law_is_error", none), "_law_is_error", "_law_is_error", L2.defArgs (top 26), L2.defBody (top 26), L2.defScope (top 26), [], []⟩, ["error", "word", "place", "other"], f__law_is_error⟩]
def G : List (PySem.Str × GK) := [(("law" : PySem.Str), GK.fn 0), (("_law_deck" : PySem.Str), GK.fn 1), (("_law_same" : PySem.Str), GK.fn 2), (("_law_kinds" : PySem.Str), GK.fn 3), (("_law_draw" : PySem.Str), GK.fn 4), (("_law_words" : PySem.Str), GK.fn 5), (("_law_made" : PySem.Str), GK.fn 6), (("_law_bare" : PySem.Str), GK.fn 7), (("_law_is_error" : PySem.Str), GK.fn 8), (("PieceError" : PySem.Str), GK.cls 0), (("BadCount" : PySem.Str), GK.cls 1), (("BadName" : PySem.Str), GK.cls 2), (("BadSolid" : PySem.Str), GK.cls 3), (("SameName" : PySem.Str), GK.cls 4), (("Overlap" : PySem.Str), GK.cls 5), (("UnknownName" : PySem.Str), GK.cls 6), (("BadPlacing" : PySem.Str), GK.cls 7), (("BadMove" : PySem.Str), GK.cls 8), (("BadFine" : PySem.Str), GK.cls 9), (("BadSpeeds" : PySem.Str), GK.cls 10), (("BadShape" : PySem.Str), GK.cls 11), (("BadLine" : PySem.Str), GK.cls 12), (("BadEdit" : PySem.Str), GK.cls 13), (("TooMany" : PySem.Str), GK.cls 14), (("NothingToUndo" : PySem.Str), GK.cls 15), (("NothingToRedo" : PySem.Str), GK.cls 16), (("len" : PySem.Str), GK.bi), (("abs" : PySem.Str), GK.bi), (("all" : PySem.Str), GK.bi), (("any" : PySem.Str), GK.bi), (("int" : PySem.Str), GK.bi), (("repr" : PySem.Str), GK.bi), (("list" : PySem.Str), GK.bi), (("isinstance" : PySem.Str), GK.bi), (("range" : PySem.Str), GK.bi), (("ValueError" : PySem.Str), GK.bi)]
def cinf : List CI := [⟨"PieceError", []⟩, ⟨"BadCount", []⟩, ⟨"BadName", []⟩, ⟨"BadSolid", []⟩, ⟨"SameName", []⟩, ⟨"Overlap", []⟩, ⟨"UnknownName", []⟩, ⟨"BadPlacing", []⟩, ⟨"BadMove", []⟩, ⟨"BadFine", []⟩, ⟨"BadSpeeds", []⟩, ⟨"BadShape", []⟩, ⟨"BadLine", []⟩, ⟨"BadEdit", []⟩, ⟨"TooMany", []⟩, ⟨"NothingToUndo", []⟩, ⟨"NothingToRedo", []⟩]
def ctop (i j : Nat) : PySem.Stmt := match top i with
  | .ClassDef (body := b) .. => b.getD j (.Pass ⟨0, 0, 0, 0⟩)
  | _ => .Pass ⟨0, 0, 0, 0⟩
def crs : List CRow := [
  ⟨"PieceError", true, [0], none, some ⟨("PieceError", some "__init__"), "__init__", "PieceError.__init__", L2.defArgs (ctop 1 0), L2.defBody (ctop 1 0), L2.defScope (ctop 1 0), [.non], []⟩⟩,
  ⟨"BadCount", true, [1, 0], some ⟨[66, 97, 100, 67, 111, 117, 110, 116], "PieceError", ⟨("BadCount", some "__init__"), "__init__", "BadCount.__init__", L2.defArgs (ctop 2 0), L2.defBody (ctop 2 0), L2.defScope (ctop 2 0), [.non], []⟩, ⟨("PieceError", some "__init__"), "__init__", "PieceError.__init__", L2.defArgs (ctop 1 0), L2.defBody (ctop 1 0), L2.defScope (ctop 1 0), [.non], []⟩⟩, none⟩,
  ⟨"BadName", true, [2, 0], some ⟨[66, 97, 100, 78, 97, 109, 101], "PieceError", ⟨("BadName", some "__init__"), "__init__", "BadName.__init__", L2.defArgs (ctop 3 0), L2.defBody (ctop 3 0), L2.defScope (ctop 3 0), [.non], []⟩, ⟨("PieceError", some "__init__"), "__init__", "PieceError.__init__", L2.defArgs (ctop 1 0), L2.defBody (ctop 1 0), L2.defScope (ctop 1 0), [.non], []⟩⟩, none⟩,
  ⟨"BadSolid", true, [3, 0], some ⟨[66, 97, 100, 83, 111, 108, 105, 100], "PieceError", ⟨("BadSolid", some "__init__"), "__init__", "BadSolid.__init__", L2.defArgs (ctop 4 0), L2.defBody (ctop 4 0), L2.defScope (ctop 4 0), [.non], []⟩, ⟨("PieceError", some "__init__"), "__init__", "PieceError.__init__", L2.defArgs (ctop 1 0), L2.defBody (ctop 1 0), L2.defScope (ctop 1 0), [.non], []⟩⟩, none⟩,
  ⟨"SameName", true, [4, 0], some ⟨[83, 97, 109, 101, 78, 97, 109, 101], "PieceError", ⟨("SameName", some "__init__"), "__init__", "SameName.__init__", L2.defArgs (ctop 5 0), L2.defBody (ctop 5 0), L2.defScope (ctop 5 0), [.non], []⟩, ⟨("PieceError", some "__init__"), "__init__", "PieceError.__init__", L2.defArgs (ctop 1 0), L2.defBody (ctop 1 0), L2.defScope (ctop 1 0), [.non], []⟩⟩, none⟩,
  ⟨"Overlap", true, [5, 0], some ⟨[79, 118, 101, 114, 108, 97, 112], "PieceError", ⟨("Overlap", some "__init__"), "__init__", "Overlap.__init__", L2.defArgs (ctop 6 0), L2.defBody (ctop 6 0), L2.defScope (ctop 6 0), [.non], []⟩, ⟨("PieceError", some "__init__"), "__init__", "PieceError.__init__", L2.defArgs (ctop 1 0), L2.defBody (ctop 1 0), L2.defScope (ctop 1 0), [.non], []⟩⟩, none⟩,
  ⟨"UnknownName", true, [6, 0], some ⟨[85, 110, 107, 110, 111, 119, 110, 78, 97, 109, 101], "PieceError", ⟨("UnknownName", some "__init__"), "__init__", "UnknownName.__init__", L2.defArgs (ctop 7 0), L2.defBody (ctop 7 0), L2.defScope (ctop 7 0), [.non], []⟩, ⟨("PieceError", some "__init__"), "__init__", "PieceError.__init__", L2.defArgs (ctop 1 0), L2.defBody (ctop 1 0), L2.defScope (ctop 1 0), [.non], []⟩⟩, none⟩,
  ⟨"BadPlacing", true, [7, 0], some ⟨[66, 97, 100, 80, 108, 97, 99, 105, 110, 103], "PieceError", ⟨("BadPlacing", some "__init__"), "__init__", "BadPlacing.__init__", L2.defArgs (ctop 8 0), L2.defBody (ctop 8 0), L2.defScope (ctop 8 0), [.non], []⟩, ⟨("PieceError", some "__init__"), "__init__", "PieceError.__init__", L2.defArgs (ctop 1 0), L2.defBody (ctop 1 0), L2.defScope (ctop 1 0), [.non], []⟩⟩, none⟩,
  ⟨"BadMove", true, [8, 0], some ⟨[66, 97, 100, 77, 111, 118, 101], "PieceError", ⟨("BadMove", some "__init__"), "__init__", "BadMove.__init__", L2.defArgs (ctop 9 0), L2.defBody (ctop 9 0), L2.defScope (ctop 9 0), [.non], []⟩, ⟨("PieceError", some "__init__"), "__init__", "PieceError.__init__", L2.defArgs (ctop 1 0), L2.defBody (ctop 1 0), L2.defScope (ctop 1 0), [.non], []⟩⟩, none⟩,
  ⟨"BadFine", true, [9, 0], some ⟨[66, 97, 100, 70, 105, 110, 101], "PieceError", ⟨("BadFine", some "__init__"), "__init__", "BadFine.__init__", L2.defArgs (ctop 10 0), L2.defBody (ctop 10 0), L2.defScope (ctop 10 0), [.non], []⟩, ⟨("PieceError", some "__init__"), "__init__", "PieceError.__init__", L2.defArgs (ctop 1 0), L2.defBody (ctop 1 0), L2.defScope (ctop 1 0), [.non], []⟩⟩, none⟩,
  ⟨"BadSpeeds", true, [10, 0], some ⟨[66, 97, 100, 83, 112, 101, 101, 100, 115], "PieceError", ⟨("BadSpeeds", some "__init__"), "__init__", "BadSpeeds.__init__", L2.defArgs (ctop 11 0), L2.defBody (ctop 11 0), L2.defScope (ctop 11 0), [.non], []⟩, ⟨("PieceError", some "__init__"), "__init__", "PieceError.__init__", L2.defArgs (ctop 1 0), L2.defBody (ctop 1 0), L2.defScope (ctop 1 0), [.non], []⟩⟩, none⟩,
  ⟨"BadShape", true, [11, 0], some ⟨[66, 97, 100, 83, 104, 97, 112, 101], "PieceError", ⟨("BadShape", some "__init__"), "__init__", "BadShape.__init__", L2.defArgs (ctop 12 0), L2.defBody (ctop 12 0), L2.defScope (ctop 12 0), [.non], []⟩, ⟨("PieceError", some "__init__"), "__init__", "PieceError.__init__", L2.defArgs (ctop 1 0), L2.defBody (ctop 1 0), L2.defScope (ctop 1 0), [.non], []⟩⟩, none⟩,
  ⟨"BadLine", true, [12, 0], some ⟨[66, 97, 100, 76, 105, 110, 101], "PieceError", ⟨("BadLine", some "__init__"), "__init__", "BadLine.__init__", L2.defArgs (ctop 13 0), L2.defBody (ctop 13 0), L2.defScope (ctop 13 0), [.non], []⟩, ⟨("PieceError", some "__init__"), "__init__", "PieceError.__init__", L2.defArgs (ctop 1 0), L2.defBody (ctop 1 0), L2.defScope (ctop 1 0), [.non], []⟩⟩, none⟩,
  ⟨"BadEdit", true, [13, 0], some ⟨[66, 97, 100, 69, 100, 105, 116], "PieceError", ⟨("BadEdit", some "__init__"), "__init__", "BadEdit.__init__", L2.defArgs (ctop 14 0), L2.defBody (ctop 14 0), L2.defScope (ctop 14 0), [.non], []⟩, ⟨("PieceError", some "__init__"), "__init__", "PieceError.__init__", L2.defArgs (ctop 1 0), L2.defBody (ctop 1 0), L2.defScope (ctop 1 0), [.non], []⟩⟩, none⟩,
  ⟨"TooMany", true, [14, 0], some ⟨[84, 111, 111, 77, 97, 110, 121], "PieceError", ⟨("TooMany", some "__init__"), "__init__", "TooMany.__init__", L2.defArgs (ctop 15 0), L2.defBody (ctop 15 0), L2.defScope (ctop 15 0), [.non], []⟩, ⟨("PieceError", some "__init__"), "__init__", "PieceError.__init__", L2.defArgs (ctop 1 0), L2.defBody (ctop 1 0), L2.defScope (ctop 1 0), [.non], []⟩⟩, none⟩,
  ⟨"NothingToUndo", true, [15, 0], some ⟨[78, 111, 116, 104, 105, 110, 103, 84, 111, 85, 110, 100, 111], "PieceError", ⟨("NothingToUndo", some "__init__"), "__init__", "NothingToUndo.__init__", L2.defArgs (ctop 16 0), L2.defBody (ctop 16 0), L2.defScope (ctop 16 0), [.non], []⟩, ⟨("PieceError", some "__init__"), "__init__", "PieceError.__init__", L2.defArgs (ctop 1 0), L2.defBody (ctop 1 0), L2.defScope (ctop 1 0), [.non], []⟩⟩, none⟩,
  ⟨"NothingToRedo", true, [16, 0], some ⟨[78, 111, 116, 104, 105, 110, 103, 84, 111, 82, 101, 100, 111], "PieceError", ⟨("NothingToRedo", some "__init__"), "__init__", "NothingToRedo.__init__", L2.defArgs (ctop 17 0), L2.defBody (ctop 17 0), L2.defScope (ctop 17 0), [.non], []⟩, ⟨("PieceError", some "__init__"), "__init__", "PieceError.__init__", L2.defArgs (ctop 1 0), L2.defBody (ctop 1 0), L2.defScope (ctop 1 0), [.non], []⟩⟩, none⟩]
def globs : List D := []
def loose : List PySem.Str := (["__name__", "PieceError", "BadCount", "BadName", "BadSolid", "SameName", "Overlap", "UnknownName", "BadPlacing", "BadMove", "BadFine", "BadSpeeds", "BadShape", "BadLine", "BadEdit", "TooMany", "NothingToUndo", "NothingToRedo", "_law_deck", "_law_draw", "_law_same", "_law_kinds", "_law_words", "_law_made", "_law_bare", "_law_is_error"] : List PySem.Str)
abbrev R : PySem.W.OpenRow := PySem.W.OpenLaw.row PySem.Challenge.rw_takenapart_k98_errors_stand_apart
abbrev hk : PySem.W.Hook := hookM 5 (faOf G) (defsOf rows crs) (csOf G globs) (crB crs)
def ob (s : PySem.W.SharedT) : He.AlD := obsMG 5 (faOf G) (defsOf rows crs) (csOf G globs) (crB crs) (HandSHeadRun.getT s)
theorem ob_eq (s : PySem.W.SharedT) : ob s = hk.obs s.abs := obsMG_eq (HandSHeadRun.getT_eq s)
theorem run (w : PySem.World) : HandSHeadRun.RunEq R (PySem.W.view R.prog [27]) hk ob 20000 loose w := by
  intro os
  kernel_rfl
theorem rows_ok : rows.all (rowB G cinf) = true := by kernel_rfl
theorem g_ok : gB G rows crs = true := by kernel_rfl
theorem c_ok : crsB crs = true := by kernel_rfl
end MPk

set_option autoImplicit false
set_option linter.all false
set_option Elab.async false
set_option maxRecDepth 100000
set_option maxHeartbeats 0
namespace MPk
open PySem MP
theorem errT (n : Nat) : ErrT (calN (tbOf rows crs globs) n) where
  err := by rw [calN_err]; decide +kernel
  isa := by rw [calN_isa]; decide +kernel
  word := by rw [calN_word]; decide +kernel
  bare := by rw [calN_bare]; decide +kernel
theorem law_ok (ns : List Int) : (calN (tbOf rows crs globs) 6).fn 0 false [.kl (ns.map .int)] [] = .ok (.bl true) [] := by
  have R : Runs98 (calN (tbOf rows crs globs) 5) := {
    deck := fun ns P h => deck_run (n := 4) rfl h
    draw := draws (n := 4) rfl
    same := same_run (n := 4) rfl
    kinds := kinds_run (n := 4) rfl (errT 4)
    words := words_run (n := 4) rfl
    made := made_run (n := 4) rfl (errT 4)
    bare := bare_run (n := 4) rfl (errT 4)
    isErr := isErr_run (n := 4) rfl (errT 4) (same_run (n := 3) rfl) (kinds_run (n := 3) rfl (errT 3)) (words_run (n := 3) rfl)
    E := errT 5 }
  obtain ⟨d, st, e, rfl, rfl⟩ := Res.sat_eq (lawE_run (n := 5) (f := 0) (ns := ns) rfl R)
  exact e
end MPk
open PySem PySem.W PySem.Calls PyProof.Rows
theorem PySem.Challenge.cw_takenapart_k98_errors_stand_apart_holds : PySem.Challenge.rw_takenapart_k98_errors_stand_apart.Holds := by
  w_on; o_law
  refine HandSHeadRun.head_any (r := OpenLaw.row PySem.Challenge.rw_takenapart_k98_errors_stand_apart) (q := view (OpenLaw.row PySem.Challenge.rw_takenapart_k98_errors_stand_apart).prog [27]) (H := MPk.hk) (ob := MPk.ob) (M := 20000) (loose := MPk.loose) (d := HandSHeadRun.topDef (OpenLaw.row PySem.Challenge.rw_takenapart_k98_errors_stand_apart).prog 27) (kwd := []) MPk.ob_eq
    (by kernel_rfl) (fun s => by kernel_rfl) MPk.run (by kernel_rfl) (by kernel_rfl) (by kernel_rfl) (by rfl) (by first | assumption | decide +kernel) (by decide +kernel) ⟨rfl, rfl, rfl, rfl, rfl, by decide +kernel⟩ ?hw ?hc
  case hw => w_witness2
  case hc =>
    refine MP.walk_mp (l := PySem.Challenge.rw_takenapart_k98_errors_stand_apart) (most := 63) (n := 6) (f := 0) (T := MP.tbOf MPk.rows MPk.crs MPk.globs) (G := MPk.G) (cs := MPk.cinf) rfl (by decide) (by kernel_rfl) ⟨rfl, by decide, by decide⟩ ?F (fun ns _ => MPk.law_ok ns)
    intro w mg fa h Y G hmg0
    obtain ⟨K, KX, c⟩ := Y
    have M := MP.nameF MPk.rows_ok MPk.g_ok MPk.c_ok c KX G
    refine ⟨K, _, KX, M, ?_, rfl⟩
    obtain ⟨a, h1, h2, _⟩ := M.fnv ("law" : PySem.Str) 0 rfl
    have e : (HandSHeadRun.topDef (OpenLaw.row PySem.Challenge.rw_takenapart_k98_errors_stand_apart).prog 27).name = ("law" : PySem.Str) := by kernel_rfl
    rw [e] at hmg0
    rw [h1] at hmg0
    cases hmg0
    exact h2

