import PyProof.Rows.All
import Wide.All
import OpenK.AllK
import Wide.FinOn
import KE.SortKeyHeap
import KE.SortData
import HandS.ForMost
import HandS.ForExc
import HandS.HeadHook1
import HandS.HeadHook2
import HandS.ExcField
import HandS.IsInst
import HandS.ExcIs
import HandS.Wide
import HandS.More
import HandS.TupMul
import HandS.Text
import PyProof.StrOps2
import HandS.Flow
import HandS.TupAny
import HandS.Iter
import HandS.Comp
import HandS.WordsExc
import KE.GoesZip
import KE.GoesMore
import HandS.Zip
import HandS.Small
import HandS.NoneIn
import HandS.Strs
import HandS.Style
import HandS.SortOrd
import HandS.Defaults
import HandS.EndBits
import HandS.HeadEnd
import HandS.HeadHook3
import HandS.HeadHook4
import PyProof.StrLawsIn
import KE.KStateDown
import HandS.Head0
import HandS.Head1
import HandS.Head2
import Wide.Once
import PySem.Challenge.RW_goneday_k08_whole_deeds_that_go_together
set_option Elab.async false
set_option linter.all false
set_option maxRecDepth 100000
set_option maxHeartbeats 4000000
/-! Ev, part 1: values as trees, a store of shared mutable cells, a small language, and what its programs compute (a function). -/
namespace Ev
open PySem

abbrev Nm := List Nat
/-- a key of a dict: an int or a text -/
abbrev Ky := Sum Int Nm

/-- a value that never changes, or a number of a cell -/
inductive D where
  | non | bl (b : Bool) | int (i : Int) | str (x : Nm) | ref (a : Nat) | fn (k : Nat)
  | scr (ns : List Int) | tup (xs : List D) | lst (xs : List D) | dic (kvs : List (Ky × D)) | kdic (kvs : List (Nm × D)) | obj (c : String) (fs : List (String × D)) | exc (c : String) (fs : List (String × D))
  deriving Inhabited

/-- what may change -/
inductive Cell where
  | lst (xs : List D) | dct (kvs : List (Ky × D)) | obj (c : String) (fs : List (String × D))
def Cell.vw : Cell → D
  | .lst xs => .lst xs
  | .dct kvs => .dic kvs
  | .obj c fs => .obj c fs
/-- what a name holds: a value, or a thing of its own that may change and that nobody else sees -/
inductive W where
  | d (x : D) | own (c : Cell)
abbrev Sto := List Cell
abbrev Env := List (Option W)
def Env.get : Env → Nat → Option W
  | [], _ => none
  | x :: _, 0 => x
  | _ :: r, n + 1 => Env.get r n
def Env.put : Env → Nat → W → Env
  | [], _, _ => []
  | _ :: r, 0, d => some d :: r
  | x :: r, n + 1, d => x :: Env.put r n d
def Env.del : Env → Nat → Env
  | [], _ => []
  | _ :: r, 0 => none :: r
  | x :: r, n + 1 => x :: Env.del r n
def Env.dels (ρ : Env) : List Nat → Env
  | [] => ρ
  | i :: is => Env.dels (ρ.del i) is

/-- what comes out: a value, an exception, or nothing that is promised -/
inductive R (α : Type) where
  | ok (a : α) (S : Sto) | exc (e : D) (S : Sto) | bad
def R.bind {α β : Type} : R α → (α → Sto → R β) → R β
  | .ok a S, f => f a S
  | .exc e S, _ => .exc e S
  | .bad, _ => .bad
/-- .. none -/
def R.noexc {α : Type} : R α → R α
  | .exc _ _ => .bad
  | r => r
/-- a value that must be there -/
def R.of {α : Type} (S : Sto) : Option α → R α
  | some a => .ok a S
  | none => .bad
/-- behind a statement -/
inductive Fl where
  | nx (ρ : Env) | rt (w : W) | bk (ρ : Env) | ct (ρ : Env) | ex (e : D) (ρ : Env)
/-- an expression's exception is the statement's -/
def R.lift {α : Type} (ρ : Env) (r : R α) (f : α → Sto → R Fl) : R Fl := match r with
  | .ok a S => f a S
  | .exc e S => .ok (.ex e ρ) S
  | .bad => .bad
/-- behind a statement that went on -/
def R.nx (r : R Fl) (f : Env → Sto → R Fl) : R Fl := match r with
  | .ok (.nx ρ) S => f ρ S
  | r => r

abbrev Fn := Nat → List D → Sto → R W

/-- a cell's number is seen as what the cell holds -/
def vw (S : Sto) : D → D
  | .ref a => match S[a]? with
    | some c => c.vw
    | none => .ref a
  | d => d
def W.vw (S : Sto) : W → D
  | .d x => Ev.vw S x
  | .own c => c.vw

inductive Bop where
  | add | sub | mul | fdv | mod | pow | shr | band
inductive Cop where
  | eq | ne | lt | le | gt | ge | is | isn | inn | nin
inductive Blt where
  | len | sum | min | max | minO | any | all | int | str | abs | divmod | tup
inductive Mth where
  | get | index | count | upper | strip | partition
/-- changes of a list, a dict -/
inductive Mu where
  | append | extend | insert | pop | set | setdefault
inductive Sk where
  | seq | range | zip | enum

mutual
inductive Ex where
  | var (i : Nat)
  | cst (d : D)
  | glo (x : String) (d : D)
  | bin (o : Bop) (a b : Ex)
  | neg (a : Ex)
  | cmp (o : Cop) (a b : Ex)
  | chn (o o' : Cop) (a b c : Ex)
  | bop (isAnd : Bool) (es : List Ex)
  | not (a : Ex)
  | ife (c a b : Ex)
  | tup (es : List Ex)
  | idx (a i : Ex)
  | slc (a : Ex) (lo hi : List Ex)
  | rev (a : Ex)
  | call (f : Nat) (es : List Ex)
  | app (f : Ex) (es : List Ex)
  | blt (b : Blt) (es : List Ex)
  | mth (m : Mth) (o : Ex) (es : List Ex)
  | join (o a : Ex)
  | mut (m : Mu) (o : Ex) (es : List Ex)
  | isi (a : Ex) (cs : List String)
  | att (a : Ex) (f : String)
  | frz (n : Nw)
  | cel (n : Nw)
/-- what makes a new thing -/
inductive Nw where
  | lst (es : List Ex)
  | dic (es : List Ex)
  | comp (tg : List Nat) (k : Sk) (src : List Ex) (cond : List Ex) (elt : Ex)
  | cat (a b : Ex)
  | rep (a b : Ex)
  | slc (a : Ex) (lo hi : List Ex)
  | rev (a : Ex)
  | list (a : Ex)
  | range (es : List Ex)
  | sorted (a : Ex)
  | sortBy (f : Nat) (a : Ex)
  | sortSet (a : Ex)
  | dict (a : Ex)
  | split (o : Ex) (a : Ex)
  | make (c : String) (f : Nat) (es : List Ex)
  | call (f : Nat) (es : List Ex)
end
inductive Tg where
  | nm (i : Nat) | sub (o i : Ex) | osub (j : Nat) (i : Ex) | att (o : Ex) (f : String) | oatt (j : Nat) (f : String)
inductive St where
  | asg (t : Tg) (e : Ex)
  | unp (ts : List Tg) (e : Ex)
  | par (is : List Nat) (es : List Ex)
  | own (i : Nat) (n : Nw)
  | omut (i : Nat) (m : Mu) (es : List Ex)
  | opop (i : Nat) (e : Ex)
  | fz (i : Nat)
  | kill (is : List Nat)
  | exp (e : Ex)
  | ret (e : Ex)
  | retN
  | retO (i : Nat)
  | retF (i : Nat)
  | retW (n : Nw)
  | ifS (c : Ex) (a b : List St)
  | whl (c : Ex) (a : List St)
  | forS (tg : List Nat) (k : Sk) (src : List Ex) (a : List St)
  | pass | brk | cnt
  | rais (c : String) (fs : List String) (es : List Ex)
  | tryS (a : List St) (c : String) (n : List Nat) (b : List St)
structure Fd where
  ps : Nat
  nn : Nat
  body : List St
  /-- a class's __init__ -/
  ini : Option String := none

/-! ### operations -/
mutual
def eqv : D → D → Bool
  | .non, .non => true
  | .bl a, .bl b => a == b
  | .bl a, .int b => (if a then 1 else 0) == b
  | .int a, .bl b => a == (if b then 1 else 0)
  | .int a, .int b => a == b
  | .str a, .str b => a == b
  | .tup xs, .tup ys => eqvs xs ys
  | .lst xs, .lst ys => eqvs xs ys
  | _, _ => false
def eqvs : List D → List D → Bool
  | [], [] => true
  | x :: xs, y :: ys => eqv x y && eqvs xs ys
  | _, _ => false
end
/-! what == may compare: no cell, no dict, no object, no deeper than n -/
mutual
def okD : D → Nat → Bool
  | .non, _ => true
  | .bl _, _ => true
  | .int _, _ => true
  | .str _, _ => true
  | .tup xs, n => decide (0 < n) && okDs xs (n - 1)
  | .lst xs, n => decide (0 < n) && okDs xs (n - 1)
  | _, _ => false
def okDs : List D → Nat → Bool
  | [], _ => true
  | x :: xs, n => okD x n && okDs xs n
end
/-- data -/
def pl (d : D) : Bool := okD d 60
def pls (ds : List D) : Bool := okDs ds 60
mutual
def ltD : D → D → Option Bool
  | .int a, .int b => some (decide (a < b))
  | .str a, .str b => some (decide (a < b))
  | .tup xs, .tup ys => ltDs xs ys
  | _, _ => none
def ltDs : List D → List D → Option Bool
  | [], [] => some false
  | [], _ :: _ => some true
  | _ :: _, [] => some false
  | x :: xs, y :: ys => if eqv x y then ltDs xs ys else ltD x y
end
/-- all sizes that are promised -/
def szOk (n : Nat) : Bool := decide (n ≤ 16777216)
def mulOk (i j : Int) : Bool := decide (i.natAbs.log2 < 30000000) && decide (j.natAbs.log2 < 30000000)
def fdvOk (j : Int) : Bool := decide (0 < j) && decide (j < 1073741824)
def powOk (i j : Int) : Bool := decide (0 ≤ j) && decide (j ≤ 1000000) && decide (i.natAbs < 2 ^ 64)
def repOk (n : Nat) (j : Int) : Bool := szOk (n * j.toNat) && decide (-1000000 < j) && decide (j < 1000000)
def digs (i : Int) : Nm := (toString i).toList.map Char.toNat
def strOk (i : Int) : Bool := decide (i.natAbs < 2 ^ 1900) && szOk (digs i).length

def R.chk {α : Type} (b : Bool) (r : R α) : R α := if b = true then r else .bad

def binD (o : Bop) (x y : D) (S : Sto) : R D := match o, x, y with
  | .add, .int i, .int j => .ok (.int (i + j)) S
  | .sub, .int i, .int j => .ok (.int (i - j)) S
  | .mul, .int i, .int j => R.chk (mulOk i j) (.ok (.int (i * j)) S)
  | .fdv, .int i, .int j => R.chk (fdvOk j) (.ok (.int (i / j)) S)
  | .mod, .int i, .int j => R.chk (decide (0 < j)) (.ok (.int (i % j)) S)
  | .pow, .int i, .int j => R.chk (powOk i j) (.ok (.int (i ^ j.toNat)) S)
  | .shr, .int i, .int j => R.chk (decide (0 ≤ j)) (.ok (.int (i / 2 ^ j.toNat)) S)
  | .add, .str a, .str b => R.chk (szOk (a.length + b.length)) (.ok (.str (a ++ b)) S)
  | .add, .tup a, .tup b => R.chk (szOk (a.length + b.length)) (.ok (.tup (a ++ b)) S)
  | .band, .int i, .int j => R.chk (decide (0 ≤ i) && decide (j = 1)) (.ok (.int (i % 2)) S)
  | .mul, .str a, .int j => R.chk (repOk a.length j) (.ok (.str (List.replicate j.toNat a).flatten) S)
  | .mul, .tup a, .int j => R.chk (decide (2 ≤ j) && decide (j ≤ 1000) && decide (a.length ≤ 1000) && !a.isEmpty) (.ok (.tup (List.replicate j.toNat a).flatten) S)
  | _, _, _ => .bad

def dKy : D → Option Ky
  | .int i => some (.inl i)
  | .str x => some (.inr x)
  | _ => none
def kyD : Ky → D
  | .inl i => .int i
  | .inr x => .str x
def lookK {α : Type} : List (Ky × α) → Ky → Option α
  | [], _ => none
  | (k, v) :: r, q => if k = q then some v else lookK r q
def hasK {α : Type} (kvs : List (Ky × α)) (q : Ky) : Bool := kvs.any fun p => decide (p.1 = q)
def putK {α : Type} (kvs : List (Ky × α)) (q : Ky) (d : α) : List (Ky × α) := if hasK kvs q = true then kvs.map (fun p => if p.1 = q then (p.1, d) else p) else kvs ++ [(q, d)]
def delK {α : Type} (kvs : List (Ky × α)) (q : Ky) : List (Ky × α) := kvs.filter fun p => decide (p.1 ≠ q)
def lookN : List (Nm × D) → Nm → Option D
  | [], _ => none
  | (k, v) :: r, q => if k = q then some v else lookN r q
def lookF : List (String × D) → String → Option D
  | [], _ => none
  | (k, v) :: r, q => if k = q then some v else lookF r q
def putF : List (String × D) → String → D → List (String × D)
  | [], q, d => [(q, d)]
  | (k, v) :: r, q, d => if k = q then (k, d) :: r else (k, v) :: putF r q d

def isNon : D → Bool
  | .non => true
  | _ => false
/-- a stands in b -/
def subS (a b : Nm) : Bool := !(Builtin.Str.occurrences ⟨b.toArray⟩ ⟨a.toArray⟩ 0 b.length 1).isEmpty
/-- is it a tuple beside the empty one -/
def isT0 : D → D → Bool
  | .tup _, .tup [] => true
  | _, _ => false
def eqOk (x y : D) : Bool := isT0 x y || (pl x && pl y)
def cmpD (o : Cop) (x y : D) (S : Sto) : R Bool := match o with
  | .eq => R.chk (eqOk x y) (.ok (eqv x y) S)
  | .ne => R.chk (eqOk x y) (.ok (!eqv x y) S)
  | .lt => match x, y with
    | .int i, .int j => .ok (decide (i < j)) S
    | .str i, .str j => .ok (decide (i < j)) S
    | _, _ => .bad
  | .le => match x, y with
    | .int i, .int j => .ok (decide (i ≤ j)) S
    | .str i, .str j => .ok (!decide (j < i)) S
    | _, _ => .bad
  | .gt => match x, y with
    | .int i, .int j => .ok (decide (j < i)) S
    | .str i, .str j => .ok (decide (j < i)) S
    | _, _ => .bad
  | .ge => match x, y with
    | .int i, .int j => .ok (decide (j ≤ i)) S
    | .str i, .str j => .ok (!decide (i < j)) S
    | _, _ => .bad
  | .is => match y with
    | .non => .ok (isNon x) S
    | _ => .bad
  | .isn => match y with
    | .non => .ok (!isNon x) S
    | _ => .bad
  | .inn => match x, y with
    | x, .lst ys => R.chk (pl x && pls ys) (.ok (ys.any fun y => eqv y x) S)
    | x, .tup ys => R.chk (pl x && pls ys) (.ok (ys.any fun y => eqv y x) S)
    | .str a, .str b => .ok (subS a b) S
    | .int a, .dic kvs => .ok (lookK kvs (.inl a)).isSome S
    | .str a, .dic kvs => .ok (lookK kvs (.inr a)).isSome S
    | .str a, .kdic kvs => .ok (lookN kvs a).isSome S
    | _, _ => .bad
  | .nin => match x, y with
    | x, .lst ys => R.chk (pl x && pls ys) (.ok (!ys.any fun y => eqv y x) S)
    | x, .tup ys => R.chk (pl x && pls ys) (.ok (!ys.any fun y => eqv y x) S)
    | .str a, .str b => .ok (!subS a b) S
    | .int a, .dic kvs => .ok (!(lookK kvs (.inl a)).isSome) S
    | .str a, .dic kvs => .ok (!(lookK kvs (.inr a)).isSome) S
    | .str a, .kdic kvs => .ok (!(lookN kvs a).isSome) S
    | _, _ => .bad

/-- the item at a place, from behind where it is below 0 -/
def atI {α : Type} (xs : List α) (i : Int) : Option α := if 0 ≤ i then xs[i.toNat]? else if 0 ≤ i + xs.length then xs[(i + xs.length).toNat]? else none
def placeI (n : Nat) (i : Int) : Option Nat := if 0 ≤ i then (if i.toNat < n then some i.toNat else none) else if 0 ≤ i + n then some (i + n).toNat else none
def idxD (x i : D) (S : Sto) : R D := match x, i with
  | .lst xs, .int i => R.of S (atI xs i)
  | .tup xs, .int i => R.of S (atI xs i)
  | .scr ns, .int i => R.of S ((atI ns i).map .int)
  | .str z, .int i => R.of S ((atI z i).map fun c => .str [c])
  | .dic kvs, .int i => R.of S (lookK kvs (.inl i))
  | .dic kvs, .str i => R.of S (lookK kvs (.inr i))
  | .kdic kvs, .str i => R.of S (lookN kvs i)
  | _, _ => .bad

/-- where a slice begins or ends -/
def slcI (n : Nat) (dflt : Nat) : Option Int → Nat
  | none => dflt
  | some i => if i < 0 then (i + n).toNat else min i.toNat n
def cutL {α : Type} (xs : List α) (lo hi : Option Int) : List α := (xs.drop (slcI xs.length 0 lo)).take (slcI xs.length xs.length hi - slcI xs.length 0 lo)
def partD : List D → Option (Option Int)
  | [] => some none
  | [.int i] => some (some i)
  | _ => none
def slcD (x : D) (l u : Option Int) (S : Sto) : R D := match x with
  | .tup xs => .ok (.tup (cutL xs l u)) S
  | .str z => .ok (.str (cutL z l u)) S
  | _ => .bad
def truD (S : Sto) : D → R Bool
  | .non => .ok false S
  | .bl b => .ok b S
  | .int i => .ok (i != 0) S
  | .str x => .ok (!x.isEmpty) S
  | .tup xs => .ok (!xs.isEmpty) S
  | .lst xs => .ok (!xs.isEmpty) S
  | _ => .bad

def toInts : List D → Option (List Int)
  | [] => some []
  | .int i :: r => (toInts r).map (i :: ·)
  | _ => none
def toBools : List D → Option (List Bool)
  | [] => some []
  | .bl b :: r => (toBools r).map (b :: ·)
  | _ => none
def toStrs : List D → Option (List Nm)
  | [] => some []
  | .str b :: r => (toStrs r).map (b :: ·)
  | _ => none
def minI (i : Int) : List Int → Int
  | [] => i
  | j :: r => minI (if j < i then j else i) r
def maxI (i : Int) : List Int → Int
  | [] => i
  | j :: r => maxI (if i < j then j else i) r
def itemsD : D → Option (List D)
  | .lst xs => some xs
  | .tup xs => some xs
  | .scr ns => some (ns.map .int)
  | _ => none
/-- a list's items -/
def listD : D → Option (List D)
  | .lst xs => some xs
  | .scr ns => some (ns.map .int)
  | _ => none
def minL : List Int → Option D
  | [] => none
  | n :: r => some (.int (minI n r))
def maxL : List Int → Option D
  | [] => none
  | n :: r => some (.int (maxI n r))
/-- as the data by which things are put in order -/
def pdD : D → PyData
  | .non => .none
  | .bl b => .bool b
  | .int i => .int i
  | .str x => .str ⟨x.toArray⟩
  | .tup xs => .tuple (pdDs xs)
  | .lst xs => .list (pdDs xs)
  | _ => .none
where pdDs : List D → List PyData
  | [] => []
  | x :: xs => pdD x :: pdDs xs
def ltB (x y : D) : Bool := PySem.W.dataLt (pdD x) (pdD y)
def isI : D → Bool
  | .int _ => true
  | _ => false
def isS : D → Bool
  | .str _ => true
  | _ => false
def isT1 : D → Bool
  | .tup (_ :: _) => true
  | _ => false
/-- may they be put in order -/
def ordOk (xs : List D) : Bool := okDs xs 60 && ((xs.all isI || (xs.all isS || xs.all isT1)) && xs.all fun x => xs.all fun y => PySem.W.alike (pdD x) (pdD y))
def sortD (xs : List D) : List D := xs.mergeSort (PySem.W.dataLe false pdD)
/-- the least of what may be put in order: the first such -/
def minD : List D → Option D
  | [] => none
  | x :: r => some (r.foldl (fun m y => if ltB y m then y else m) x)
def dedup : List D → List D
  | [] => []
  | x :: r => if r.any (fun y => eqv y x) then dedup r else x :: dedup r

def blt1 (b : Blt) (x : D) (S : Sto) : R D := match b with
  | .len => (match x with
    | .lst xs => .ok (.int xs.length) S
    | .tup xs => .ok (.int xs.length) S
    | .scr xs => .ok (.int xs.length) S
    | .str z => .ok (.int z.length) S
    | .dic kvs => .ok (.int kvs.length) S
    | _ => .bad)
  | .sum => R.of S (((listD x).bind toInts).map fun ns => .int ns.sum)
  | .min => R.of S (((listD x).bind toInts).bind minL)
  | .max => R.of S (((listD x).bind toInts).bind maxL)
  | .minO => R.of S ((listD x).bind fun xs => if ordOk xs = true then minD xs else none)
  | .any => R.of S (((listD x).bind toBools).map fun bs => .bl (bs.any id))
  | .all => R.of S (((listD x).bind toBools).map fun bs => .bl (bs.all id))
  | .tup => R.of S ((itemsD x).map .tup)
  | .int => (match x with
    | .int i => .ok (.int i) S
    | .bl b => .ok (.int (if b then 1 else 0)) S
    | _ => .bad)
  | .str => (match x with
    | .int i => R.chk (strOk i) (.ok (.str (digs i)) S)
    | _ => .bad)
  | .abs => (match x with
    | .int i => .ok (.int (if i < 0 then -i else i)) S
    | _ => .bad)
  | .divmod => .bad
def blt2 (b : Blt) (x y : D) (S : Sto) : R D := match b, x, y with
  | .min, .int i, .int j => .ok (.int (if j < i then j else i)) S
  | .max, .int i, .int j => .ok (.int (if i < j then j else i)) S
  | .divmod, .int i, .int j => R.chk (fdvOk j) (.ok (.tup [.int (i / j), .int (i % j)]) S)
  | _, _, _ => .bad
def bltD (b : Blt) (xs : List D) (S : Sto) : R D := match xs with
  | [x] => blt1 b x S
  | [x, y] => blt2 b x y S
  | _ => .bad

def indexD (xs : List D) (x : D) : Option Nat := xs.findIdx? fun y => eqv y x
def joinS (sep : Nm) : List Nm → Nm
  | [] => []
  | [x] => x
  | x :: r => x ++ sep ++ joinS sep r
def upS (z : Nm) : Nm := z.map fun c => if 97 ≤ c ∧ c ≤ 122 then c - 32 else c
def mthD (m : Mth) (o : D) (xs : List D) (S : Sto) : R D := match m, o, xs with
  | .get, .dic kvs, [.int k] => .ok ((lookK kvs (.inl k)).getD .non) S
  | .get, .dic kvs, [.str k] => .ok ((lookK kvs (.inr k)).getD .non) S
  | .get, .dic kvs, [.int k, d] => .ok ((lookK kvs (.inl k)).getD d) S
  | .get, .dic kvs, [.str k, d] => .ok ((lookK kvs (.inr k)).getD d) S
  | .get, .kdic kvs, [.str k] => .ok ((lookN kvs k).getD .non) S
  | .get, .kdic kvs, [.str k, d] => .ok ((lookN kvs k).getD d) S
  | .index, .tup ys, [x] => R.chk (pl x && pls ys) (R.of S ((indexD ys x).map fun n => .int n))
  | .index, .lst ys, [x] => R.chk (pl x && pls ys) (R.of S ((indexD ys x).map fun n => .int n))
  | .upper, .str z, [] => R.chk (z.all (fun c => decide (c < 128)) && decide (z.length ≤ 5592405)) (.ok (.str (upS z)) S)
  | _, _, _ => .bad
/-- what has this method -/
def rcv : Mth → D → Bool
  | .get, .dic _ => true
  | .get, .kdic _ => true
  | .index, .tup _ => true
  | .index, .lst _ => true
  | .upper, .str _ => true
  | _, _ => false
/-- sep.join(..) -/
def joinD (a : Nm) (x : D) (S : Sto) : R D := R.of S (((itemsD x).bind toStrs).bind fun zs => if szOk ((zs.map (·.length)).sum + zs.length * a.length) = true then some (.str (joinS a zs)) else none)

/-- a change: what the thing is then, and what the change hands back -/
def mutC (m : Mu) (c : Cell) (xs : List D) : Option (Cell × D) := match m, c, xs with
  | .append, .lst ds, [x] => if szOk (ds.length + 1) = true then some (.lst (ds ++ [x]), .non) else none
  | .extend, .lst ds, [.lst es] => if szOk (ds.length + es.length) = true then some (.lst (ds ++ es), .non) else none
  | .insert, .lst ds, [.int i, x] => if (szOk (ds.length + 1) && (decide (0 ≤ i) && decide (i < 1000000))) = true then some (.lst (ds.take i.toNat ++ [x] ++ ds.drop i.toNat), .non) else none
  | .set, .lst ds, [.int i, x] => (placeI ds.length i).map fun n => (.lst (ds.set n x), .non)
  | .set, .dct kvs, [.int k, x] => if szOk (kvs.length + 1) = true then some (.dct (putK kvs (.inl k) x), .non) else none
  | .set, .dct kvs, [.str k, x] => if szOk (kvs.length + 1) = true then some (.dct (putK kvs (.inr k) x), .non) else none
  | .pop, .lst ds, [] => (match ds.getLast? with
    | some d => some (.lst ds.dropLast, d)
    | none => none)
  | .pop, .dct kvs, [.int k] => (lookK kvs (.inl k)).map fun d => (.dct (delK kvs (.inl k)), d)
  | .pop, .dct kvs, [.str k] => (lookK kvs (.inr k)).map fun d => (.dct (delK kvs (.inr k)), d)
  | _, _, _ => none

/-- the items that are walked -/
def seqD (S : Sto) : W → Option (List D)
  | .d (.dic kvs) => some (kvs.map fun p => kyD p.1)
  | w => match w.vw S with
    | .lst ds => some ds
    | .tup ds => some ds
    | .scr ns => some (ns.map .int)
    | .str z => some (z.map fun c => .str [c])
    | _ => none
def rngOk (m n : Int) : Bool := decide (-(2 ^ 60) < m) && decide (m < 2 ^ 60) && decide (-(2 ^ 60) < n) && decide (n < 2 ^ 60) && decide (n - m < 2 ^ 24)
def rngD (m n : Int) : List D := (List.range (n - m).toNat).map fun (i : Nat) => .int (m + (i : Int))
/-- what zip walks -/
def zipI : W → Option (List D)
  | .d (.lst xs) => some xs
  | .d (.tup xs) => some xs
  | .d (.str z) => some (z.map fun c => .str [c])
  | .own (.lst xs) => some xs
  | _ => none
/-- what enumerate walks -/
def enumI : W → Option (List D)
  | .d (.lst xs) => some xs
  | .own (.lst xs) => some xs
  | _ => none
def srcD (k : Sk) (ws : List W) (S : Sto) : Option (List D) := match k, ws with
  | .seq, [w] => seqD S w
  | .range, [.d (.int n)] => if rngOk 0 n = true then some (rngD 0 n) else none
  | .range, [.d (.int m), .d (.int n)] => if rngOk m n = true then some (rngD m n) else none
  | .zip, [x, y] => (zipI x).bind fun xs => (zipI y).map fun ys => List.zipWith (fun a b => .tup [a, b]) xs ys
  | .enum, [x] => (enumI x).map fun xs => xs.zipIdx.map fun p => .tup [.int p.2, p.1]
  | _, _ => none
/-- what of the walked thing must stay: the cells that are walked -/
def srcG (xs : List W) (S S' : Sto) : Prop := ∀ x ∈ xs, match x with
  | .d (.ref a) => S'[a]? = S[a]?
  | _ => True

def setAll : List Nat → List D → Env → Option Env
  | [], [], ρ => some ρ
  | i :: is, d :: ds, ρ => setAll is ds (ρ.put i (.d d))
  | _, _, _ => none
/-- a walked thing to the target's names -/
def setTg (tg : List Nat) (d : D) (ρ : Env) : Option Env := match tg, d with
  | [i], d => some (ρ.put i (.d d))
  | is, .tup ds => setAll is ds ρ
  | _, _ => none

/-- the classes of errors of the program -/
def errs : List String := ["ArchiveError", "NoDay", "NoDeed", "Twice", "GoneMaker", "NoNumber", "NoPaper", "MustStay", "Held", "NoLeave", "NoText", "NoCall"]
def subC (c c' : String) : Bool := c == c' || (errs.contains c && (c' == "ArchiveError" || c' == "ValueError"))
/-- is it of this class -/
def isiD (d : D) (c : String) : Bool := match d with
  | .bl _ => c == "bool" || c == "int"
  | .int _ => c == "int"
  | .str _ => c == "str"
  | .tup _ => c == "tuple"
  | .lst _ => c == "list"
  | .scr _ => c == "list"
  | .dic _ => c == "dict"
  | .kdic _ => c == "dict"
  | .obj e _ => c == e
  | .exc e _ => subC e c
  | _ => false
/-- what isinstance may be asked of -/
def isiOk : D → Bool
  | .ref _ => false
  | .fn _ => false
  | .obj _ _ => false
  | .exc _ _ => false
  | _ => true

section
open Classical
noncomputable def lcGo {α : Type} (body : α → Sto → R (Option D)) (g : Sto → Prop) : List α → Sto → R (List D)
  | [], S => .ok [] S
  | x :: xs, S => (body x S).bind fun r S1 => if g S1 then (lcGo body g xs S1).bind fun ys S2 => .ok (r.toList ++ ys) S2 else .bad
/-- behind a turn of a loop -/
def R.loop (r : R Fl) (f : Env → Sto → R Fl) : R Fl := match r with
  | .ok (.nx ρ) S => f ρ S
  | .ok (.ct ρ) S => f ρ S
  | .ok (.bk ρ) S => .ok (.nx ρ) S
  | r => r
noncomputable def forGo {α : Type} (set : α → Env → Option Env) (body : Env → Sto → R Fl) (g : Sto → Prop) : List α → Env → Sto → R Fl
  | [], ρ, S => .ok (.nx ρ) S
  | x :: xs, ρ, S => match set x ρ with
    | none => .bad
    | some ρ1 => (body ρ1 S).loop fun ρ2 S2 => if g S2 then forGo set body g xs ρ2 S2 else .bad
def whlN (test : Env → Sto → R Bool) (body : Env → Sto → R Fl) : Nat → Env → Sto → R Fl
  | 0, _, _ => .bad
  | n + 1, ρ, S => (test ρ S).lift ρ fun b S1 => if b = true then (body ρ S1).loop (whlN test body n) else .ok (.nx ρ) S1
noncomputable def whl (test : Env → Sto → R Bool) (body : Env → Sto → R Fl) (ρ : Env) (S : Sto) : R Fl :=
  if h : ∃ n, whlN test body n ρ S ≠ .bad then whlN test body (Classical.choose h) ρ S else .bad

def pairUp : List D → Option (List (Ky × D))
  | [] => some []
  | k :: d :: r => (dKy k).bind fun k => (pairUp r).map ((k, d) :: ·)
  | _ => none
/-- the pairs of a list, as a dict's -/
def pairsOf : List D → Option (List (Ky × D))
  | [] => some []
  | .tup [k, d] :: r => (dKy k).bind fun k => (pairsOf r).map ((k, d) :: ·)
  | _ => none
def mergeK (kvs : List (Ky × D)) (ps : List (Ky × D)) : List (Ky × D) := ps.foldl (fun m p => putK m p.1 p.2) kvs
def allD : List W → Bool
  | [] => true
  | .d _ :: r => allD r
  | .own _ :: _ => false
def onlyD : W → Option D
  | .d x => some x
  | .own _ => none
def wD (w : W) (S : Sto) : R D := match w with
  | .d x => .ok x S
  | .own _ => .bad
def wC (w : W) (S : Sto) : R Cell := match w with
  | .d _ => .bad
  | .own c => .ok c S
/-- the items that are put in order -/
def itemsS : D → Option (List D)
  | .lst xs => some xs
  | .scr ns => some (ns.map .int)
  | .dic kvs => some (kvs.map fun p => kyD p.1)
  | _ => none
/-- the keys of a sort, by a function -/
def keysGo (f : D → Sto → R W) : List D → Sto → R (List Int)
  | [], S => .ok [] S
  | x :: xs, S => (f x S).bind fun w S1 => match w with
    | .d (.int i) => (keysGo f xs S1).bind fun ns S2 => .ok (i :: ns) S2
    | _ => .bad
def sortK (ps : List (Int × D)) : List D := (ps.mergeSort fun a b => decide (a.1 ≤ b.1)).map (·.2)
def splitS (sep : Nat) : Nm → List Nm
  | [] => [[]]
  | c :: r => if c = sep then [] :: splitS sep r else match splitS sep r with
    | [] => [[c]]
    | w :: ws => (c :: w) :: ws
/-- a change of a cell -/
def mutS (m : Mu) (o : D) (xs : List D) (S : Sto) : R D := match o with
  | .ref a => (match S[a]? with
    | some c => (match mutC m c (if m matches .extend then xs.map (vw S) else xs) with
      | some (c', d) => .ok d (S.set a c')
      | none => .bad)
    | none => .bad)
  | _ => .bad

/-- a value, none of one's own that may change -/
def R.d (r : R W) : R D := r.bind wD
/-- a value's truth -/
def R.t (r : R W) : R Bool := r.bind fun w S => truD S (w.vw S)
def R.w (r : R D) : R W := r.bind fun d S => .ok (.d d) S
mutual
noncomputable def evW (Φ : Fn) (ρ : Env) : Ex → Sto → R W
  | .var i, S => R.of S (ρ.get i)
  | .cst d, S => .ok (.d d) S
  | .glo _ d, S => .ok (.d d) S
  | .bin o a b, S => (evW Φ ρ a S).bind fun x S1 => (evW Φ ρ b S1).bind fun y S2 => (binD o (x.vw S2) (y.vw S2) S2).w
  | .neg a, S => (evW Φ ρ a S).d.bind fun x S1 => match x with
    | .int i => .ok (.d (.int (-i))) S1
    | _ => .bad
  | .cmp o a b, S => (evW Φ ρ a S).bind fun x S1 => (evW Φ ρ b S1).bind fun y S2 => (cmpD o (x.vw S2) (y.vw S2) S2).bind fun r S3 => .ok (.d (.bl r)) S3
  | .chn o o' a b c, S => (evW Φ ρ a S).bind fun x S1 => (evW Φ ρ b S1).bind fun y S2 => (cmpD o (x.vw S2) (y.vw S2) S2).bind fun r S3 =>
      if r = true then (evW Φ ρ c S3).bind fun z S4 => (cmpD o' (y.vw S4) (z.vw S4) S4).bind fun r S5 => .ok (.d (.bl r)) S5 else .ok (.d (.bl false)) S3
  | .bop isAnd es, S => evB Φ ρ isAnd es S
  | .not a, S => (evW Φ ρ a S).t.bind fun b S1 => .ok (.d (.bl !b)) S1
  | .ife c a b, S => (evW Φ ρ c S).t.bind fun r S1 => if r = true then (evW Φ ρ a S1).d.w else (evW Φ ρ b S1).d.w
  | .tup es, S => (evEs Φ ρ es S).bind fun ds S1 => .ok (.d (.tup ds)) S1
  | .idx a i, S => (evW Φ ρ a S).bind fun x S1 => (evW Φ ρ i S1).d.bind fun y S2 => (idxD (x.vw S2) y S2).w
  | .slc a lo hi, S => (evW Φ ρ a S).bind fun x S1 => ((evEs Φ ρ lo S1).bind fun l S2 => R.of S2 (partD l)).bind fun l S2 => ((evEs Φ ρ hi S2).bind fun u S3 => R.of S3 (partD u)).bind fun u S3 => (slcD (x.vw S3) l u S3).w
  | .rev a, S => (evW Φ ρ a S).bind fun x S1 => match x.vw S1 with
    | .tup xs => .ok (.d (.tup xs.reverse)) S1
    | _ => .bad
  | .call f es, S => (evEs Φ ρ es S).bind fun ds S1 => (Φ f ds S1).d.w
  | .app f es, S => (evW Φ ρ f S).d.bind fun x S1 => (evEs Φ ρ es S1).bind fun ds S2 => match x with
    | .fn k => (Φ k ds S2).d.w
    | _ => .bad
  | .blt b es, S => (evWs Φ ρ es S).bind fun ws S1 => (bltD b (ws.map (W.vw S1)) S1).w
  | .mth m o es, S => (evW Φ ρ o S).bind fun x S1 => R.chk (rcv m (x.vw S1)) ((evEs Φ ρ es S1).bind fun ds S2 => (mthD m (x.vw S2) ds S2).w)
  | .join o a, S => (evW Φ ρ o S).d.bind fun x S1 => match x with
    | .str s => (evW Φ ρ a S1).bind fun y S2 => (joinD s (y.vw S2) S2).w
    | _ => .bad
  | .mut m o es, S => (evW Φ ρ o S).d.bind fun x S1 => (evEs Φ ρ es S1).bind fun ds S2 => (mutS m x ds S2).w
  | .isi a cs, S => (evW Φ ρ a S).bind fun x S1 => R.chk (isiOk (x.vw S1)) (.ok (.d (.bl (cs.any (isiD (x.vw S1))))) S1)
  | .att a f, S => (evW Φ ρ a S).bind fun x S1 => match x.vw S1 with
    | .obj _ fs => (R.of S1 (lookF fs f)).w
    | .exc _ fs => (R.of S1 (lookF fs f)).w
    | _ => .bad
  | .frz n, S => (evN Φ ρ n S).bind fun c S1 => .ok (.d c.vw) S1
  | .cel n, S => (evN Φ ρ n S).bind fun c S1 => .ok (.d (.ref S1.length)) (S1 ++ [c])
noncomputable def evEs (Φ : Fn) (ρ : Env) : List Ex → Sto → R (List D)
  | [], S => .ok [] S
  | e :: es, S => (evW Φ ρ e S).d.bind fun d S1 => (evEs Φ ρ es S1).bind fun ds S2 => .ok (d :: ds) S2
noncomputable def evWs (Φ : Fn) (ρ : Env) : List Ex → Sto → R (List W)
  | [], S => .ok [] S
  | e :: es, S => (evW Φ ρ e S).bind fun d S1 => (evWs Φ ρ es S1).bind fun ds S2 => .ok (d :: ds) S2
noncomputable def evB (Φ : Fn) (ρ : Env) (isAnd : Bool) : List Ex → Sto → R W
  | [], _ => .bad
  | e :: es, S => match es with
    | [] => (evW Φ ρ e S).d.w
    | _ :: _ => (evW Φ ρ e S).d.bind fun x S1 => (truD S1 (vw S1 x)).bind fun b S2 => if b = isAnd then evB Φ ρ isAnd es S2 else .ok (.d x) S2
/-- the tests of a comprehension -/
noncomputable def evC (Φ : Fn) (ρ : Env) : List Ex → Sto → R Bool
  | [], S => .ok true S
  | [c], S => (evW Φ ρ c S).t
  | _, _ => .bad
noncomputable def evN (Φ : Fn) (ρ : Env) : Nw → Sto → R Cell
  | .lst es, S => (evEs Φ ρ es S).bind fun ds S1 => .ok (.lst ds) S1
  | .dic es, S => (evEs Φ ρ es S).bind fun ds S1 => match pairUp ds with
    | some kvs => .ok (.dct (mergeK [] kvs)) S1
    | none => .bad
  | .comp tg k src cond elt, S => (evWs Φ ρ src S).bind fun xs S1 => match srcD k xs S1 with
    | none => .bad
    | some ds => (lcGo (fun d S => (R.of S (setTg tg d (ρ.dels tg))).bind fun ρ' S => (evC Φ ρ' cond S).bind fun b S1 => if b = true then (evW Φ ρ' elt S1).d.bind fun x S2 => .ok (some x) S2 else .ok none S1) (srcG xs S1) ds S1).noexc.bind fun r S2 => .ok (.lst r) S2
  | .cat a b, S => (evW Φ ρ a S).bind fun x S1 => (evW Φ ρ b S1).bind fun y S2 => match x.vw S2, y.vw S2 with
    | .lst xs, .lst ys => R.chk (szOk (xs.length + ys.length)) (.ok (.lst (xs ++ ys)) S2)
    | _, _ => .bad
  | .rep a b, S => (evW Φ ρ a S).bind fun x S1 => (evW Φ ρ b S1).d.bind fun y S2 => match x.vw S2, y with
    | .lst xs, .int j => R.chk (repOk xs.length j) (.ok (.lst (List.replicate j.toNat xs).flatten) S2)
    | _, _ => .bad
  | .slc a lo hi, S => (evW Φ ρ a S).bind fun x S1 => ((evEs Φ ρ lo S1).bind fun l S2 => R.of S2 (partD l)).bind fun l S2 => ((evEs Φ ρ hi S2).bind fun u S3 => R.of S3 (partD u)).bind fun u S3 => match x.vw S3 with
    | .lst xs => .ok (.lst (cutL xs l u)) S3
    | .scr ns => .ok (.lst ((cutL ns l u).map .int)) S3
    | _ => .bad
  | .rev a, S => (evW Φ ρ a S).bind fun x S1 => match x.vw S1 with
    | .lst xs => .ok (.lst xs.reverse) S1
    | _ => .bad
  | .list a, S => (evW Φ ρ a S).bind fun x S1 => (R.of S1 (itemsD (x.vw S1))).bind fun xs S1 => .ok (.lst xs) S1
  | .range es, S => (evEs Φ ρ es S).bind fun ds S1 => (R.of S1 (srcD .range (ds.map W.d) S1)).bind fun xs S1 => .ok (.lst xs) S1
  | .sorted a, S => (evW Φ ρ a S).bind fun x S1 => (R.of S1 (itemsS (x.vw S1))).bind fun xs S1 => R.chk (ordOk xs) (.ok (.lst (sortD xs)) S1)
  | .sortBy f a, S => (evW Φ ρ a S).bind fun x S1 => (R.of S1 (itemsD (x.vw S1))).bind fun xs S1 => (keysGo (fun d S => Φ f [d] S) xs S1).bind fun ns S2 => .ok (.lst (sortK (ns.zip xs))) S2
  | .sortSet a, S => (evW Φ ρ a S).bind fun x S1 => (R.of S1 (itemsD (x.vw S1))).bind fun xs S1 => R.chk (ordOk xs) (.ok (.lst (sortD (dedup xs))) S1)
  | .dict a, S => (evW Φ ρ a S).bind fun x S1 => match x.vw S1 with
    | .dic kvs => .ok (.dct kvs) S1
    | .lst xs => (R.of S1 (pairsOf xs)).bind fun ps S1 => .ok (.dct (mergeK [] ps)) S1
    | _ => .bad
  | .split o a, S => (evW Φ ρ o S).bind fun x S1 => (evW Φ ρ a S1).d.bind fun y S2 => match x.vw S2, y with
    | .str z, .str [c] => R.chk (szOk (z.length + 2)) (.ok (.lst ((splitS c z).map .str)) S2)
    | _, _ => .bad
  | .make _ f es, S => (evEs Φ ρ es S).bind fun ds S1 => (Φ f ds S1).bind wC
  | .call f es, S => (evEs Φ ρ es S).bind fun ds S1 => (Φ f ds S1).bind wC
end
noncomputable def evE (Φ : Fn) (ρ : Env) (e : Ex) (S : Sto) : R D := (evW Φ ρ e S).d
noncomputable def evT (Φ : Fn) (ρ : Env) (e : Ex) (S : Sto) : R Bool := (evW Φ ρ e S).t

/-- a value to a target -/
noncomputable def setT (Φ : Fn) (d : D) : Tg → Env → Sto → R Fl
  | .nm i, ρ, S => .ok (.nx (ρ.put i (.d d))) S
  | .sub o i, ρ, S => (evE Φ ρ o S).lift ρ fun x S1 => (evE Φ ρ i S1).lift ρ fun y S2 => (mutS .set x [y, d] S2).lift ρ fun _ S3 => .ok (.nx ρ) S3
  | .osub j i, ρ, S => match ρ.get j with
    | some (.own c) => (evE Φ ρ i S).lift ρ fun y S1 => match mutC .set c [y, d] with
      | some (c', _) => .ok (.nx (ρ.put j (.own c'))) S1
      | none => .bad
    | _ => .bad
  | .att o f, ρ, S => (evE Φ ρ o S).lift ρ fun x S1 => match x with
    | .ref a => (match S1[a]? with
      | some (.obj c fs) => R.chk (decide (fs.length < 900)) (.ok (.nx ρ) (S1.set a (.obj c (putF fs f d))))
      | _ => .bad)
    | _ => .bad
  | .oatt j f, ρ, S => match ρ.get j with
    | some (.own (.obj c fs)) => R.chk (decide (fs.length < 900)) (.ok (.nx (ρ.put j (.own (.obj c (putF fs f d))))) S)
    | _ => .bad
noncomputable def setTs (Φ : Fn) : List Tg → List D → Env → Sto → R Fl
  | [], [], ρ, S => .ok (.nx ρ) S
  | t :: ts, d :: ds, ρ, S => (setT Φ d t ρ S).nx fun ρ1 S1 => setTs Φ ts ds ρ1 S1
  | _, _, _, _ => .bad

mutual
noncomputable def evS (Φ : Fn) : St → Env → Sto → R Fl
  | .asg t e, ρ, S => (evE Φ ρ e S).lift ρ fun d S1 => setT Φ d t ρ S1
  | .unp ts e, ρ, S => (evW Φ ρ e S).d.lift ρ fun d S1 => match d with
    | .tup ds => R.chk (decide (ds.length = ts.length)) (setTs Φ ts ds ρ S1)
    | .lst ds => R.chk (decide (ds.length = ts.length)) (setTs Φ ts ds ρ S1)
    | _ => .bad
  | .par is es, ρ, S => (evEs Φ ρ es S).lift ρ fun ds S1 => match setAll is ds ρ with
    | some ρ' => .ok (.nx ρ') S1
    | none => .bad
  | .own i n, ρ, S => (evN Φ ρ n S).lift ρ fun c S1 => .ok (.nx (ρ.put i (.own c))) S1
  | .omut i m es, ρ, S => match ρ.get i with
    | some (.own (.lst xs)) => (evEs Φ ρ es S).lift ρ fun ds S1 => match mutC m (.lst xs) (if m matches .extend then ds.map (vw S1) else ds) with
      | some (c', _) => .ok (.nx (ρ.put i (.own c'))) S1
      | none => .bad
    | _ => .bad
  | .opop i e, ρ, S => match ρ.get i with
    | some (.own (.dct kvs)) => (evW Φ ρ e S).d.lift ρ fun d S1 => match mutC .pop (.dct kvs) [d] with
      | some (c', _) => .ok (.nx (ρ.put i (.own c'))) S1
      | none => .bad
    | _ => .bad
  | .fz i, ρ, S => match ρ.get i with
    | some (.own c) => .ok (.nx (ρ.put i (.d c.vw))) S
    | some (.d _) => .ok (.nx ρ) S
    | none => .bad
  | .kill is, ρ, S => .ok (.nx (ρ.dels is)) S
  | .exp e, ρ, S => (evE Φ ρ e S).lift ρ fun _ S1 => .ok (.nx ρ) S1
  | .ret e, ρ, S => (evE Φ ρ e S).lift ρ fun d S1 => .ok (.rt (.d d)) S1
  | .retN, _, S => .ok (.rt (.d .non)) S
  | .retO i, ρ, S => match ρ.get i with
    | some (.own c) => .ok (.rt (.own c)) S
    | _ => .bad
  | .retF i, ρ, S => match ρ.get i with
    | some (.own c) => .ok (.rt (.d c.vw)) S
    | some (.d x) => .ok (.rt (.d x)) S
    | none => .bad
  | .retW n, ρ, S => (evN Φ ρ n S).lift ρ fun c S1 => .ok (.rt (.own c)) S1
  | .ifS c a b, ρ, S => (evT Φ ρ c S).lift ρ fun r S1 => if r = true then evSs Φ a ρ S1 else evSs Φ b ρ S1
  | .whl c a, ρ, S => whl (fun ρ1 S1 => evT Φ ρ1 c S1) (fun ρ1 S1 => evSs Φ a ρ1 S1) ρ S
  | .forS tg k src a, ρ, S => (evWs Φ ρ src S).lift ρ fun ws S1 => if allD ws = true then (match srcD k ws S1 with
    | none => .bad
    | some ds => forGo (fun d ρ => setTg tg d ρ) (fun ρ1 S1 => evSs Φ a ρ1 S1) (srcG ws S1) ds ρ S1) else .bad
  | .pass, ρ, S => .ok (.nx ρ) S
  | .brk, ρ, S => .ok (.bk ρ) S
  | .cnt, ρ, S => .ok (.ct ρ) S
  | .rais c fs es, ρ, S => (evEs Φ ρ es S).lift ρ fun ds S1 => .ok (.ex (.exc c (fs.zip ds)) ρ) S1
  | .tryS a c n b, ρ, S => match evSs Φ a ρ S with
    | .ok (.ex e ρ1) S1 => if isiD e c = true then (match n with
      | [] => evSs Φ b ρ1 S1
      | i :: _ => evSs Φ b (ρ1.put i (.d e)) S1) else .ok (.ex e ρ1) S1
    | r => r
noncomputable def evSs (Φ : Fn) : List St → Env → Sto → R Fl
  | [], ρ, S => .ok (.nx ρ) S
  | s :: ss, ρ, S => (evS Φ s ρ S).nx fun ρ1 S1 => evSs Φ ss ρ1 S1
end
/-- a function: its arguments, then the other names without a value; an __init__ has its object first, and hands it back -/
noncomputable def evF (Φ : Fn) (fd : Fd) (ds : List D) (S : Sto) : R W := if ds.length = fd.ps then
    let ρ : Env := match fd.ini with
      | none => ds.map (fun d => some (.d d)) ++ List.replicate (fd.nn - ds.length) none
      | some c => some (.own (.obj c [])) :: (ds.map (fun d => some (.d d)) ++ List.replicate (fd.nn - ds.length) none)
    match evSs Φ fd.body ρ S with
    | .ok (.nx ρ) S1 => (match fd.ini with
      | none => .ok (.d .non) S1
      | some _ => R.of S1 (ρ.get 0))
    | .ok (.rt w) S1 => (match fd.ini with
      | none => .ok w S1
      | some _ => .bad)
    | .ok (.ex e _) S1 => .exc e S1
    | _ => .bad
  else .bad
/-- n calls deep at most -/
noncomputable def call (P : Nat → Fd) : Nat → Fn
  | 0 => fun _ _ _ => .bad
  | n + 1 => fun f ds S => evF (call P n) (P f) ds S
end
end Ev
set_option maxHeartbeats 1000000
/-! Ev, part 2: how trees and the store lie in the layer's abstract heap. -/
namespace Ev
open PySem PySem.Spec PyProof.Rows L2

/-- the written part, the names of the functions that are values -/
structure Kx where
  K : PySem.W.Frag
  w : World
  nm : Nat → Str
def tx (x : Nm) : Str := ⟨x.toArray⟩
theorem tx_inj {x y : Nm} (h : tx x = tx y) : x = y := by
  have e : x.toArray = y.toArray := congrArg Str.cps h
  simpa using e
theorem tx_app (x y : Nm) : tx (x ++ y) = tx x ++ tx y := by
  show (⟨(x ++ y).toArray⟩ : Str) = ⟨x.toArray ++ y.toArray⟩
  simp
theorem tx_len (x : Nm) : (tx x).length = x.length := by
  show x.toArray.size = x.length
  simp
theorem tx_list (x : Nm) : (tx x).cps.toList = x := by simp [tx]
def kx : Ky → L2.Key
  | .inl i => .inl i
  | .inr x => .inr (tx x)
theorem kx_inj {a b : Ky} (h : kx a = kx b) : a = b := by
  cases a <;> cases b
  · exact congrArg Sum.inl (Sum.inl.inj h)
  · cases h
  · cases h
  · exact congrArg Sum.inr (tx_inj (Sum.inr.inj h))

def kyOk : Ky → Bool
  | .inl _ => true
  | .inr x => szOk x.length
def KLst (K : PySem.W.Frag) (a : Addr) (xs : List V) : Prop :=
  ∃ (o : Obj) (its : Array Value) (n : Nat), K.lookup a = some o ∧ o.cls = .type "list" ∧ o.dict = none ∧ o.data = .seq its n ∧ its.size ≤ sizeLine ∧ Vals xs its.toList
/-- a written dict with text keys -/
structure KDic (κ : Kx) (a : Addr) (ks : List Nm) : Prop where
  low : (a == sysModules) = false
  non : ∀ z : Nm, z ∉ ks → PySem.W.nsIn κ.K a (tx z) = some none
  lit : ∃ es n, KDict κ.K κ.w a es n
/-- a caught exception, kept as a value -/
def excO (a C : Addr) (dx : Option Addr) : HO := .ext fun h => ∃ o, h.get? a = some o ∧ o.cls = .ref C ∧ o.dict = dx
/-- what never changes -/
def imm : HO → Prop
  | .tup _ => True
  | .frz _ _ => True
  | .ext _ => True
  | _ => False
/-- a thing that is frozen -/
def Frz (H : Hp) (a : Addr) (u : HO) : Prop := ∃ o, H a = some (.frz o u)
theorem Frz.rd {H : Hp} {a : Addr} {u : HO} (h : Frz H a u) : Rd H a u := .inr h
/-- no attribute but these -/
def OnlyF (fs : List (String × D)) (fvs : List (Str × V)) : Prop := ∀ g : String, lookF fs g = none → fvs.lookup (Str.ofString g) = none

mutual
def IsD (κ : Kx) (as : List Addr) (H : Hp) : D → V → Prop
  | .non, v => v = .non
  | .bl b, v => v = .bl b
  | .int i, v => v = .int i
  | .str x, v => v = .str (tx x) ∧ szOk x.length = true
  | .ref i, v => ∃ a, as[i]? = some a ∧ v = .ref a
  | .fn k, v => v = .ref (He.ga κ.K (κ.nm k))
  | .tup ds, v => ∃ a vs, v = .ref a ∧ SqT κ.K H a vs ∧ IsDs κ as H ds vs
  | .scr ns, v => ∃ a, v = .ref a ∧ (Frz H a (.lst (ns.map V.int)) ∨ KLst κ.K a (ns.map V.int))
  | .lst ds, v => ∃ a vs, v = .ref a ∧ Frz H a (.lst vs) ∧ IsDs κ as H ds vs
  | .dic kvs, v => ∃ a kws, v = .ref a ∧ Frz H a (.dK kws) ∧ IsKs κ as H kvs kws
  | .kdic kvs, v => ∃ a, v = .ref a ∧ KDic κ a (kvs.map (·.1)) ∧ IsZs κ as H a kvs
  | .obj c fs, v => ∃ a dx fvs, v = .ref a ∧ Frz H a (.ins (He.ga κ.K (Str.ofString c)) dx fvs) ∧ OnlyF fs fvs ∧ IsFs κ as H fs fvs
  | .exc c fs, v => ∃ a dx, v = .ref a ∧ H a = some (excO a (He.ga κ.K (Str.ofString c)) dx) ∧ fs = []
def IsDs (κ : Kx) (as : List Addr) (H : Hp) : List D → List V → Prop
  | [], [] => True
  | d :: ds, v :: vs => IsD κ as H d v ∧ IsDs κ as H ds vs
  | _, _ => False
def IsKs (κ : Kx) (as : List Addr) (H : Hp) : List (Ky × D) → List (L2.Key × V) → Prop
  | [], [] => True
  | (k, d) :: ds, (q, v) :: vs => (q = kx k ∧ kyOk k = true) ∧ IsD κ as H d v ∧ IsKs κ as H ds vs
  | _, _ => False
/-- what a written dict holds -/
def IsZs (κ : Kx) (as : List Addr) (H : Hp) (a : Addr) : List (Nm × D) → Prop
  | [] => True
  | (k, d) :: r => (∃ u v, PySem.W.nsIn κ.K a (tx k) = some (some u) ∧ RelV v u ∧ IsD κ as H d v) ∧ IsZs κ as H a r
def IsFs (κ : Kx) (as : List Addr) (H : Hp) : List (String × D) → List (Str × V) → Prop
  | [], _ => True
  | (f, d) :: ds, fvs => (∃ v, fvs.lookup (Str.ofString f) = some v ∧ IsD κ as H d v) ∧ IsFs κ as H ds fvs
end

def RepC (κ : Kx) (as : List Addr) (H : Hp) (a : Addr) : Cell → Prop
  | .lst ds => ∃ vs, H a = some (.lst vs) ∧ IsDs κ as H ds vs
  | .dct kvs => ∃ kws, H a = some (.dK kws) ∧ IsKs κ as H kvs kws
  | .obj c fs => ∃ dx fvs, H a = some (.ins (He.ga κ.K (Str.ofString c)) dx fvs) ∧ OnlyF fs fvs ∧ IsFs κ as H fs fvs
structure RepS (κ : Kx) (as : List Addr) (H : Hp) (S : Sto) : Prop where
  len : as.length = S.length
  nd : as.Nodup
  cell : ∀ (i : Nat) (a : Addr) (c : Cell), as[i]? = some a → S[i]? = some c → RepC κ as H a c

/-- what is fixed stays, and what is none of the cells; the cells grow by new ones -/
def Imm (H H' : Hp) : Prop := ∀ a o, H a = some o → imm o → H' a = some o
structure Step (as : List Addr) (H : Hp) (as' : List Addr) (H' : Hp) : Prop where
  ext : ∃ t, as' = as ++ t ∧ ∀ a ∈ t, H a = none
  imm : Imm H H'
  keep : ∀ a o, H a = some o → a ∉ as → H' a = some o
  there : ∀ a, H a ≠ none → H' a ≠ none
theorem Step.refl {as : List Addr} {H : Hp} : Step as H as H := ⟨⟨[], by simp⟩, fun _ _ h _ => h, fun _ _ h _ => h, fun _ h => h⟩
theorem Step.trans {as as1 as2 : List Addr} {H H1 H2 : Hp} (a : Step as H as1 H1) (b : Step as1 H1 as2 H2) : Step as H as2 H2 := by
  obtain ⟨t, e, f⟩ := a.ext
  obtain ⟨t2, e2, f2⟩ := b.ext
  subst e e2
  refine ⟨⟨t ++ t2, by simp, fun x hx => ?_⟩, fun x o h n => b.imm x o (a.imm x o h n) n, fun x o h n => ?_, fun x h => b.there x (a.there x h)⟩
  · rcases List.mem_append.mp hx with hx | hx
    · exact f x hx
    · have := f2 x hx
      cases q : H x with
      | none => rfl
      | some o => exact absurd this (a.there x (by rw [q]; simp))
  · refine b.keep x o (a.keep x o h n) fun z => ?_
    rcases List.mem_append.mp z with z | z
    · exact n z
    · rw [f x z] at h; cases h
theorem Step.pre {as as' : List Addr} {H H' : Hp} (a : Step as H as' H') {i : Nat} {x : Addr} (h : as[i]? = some x) : as'[i]? = some x := by
  obtain ⟨t, e, _⟩ := a.ext
  subst e
  rw [List.getElem?_append_left (List.getElem?_eq_some_iff.mp h).1]
  exact h
theorem Step.notin {as as' : List Addr} {H H' : Hp} (a : Step as H as' H') {x : Addr} {o : HO} (h : H x = some o) (n : x ∉ as) : x ∉ as' := by
  obtain ⟨t, e, f⟩ := a.ext
  subst e
  intro z
  rcases List.mem_append.mp z with z | z
  · exact n z
  · rw [f x z] at h; cases h

theorem Imm.frz {H H' : Hp} (st : Imm H H') {a : Addr} {u : HO} (r : Frz H a u) : Frz H' a u :=
  let ⟨o, r⟩ := r
  ⟨o, st a _ r True.intro⟩
theorem Imm.sqT {K : PySem.W.Frag} {H H' : Hp} (st : Imm H H') {a : Addr} {vs : List V} (r : SqT K H a vs) : SqT K H' a vs := by
  rcases r with (r | ⟨o, r⟩) | r
  · exact .inl (.inl (st a _ r True.intro))
  · exact .inl (.inr ⟨o, st a _ r True.intro⟩)
  · exact .inr r
theorem Imm.refl {H : Hp} : Imm H H := fun _ _ h _ => h
/-- the cells' addresses grow -/
def Pre (as as' : List Addr) : Prop := ∀ (i : Nat) (a : Addr), as[i]? = some a → as'[i]? = some a
section
variable {κ : Kx} {as as' : List Addr} {H H' : Hp} {S S' : Sto}
mutual
theorem IsD.mono (pr : Pre as as') (st : Imm H H') : ∀ {d : D} {v : V}, IsD κ as H d v → IsD κ as' H' d v
  | .non, _, h => h
  | .bl _, _, h => h
  | .int _, _, h => h
  | .str _, _, h => h
  | .fn _, _, h => h
  | .ref _, _, h => by
    obtain ⟨a, h1, h2⟩ := h
    exact ⟨a, pr _ _ h1, h2⟩
  | .tup ds, _, h => by
    obtain ⟨a, vs, e, h1, h2⟩ := h
    exact ⟨a, vs, e, st.sqT h1, IsDs.mono pr st h2⟩
  | .lst ds, _, h => by
    obtain ⟨a, vs, e, h1, h2⟩ := h
    exact ⟨a, vs, e, st.frz h1, IsDs.mono pr st h2⟩
  | .scr ns, _, h => by
    obtain ⟨a, e, h1⟩ := h
    exact ⟨a, e, h1.imp st.frz id⟩
  | .dic kvs, _, h => by
    obtain ⟨a, kws, e, r, h2⟩ := h
    exact ⟨a, kws, e, st.frz r, IsKs.mono pr st h2⟩
  | .kdic kvs, _, h => by
    obtain ⟨a, e, r, h2⟩ := h
    exact ⟨a, e, r, IsZs.mono pr st h2⟩
  | .obj c fs, _, h => by
    obtain ⟨a, dx, fvs, e, r, o, h2⟩ := h
    exact ⟨a, dx, fvs, e, st.frz r, o, IsFs.mono pr st h2⟩
  | .exc c fs, _, h => by
    obtain ⟨a, dx, e, h1, h2⟩ := h
    exact ⟨a, dx, e, st a _ h1 True.intro, h2⟩
theorem IsDs.mono (pr : Pre as as') (st : Imm H H') : ∀ {ds : List D} {vs : List V}, IsDs κ as H ds vs → IsDs κ as' H' ds vs
  | [], [], _ => True.intro
  | _ :: _, _ :: _, h => ⟨IsD.mono pr st h.1, IsDs.mono pr st h.2⟩
  | [], _ :: _, h => h.elim
  | _ :: _, [], h => h.elim
theorem IsKs.mono (pr : Pre as as') (st : Imm H H') : ∀ {ds : List (Ky × D)} {vs : List (L2.Key × V)}, IsKs κ as H ds vs → IsKs κ as' H' ds vs
  | [], [], _ => True.intro
  | (_, _) :: _, (_, _) :: _, h => ⟨h.1, IsD.mono pr st h.2.1, IsKs.mono pr st h.2.2⟩
  | [], _ :: _, h => h.elim
  | (_, _) :: _, [], h => h.elim
theorem IsZs.mono {a : Addr} (pr : Pre as as') (st : Imm H H') : ∀ {ds : List (Nm × D)}, IsZs κ as H a ds → IsZs κ as' H' a ds
  | [], _ => True.intro
  | (_, _) :: _, h => ⟨let ⟨u, v, h1, h2, h3⟩ := h.1; ⟨u, v, h1, h2, IsD.mono pr st h3⟩, IsZs.mono pr st h.2⟩
theorem IsFs.mono (pr : Pre as as') (st : Imm H H') : ∀ {ds : List (String × D)} {vs : List (Str × V)}, IsFs κ as H ds vs → IsFs κ as' H' ds vs
  | [], _, _ => True.intro
  | (_, _) :: _, _, h => ⟨let ⟨v, h1, h2⟩ := h.1; ⟨v, h1, IsD.mono pr st h2⟩, IsFs.mono pr st h.2⟩
end
theorem Step.pr (st : Step as H as' H') : Pre as as' := fun _ _ h => st.pre h
theorem IsD.step (st : Step as H as' H') {d : D} {v : V} (h : IsD κ as H d v) : IsD κ as' H' d v := h.mono st.pr st.imm
theorem IsDs.step (st : Step as H as' H') {d : List D} {v : List V} (h : IsDs κ as H d v) : IsDs κ as' H' d v := h.mono st.pr st.imm
theorem IsDs.length : ∀ {ds : List D} {vs : List V}, IsDs κ as H ds vs → ds.length = vs.length
  | [], [], _ => rfl
  | _ :: _, _ :: _, h => congrArg (· + 1) (IsDs.length h.2)
  | [], _ :: _, h => h.elim
  | _ :: _, [], h => h.elim
theorem IsKs.length : ∀ {ds : List (Ky × D)} {vs : List (L2.Key × V)}, IsKs κ as H ds vs → ds.length = vs.length
  | [], [], _ => rfl
  | (_, _) :: _, (_, _) :: _, h => congrArg (· + 1) (IsKs.length h.2.2)
  | [], _ :: _, h => h.elim
  | (_, _) :: _, [], h => h.elim
theorem IsDs.get : ∀ {ds : List D} {vs : List V} {i : Nat} {d : D}, IsDs κ as H ds vs → ds[i]? = some d → ∃ v, vs[i]? = some v ∧ IsD κ as H d v
  | [], [], _, _, _, e => by simp at e
  | _ :: _, v :: _, 0, _, h, e => by
    simp at e
    subst e
    exact ⟨v, rfl, h.1⟩
  | _ :: _, _ :: _, i + 1, d, h, e => by
    obtain ⟨v, e1, e2⟩ := IsDs.get (i := i) (d := d) h.2 (by simpa using e)
    exact ⟨v, by simpa using e1, e2⟩
  | [], _ :: _, _, _, h, _ => h.elim
  | _ :: _, [], _, _, h, _ => h.elim
theorem IsDs.get' : ∀ {ds : List D} {vs : List V} {i : Nat} {v : V}, IsDs κ as H ds vs → vs[i]? = some v → ∃ d, ds[i]? = some d ∧ IsD κ as H d v
  | [], [], _, _, _, e => by simp at e
  | d :: _, v :: _, 0, _, h, e => by
    simp at e
    subst e
    exact ⟨d, rfl, h.1⟩
  | _ :: _, _ :: _, i + 1, d, h, e => by
    obtain ⟨v, e1, e2⟩ := IsDs.get' (i := i) (v := d) h.2 (by simpa using e)
    exact ⟨v, by simpa using e1, e2⟩
  | [], _ :: _, _, _, h, _ => h.elim
  | _ :: _, [], _, _, h, _ => h.elim
theorem IsDs.append : ∀ {ds es : List D} {vs ws : List V}, IsDs κ as H ds vs → IsDs κ as H es ws → IsDs κ as H (ds ++ es) (vs ++ ws)
  | [], _, [], _, _, h => h
  | _ :: _, _, _ :: _, _, h, h' => ⟨h.1, IsDs.append h.2 h'⟩
  | [], _, _ :: _, _, h, _ => h.elim
  | _ :: _, _, [], _, h, _ => h.elim
theorem IsDs.take : ∀ {ds : List D} {vs : List V} (n : Nat), IsDs κ as H ds vs → IsDs κ as H (ds.take n) (vs.take n)
  | _, _, 0, _ => by simp [IsDs]
  | [], [], _ + 1, h => h
  | _ :: _, _ :: _, n + 1, h => ⟨h.1, IsDs.take n h.2⟩
  | [], _ :: _, _ + 1, h => h.elim
  | _ :: _, [], _ + 1, h => h.elim
theorem IsDs.drop : ∀ {ds : List D} {vs : List V} (n : Nat), IsDs κ as H ds vs → IsDs κ as H (ds.drop n) (vs.drop n)
  | _, _, 0, h => h
  | [], [], _ + 1, h => h
  | _ :: _, _ :: _, n + 1, h => IsDs.drop n h.2
  | [], _ :: _, _ + 1, h => h.elim
  | _ :: _, [], _ + 1, h => h.elim
theorem IsDs.set {d : D} {v : V} (hd : IsD κ as H d v) : ∀ {ds : List D} {vs : List V} (n : Nat), IsDs κ as H ds vs → IsDs κ as H (ds.set n d) (vs.set n v)
  | [], [], _, h => h
  | _ :: _, _ :: _, 0, h => ⟨hd, h.2⟩
  | _ :: _, _ :: _, n + 1, h => ⟨h.1, IsDs.set hd n h.2⟩
  | [], _ :: _, _, h => h.elim
  | _ :: _, [], _, h => h.elim
theorem IsDs.one {d : D} {v : V} (h : IsD κ as H d v) : IsDs κ as H [d] [v] := ⟨h, True.intro⟩
theorem IsDs.reverse : ∀ {ds : List D} {vs : List V}, IsDs κ as H ds vs → IsDs κ as H ds.reverse vs.reverse
  | [], [], _ => True.intro
  | _ :: _, _ :: _, h => by
    rw [List.reverse_cons, List.reverse_cons]
    exact (IsDs.reverse h.2).append ⟨h.1, True.intro⟩
  | [], _ :: _, h => h.elim
  | _ :: _, [], h => h.elim
theorem IsDs.mem : ∀ {ds : List D} {vs : List V}, IsDs κ as H ds vs → ∀ v ∈ vs, ∃ d ∈ ds, IsD κ as H d v
  | [], [], _ => fun v h => nomatch h
  | d :: _, w :: _, h => fun v hv => by
    rcases List.mem_cons.mp hv with rfl | hv
    · exact ⟨d, List.mem_cons_self, h.1⟩
    · obtain ⟨e, he, r⟩ := IsDs.mem h.2 v hv
      exact ⟨e, List.mem_cons_of_mem _ he, r⟩
  | [], _ :: _, h => h.elim
  | _ :: _, [], h => h.elim

/-- what a value is, a thing that may change seen as the thing that it is -/
def IsV (κ : Kx) (as : List Addr) (H : Hp) (d : D) (v : V) : Prop := match d with
  | .lst ds => ∃ a vs, v = .ref a ∧ Rd H a (.lst vs) ∧ IsDs κ as H ds vs
  | .scr ns => ∃ a, v = .ref a ∧ SqL κ.K H a (ns.map V.int)
  | .tup ds => ∃ a vs, v = .ref a ∧ SqT κ.K H a vs ∧ IsDs κ as H ds vs
  | .dic kvs => ∃ a kws, v = .ref a ∧ Rd H a (.dK kws) ∧ IsKs κ as H kvs kws
  | .obj c fs => ∃ a dx fvs, v = .ref a ∧ Rd H a (.ins (He.ga κ.K (Str.ofString c)) dx fvs) ∧ OnlyF fs fvs ∧ IsFs κ as H fs fvs
  | d => IsD κ as H d v
/-- what an expression hands back -/
def IsE (κ : Kx) (as : List Addr) (H : Hp) (w : W) (v : V) : Prop := match w with
  | .d x => IsD κ as H x v
  | .own c => ∃ a, v = .ref a ∧ a ∉ as ∧ RepC κ as H a c
theorem IsD.v {d : D} {v : V} (h : IsD κ as H d v) : IsV κ as H d v := by
  cases d with
  | lst ds =>
    obtain ⟨a, vs, e, h1, h2⟩ := h
    exact ⟨a, vs, e, h1.rd, h2⟩
  | scr ns =>
    obtain ⟨a, e, h1⟩ := h
    exact ⟨a, e, h1.elim (fun z => .inl z.rd) .inr⟩
  | tup ds =>
    obtain ⟨a, vs, e, h1, h2⟩ := h
    exact ⟨a, vs, e, h1, h2⟩
  | dic kvs =>
    obtain ⟨a, kws, e, r, h2⟩ := h
    exact ⟨a, kws, e, r.rd, h2⟩
  | obj c fs =>
    obtain ⟨a, dx, fvs, e, r, o, h2⟩ := h
    exact ⟨a, dx, fvs, e, r.rd, o, h2⟩
  | _ => exact h
theorem RepC.v {a : Addr} {c : Cell} (h : RepC κ as H a c) : IsV κ as H c.vw (.ref a) := by
  cases c with
  | lst ds =>
    obtain ⟨vs, h1, h2⟩ := h
    exact ⟨a, vs, rfl, .inl h1, h2⟩
  | dct kvs =>
    obtain ⟨kws, h1, h2⟩ := h
    exact ⟨a, kws, rfl, .inl h1, h2⟩
  | obj c fs =>
    obtain ⟨dx, fvs, h1, h2, h3⟩ := h
    exact ⟨a, dx, fvs, rfl, .inl h1, h2, h3⟩
theorem IsD.vw (hS : RepS κ as H S) {d : D} {v : V} (h : IsD κ as H d v) : IsV κ as H (Ev.vw S d) v := by
  cases d with
  | ref i =>
    obtain ⟨a, e, rfl⟩ := id h
    have hi : i < as.length := (List.getElem?_eq_some_iff.mp e).1
    rw [hS.len] at hi
    have q : S[i]? = some S[i] := List.getElem?_eq_getElem hi
    have e2 : Ev.vw S (.ref i) = S[i].vw := by simp only [Ev.vw, q]
    rw [e2]
    exact (hS.cell i a _ e q).v
  | _ => exact IsD.v h
theorem IsE.vw (hS : RepS κ as H S) {w : W} {v : V} (h : IsE κ as H w v) : IsV κ as H (w.vw S) v := by
  cases w with
  | d x => exact IsD.vw hS h
  | own c =>
    obtain ⟨a, rfl, _, h⟩ := h
    exact h.v
theorem RepC.at {a : Addr} {c : Cell} (h : RepC κ as H a c) (pr : Pre as as') (st : Imm H H') (e : H' a = H a) : RepC κ as' H' a c := by
  cases c with
  | lst ds => obtain ⟨vs, h1, h2⟩ := h; exact ⟨vs, e.trans h1, h2.mono pr st⟩
  | dct ds => obtain ⟨vs, h1, h2⟩ := h; exact ⟨vs, e.trans h1, h2.mono pr st⟩
  | obj c fs => obtain ⟨dx, vs, h1, h2, h3⟩ := h; exact ⟨dx, vs, e.trans h1, h2, h3.mono pr st⟩
theorem RepC.some {a : Addr} {c : Cell} (h : RepC κ as H a c) : ∃ o, H a = some o ∧ ¬ imm o := by
  cases c with
  | lst ds => obtain ⟨vs, h1, h2⟩ := h; exact ⟨_, h1, fun z => z⟩
  | dct ds => obtain ⟨vs, h1, h2⟩ := h; exact ⟨_, h1, fun z => z⟩
  | obj c fs => obtain ⟨dx, vs, h1, h2, h3⟩ := h; exact ⟨_, h1, fun z => z⟩
theorem IsE.step (st : Step as H as' H') {w : W} {v : V} (h : IsE κ as H w v) : IsE κ as' H' w v := by
  cases w with
  | d x => exact IsD.step st h
  | own c =>
    obtain ⟨a, rfl, n, h⟩ := h
    obtain ⟨o, ho, _⟩ := h.some
    exact ⟨a, rfl, st.notin ho n, h.at st.pr st.imm ((st.keep a o ho n).trans ho.symm)⟩
theorem RepS.mem (hS : RepS κ as H S) {a : Addr} (h : a ∈ as) : ∃ (i : Nat) (c : Cell), as[i]? = some a ∧ S[i]? = some c ∧ RepC κ as H a c := by
  obtain ⟨i, hi, e⟩ := List.getElem_of_mem h
  have q : as[i]? = some a := by rw [List.getElem?_eq_getElem hi, e]
  have hi' : i < S.length := by rw [← hS.len]; exact hi
  exact ⟨i, S[i], q, List.getElem?_eq_getElem hi', hS.cell i a _ q (List.getElem?_eq_getElem hi')⟩
theorem RepS.not_imm (hS : RepS κ as H S) {a : Addr} {o : HO} (h : a ∈ as) (e : H a = some o) : ¬ imm o := by
  obtain ⟨i, c, _, _, r⟩ := hS.mem h
  obtain ⟨u, hu, n⟩ := r.some
  rw [e] at hu
  cases hu
  exact n
theorem fresh {p : Addr} (hp : H p = none) (hS : RepS κ as H S) : p ∉ as := fun h => by
  obtain ⟨i, c, _, _, r⟩ := hS.mem h
  obtain ⟨u, hu, n⟩ := r.some
  rw [hp] at hu
  cases hu
/-! a new object; a cell that is written; a thing of one's own that is written -/
theorem Imm.new {p : Addr} {o : HO} (hp : H p = none) : Imm H (upd H p o) := fun a u h _ => by rw [upd_ne (ne_of_none h hp)]; exact h
theorem Imm.write {p : Addr} {o u : HO} (hp : H p = some u) (hu : ¬ imm u) : Imm H (upd H p o) := fun a u' h n => by
  refine (upd_ne ?_).trans h
  rintro rfl
  rw [hp] at h
  cases h
  exact hu n
theorem upd_there {p : Addr} {o : HO} : ∀ a, H a ≠ none → upd H p o a ≠ none := fun a h z => by
  by_cases e : a = p
  · rw [e, upd_same] at z; cases z
  · rw [upd_ne e] at z; exact h z
theorem Step.new {p : Addr} {o : HO} (hp : H p = none) : Step as H as (upd H p o) :=
  ⟨⟨[], by simp⟩, Imm.new hp, fun a u h _ => by rw [upd_ne (ne_of_none h hp)]; exact h, upd_there⟩
/-- .. that is a cell from now on -/
theorem Step.newC {p : Addr} {o : HO} (hp : H p = none) : Step as H (as ++ [p]) (upd H p o) :=
  ⟨⟨[p], rfl, fun a h => by rw [List.mem_singleton.mp h]; exact hp⟩, Imm.new hp, fun a u h _ => by rw [upd_ne (ne_of_none h hp)]; exact h, upd_there⟩
theorem Step.write {p : Addr} {o u : HO} (h : p ∈ as) (hp : H p = some u) (hu : ¬ Ev.imm u) : Step as H as (upd H p o) :=
  ⟨⟨[], by simp⟩, Imm.write hp hu, fun a v e n => by rw [upd_ne (fun z => n (by rw [z]; exact h))]; exact e, upd_there⟩
theorem RepS.new {p : Addr} {o : HO} (hp : H p = none) (hS : RepS κ as H S) : RepS κ as (upd H p o) S :=
  ⟨hS.len, hS.nd, fun i a c e1 e2 => (hS.cell i a c e1 e2).at (fun _ _ h => h) (Imm.new hp) (upd_ne fun z => fresh hp hS (z ▸ List.mem_of_getElem? e1))⟩
/-- what is none of the cells changes -/
theorem RepS.off {p : Addr} {o : HO} (hS : RepS κ as H S) (n : p ∉ as) (im : Imm H (upd H p o)) : RepS κ as (upd H p o) S :=
  ⟨hS.len, hS.nd, fun i a c e1 e2 => (hS.cell i a c e1 e2).at (fun _ _ h => h) im (upd_ne fun z => n (z ▸ List.mem_of_getElem? e1))⟩
theorem Pre.snoc {p : Addr} : Pre as (as ++ [p]) := fun i a h => by
  rw [List.getElem?_append_left (List.getElem?_eq_some_iff.mp h).1]; exact h
theorem RepS.newC {p : Addr} {o : HO} {c : Cell} (hp : H p = none) (hS : RepS κ as H S) (hc : RepC κ as (upd H p o) p c) : RepS κ (as ++ [p]) (upd H p o) (S ++ [c]) := by
  have np := fresh hp hS
  refine ⟨by simp [hS.len], List.nodup_append.mpr ⟨hS.nd, by simp, fun a ha b hb => ?_⟩, fun i a c' e1 e2 => ?_⟩
  · rw [List.mem_singleton.mp hb]
    rintro rfl
    exact np ha
  · by_cases hi : i < as.length
    · rw [List.getElem?_append_left hi] at e1
      rw [List.getElem?_append_left (by rw [← hS.len]; exact hi)] at e2
      exact (hS.cell i a c' e1 e2).at Pre.snoc (Imm.new hp) (upd_ne fun z => np (z ▸ List.mem_of_getElem? e1))
    · rw [List.getElem?_append_right (by omega)] at e1
      rw [List.getElem?_append_right (by rw [← hS.len]; omega)] at e2
      rw [← hS.len] at e2
      cases q : i - as.length with
      | zero =>
        rw [q] at e1 e2
        cases e1
        cases e2
        exact hc.at Pre.snoc Imm.refl rfl
      | succ n => rw [q] at e1; simp at e1
theorem RepS.put {i : Nat} {p : Addr} {o u : HO} {c : Cell} (hS : RepS κ as H S) (e : as[i]? = some p) (hp : H p = some u) (hu : ¬ imm u) (hc : RepC κ as (upd H p o) p c) : RepS κ as (upd H p o) (S.set i c) := by
  refine ⟨by simp [hS.len], hS.nd, fun j a c' e1 e2 => ?_⟩
  by_cases z : j = i
  · subst z
    rw [e] at e1
    cases e1
    have hj : j < S.length := by rw [← hS.len]; exact (List.getElem?_eq_some_iff.mp e).1
    rw [List.getElem?_set_self hj] at e2
    cases e2
    exact hc
  · rw [List.getElem?_set_ne (Ne.symm z)] at e2
    refine (hS.cell j a c' e1 e2).at (fun _ _ h => h) (Imm.write hp hu) (upd_ne fun q => z ?_)
    subst q
    obtain ⟨hj, e1'⟩ := List.getElem?_eq_some_iff.mp e1
    obtain ⟨hi, e'⟩ := List.getElem?_eq_some_iff.mp e
    exact (List.getElem_inj hS.nd).mp (e1'.trans e'.symm)
end
/-! ### the names -/
structure RelS (κ : Kx) (as : List Addr) (H0 H : Hp) (σ : L2.St) (ρ : Env) : Prop where
  val : ∀ i d, ρ.get i = some (.d d) → ∃ v, σ[i]? = some (some v) ∧ IsD κ as H d v
  own : ∀ i c, ρ.get i = some (.own c) → ∃ a, σ[i]? = some (some (.ref a)) ∧ a ∉ as ∧ H0 a = none ∧ RepC κ as H a c
  dis : ∀ i j c e a, i ≠ j → ρ.get i = some (.own c) → ρ.get j = some (.own e) → σ[i]? = some (some (.ref a)) → σ[j]? ≠ some (some (.ref a))
theorem RelS.step {κ : Kx} {as as' : List Addr} {H0 H H' : Hp} {σ : L2.St} {ρ : Env} (r : RelS κ as H0 H σ ρ) (st : Step as H as' H') : RelS κ as' H0 H' σ ρ :=
  ⟨fun i d e => let ⟨v, h1, h2⟩ := r.val i d e; ⟨v, h1, h2.step st⟩, fun i c e => by
    obtain ⟨a, h1, h2, h3, h4⟩ := r.own i c e
    obtain ⟨o, ho, _⟩ := h4.some
    exact ⟨a, h1, st.notin ho h2, h3, h4.at st.pr st.imm ((st.keep a o ho h2).trans ho.symm)⟩, r.dis⟩
theorem RelS.get {κ : Kx} {as : List Addr} {H0 H : Hp} {σ : L2.St} {ρ : Env} (r : RelS κ as H0 H σ ρ) {i : Nat} {w : W} (e : ρ.get i = some w) : ∃ v, σ[i]? = some (some v) ∧ IsE κ as H w v := by
  cases w with
  | d x => exact r.val i x e
  | own c =>
    obtain ⟨a, h1, h2, _, h4⟩ := r.own i c e
    exact ⟨_, h1, a, rfl, h2, h4⟩
theorem get_put : ∀ (ρ : Env) (i j : Nat) (d : W), Env.get (Env.put ρ i d) j = if i = j ∧ i < ρ.length then some d else Env.get ρ j
  | [], i, j, d => by simp [Env.put, Env.get]
  | x :: r, 0, 0, d => by simp [Env.put, Env.get]
  | x :: r, 0, j + 1, d => by simp [Env.put, Env.get]
  | x :: r, i + 1, 0, d => by simp [Env.put, Env.get]
  | x :: r, i + 1, j + 1, d => by
    have h := get_put r i j d
    simp only [Env.put, Env.get, h, Nat.add_right_cancel_iff, List.length_cons, Nat.add_lt_add_iff_right]
theorem get_del : ∀ (ρ : Env) (i j : Nat), Env.get (Env.del ρ i) j = if i = j then none else Env.get ρ j
  | [], i, j => by simp [Env.del, Env.get]
  | x :: r, 0, 0 => by simp [Env.del, Env.get]
  | x :: r, 0, j + 1 => by simp [Env.del, Env.get]
  | x :: r, i + 1, 0 => by simp [Env.del, Env.get]
  | x :: r, i + 1, j + 1 => by
    have h := get_del r i j
    simp only [Env.del, Env.get, h, Nat.add_right_cancel_iff]
theorem get_none : ∀ (ρ : Env) (i : Nat), ¬ i < ρ.length → Env.get ρ i = none
  | [], _, _ => rfl
  | _ :: _, 0, h => by simp at h
  | _ :: r, i + 1, h => get_none r i (by simpa using h)
section
variable {κ : Kx} {as : List Addr} {H0 H : Hp} {σ : L2.St} {ρ : Env}
theorem RelS.set (r : RelS κ as H0 H σ ρ) {i : Nat} {d : D} {v : V} (hi : i < σ.length) (h : IsD κ as H d v) : RelS κ as H0 H (σ.set i (some v)) (ρ.put i (.d d)) := by
  have key : ∀ j w, (ρ.put i (.d d)).get j = some w → (j = i ∧ w = .d d) ∨ (j ≠ i ∧ ρ.get j = some w) := fun j w e => by
    rw [get_put] at e
    by_cases z : i = j ∧ i < ρ.length
    · rw [if_pos z] at e
      cases e
      exact .inl ⟨z.1.symm, rfl⟩
    · rw [if_neg z] at e
      refine .inr ⟨fun q => ?_, e⟩
      subst q
      rw [get_none ρ j fun q => z ⟨rfl, q⟩] at e
      cases e
  refine ⟨fun j x e => ?_, fun j c e => ?_, fun j k c e a n e1 e2 s1 s2 => ?_⟩
  · rcases key j _ e with ⟨rfl, q⟩ | ⟨n, q⟩
    · cases q
      exact ⟨v, by rw [List.getElem?_set_self hi], h⟩
    · obtain ⟨u, h1, h2⟩ := r.val j x q
      exact ⟨u, by rw [List.getElem?_set_ne (Ne.symm n)]; exact h1, h2⟩
  · rcases key j _ e with ⟨rfl, q⟩ | ⟨n, q⟩
    · cases q
    · obtain ⟨a, h1, h2⟩ := r.own j c q
      exact ⟨a, by rw [List.getElem?_set_ne (Ne.symm n)]; exact h1, h2⟩
  · rcases key j _ e1 with ⟨rfl, q⟩ | ⟨n1, q1⟩
    · cases q
    · rcases key k _ e2 with ⟨rfl, q⟩ | ⟨n2, q2⟩
      · cases q
      · rw [List.getElem?_set_ne (Ne.symm n1)] at s1
        rw [List.getElem?_set_ne (Ne.symm n2)] at s2
        exact r.dis j k c e a n q1 q2 s1 s2
/-- a thing of one's own is new in the names -/
theorem RelS.setO (r : RelS κ as H0 H σ ρ) {i : Nat} {c : Cell} {a : Addr} (hi : i < σ.length) (n : a ∉ as) (h0 : H0 a = none) (h : RepC κ as H a c) (new : ∀ j e, ρ.get j = some (.own e) → j ≠ i → σ[j]? ≠ some (some (.ref a))) :
    RelS κ as H0 H (σ.set i (some (.ref a))) (ρ.put i (.own c)) := by
  have key : ∀ j w, (ρ.put i (.own c)).get j = some w → (j = i ∧ w = .own c) ∨ (j ≠ i ∧ ρ.get j = some w) := fun j w e => by
    rw [get_put] at e
    by_cases z : i = j ∧ i < ρ.length
    · rw [if_pos z] at e
      cases e
      exact .inl ⟨z.1.symm, rfl⟩
    · rw [if_neg z] at e
      refine .inr ⟨fun q => ?_, e⟩
      subst q
      rw [get_none ρ j fun q => z ⟨rfl, q⟩] at e
      cases e
  refine ⟨fun j x e => ?_, fun j c' e => ?_, fun j k c1 c2 b nn e1 e2 s1 s2 => ?_⟩
  · rcases key j _ e with ⟨rfl, q⟩ | ⟨n, q⟩
    · cases q
    · obtain ⟨u, h1, h2⟩ := r.val j x q
      exact ⟨u, by rw [List.getElem?_set_ne (Ne.symm n)]; exact h1, h2⟩
  · rcases key j _ e with ⟨rfl, q⟩ | ⟨n', q⟩
    · cases q
      exact ⟨a, by rw [List.getElem?_set_self hi], n, h0, h⟩
    · obtain ⟨b, h1, h2⟩ := r.own j c' q
      exact ⟨b, by rw [List.getElem?_set_ne (Ne.symm n')]; exact h1, h2⟩
  · rcases key j _ e1 with ⟨rfl, q⟩ | ⟨n1, q1⟩
    · rw [List.getElem?_set_self hi] at s1
      cases s1
      rcases key k _ e2 with ⟨rfl, q'⟩ | ⟨n2, q2⟩
      · exact nn rfl
      · rw [List.getElem?_set_ne (Ne.symm n2)] at s2
        exact new k _ q2 n2 s2
    · rw [List.getElem?_set_ne (Ne.symm n1)] at s1
      rcases key k _ e2 with ⟨rfl, q'⟩ | ⟨n2, q2⟩
      · rw [List.getElem?_set_self hi] at s2
        cases s2
        exact new j _ q1 n1 s1
      · rw [List.getElem?_set_ne (Ne.symm n2)] at s2
        exact r.dis j k _ _ b nn q1 q2 s1 s2
/-- a thing of one's own is written -/
theorem RelS.mut (r : RelS κ as H0 H σ ρ) {i : Nat} {c c' : Cell} {a : Addr} {o u : HO} (e : ρ.get i = some (.own c)) (s : σ[i]? = some (some (.ref a))) (ha : H a = some u) (hu : ¬ imm u) (h : RepC κ as (upd H a o) a c') :
    RelS κ as H0 (upd H a o) σ (ρ.put i (.own c')) := by
  have key : ∀ j w, (ρ.put i (.own c')).get j = some w → (j = i ∧ w = .own c') ∨ (j ≠ i ∧ ρ.get j = some w) := fun j w e => by
    rw [get_put] at e
    by_cases z : i = j ∧ i < ρ.length
    · rw [if_pos z] at e
      cases e
      exact .inl ⟨z.1.symm, rfl⟩
    · rw [if_neg z] at e
      refine .inr ⟨fun q => ?_, e⟩
      subst q
      rw [get_none ρ j fun q => z ⟨rfl, q⟩] at e
      cases e
  have im : Imm H (upd H a o) := Imm.write ha hu
  obtain ⟨b, s', n, h0, hc⟩ := r.own i c e
  rw [s] at s'
  cases s'
  refine ⟨fun j x e => ?_, fun j c1 e1 => ?_, fun j k c1 c2 b nn e1 e2 s1 s2 => ?_⟩
  · rcases key j _ e with ⟨rfl, q⟩ | ⟨n, q⟩
    · cases q
    · obtain ⟨u, h1, h2⟩ := r.val j x q
      exact ⟨u, h1, h2.mono (fun _ _ h => h) im⟩
  · rcases key j _ e1 with ⟨rfl, q⟩ | ⟨n', q⟩
    · cases q
      exact ⟨a, s, n, h0, h⟩
    · obtain ⟨b, h1, h2, h3, h4⟩ := r.own j c1 q
      exact ⟨b, h1, h2, h3, h4.at (fun _ _ h => h) im (upd_ne fun z => r.dis i j _ _ a (Ne.symm n') e q s (z ▸ h1))⟩
  · have old : ∀ j w, (ρ.put i (.own c')).get j = some (.own w) → ∃ w', ρ.get j = some (.own w') := fun j w q => by
      rcases key j _ q with ⟨rfl, _⟩ | ⟨_, q⟩
      · exact ⟨_, e⟩
      · exact ⟨_, q⟩
    obtain ⟨w1, q1⟩ := old j _ e1
    obtain ⟨w2, q2⟩ := old k _ e2
    exact r.dis j k _ _ b nn q1 q2 s1 s2
theorem RelS.del (r : RelS κ as H0 H σ ρ) (i : Nat) : RelS κ as H0 H σ (ρ.del i) := by
  have key : ∀ j w, (ρ.del i).get j = some w → ρ.get j = some w := fun j w e => by
    rw [get_del] at e
    by_cases z : i = j
    · rw [if_pos z] at e; cases e
    · rw [if_neg z] at e; exact e
  exact ⟨fun j x e => r.val j x (key j _ e), fun j c e => r.own j c (key j _ e), fun j k c e a n e1 e2 => r.dis j k c e a n (key j _ e1) (key k _ e2)⟩
theorem RelS.dels (r : RelS κ as H0 H σ ρ) : ∀ is : List Nat, RelS κ as H0 H σ (ρ.dels is) := by
  intro is
  induction is generalizing ρ with
  | nil => exact r
  | cons i is ih => exact ih (r.del i)
end
end Ev
set_option maxHeartbeats 1000000
/-! Ev, part 3: readings. -/
namespace Ev
open PySem PySem.Spec PyProof.Rows L2

/-- an exception behind the layer's words -/
def IsX (κ : Kx) (as : List Addr) (H : Hp) (x : D) (cls : Value) (dd : Option Addr) : Prop := match x with
  | .exc c fs => cls = .ref (He.ga κ.K (Str.ofString c)) ∧ (fs ≠ [] → ∃ dx fvs, dd = some dx ∧ H dx = some (.xd fvs) ∧ IsFs κ as H fs fvs)
  | _ => False
def Out {α : Type} (r : R α) (k : α → Sto → Prop) (ke : D → Sto → Prop) : Prop := match r with
  | .ok a S => k a S
  | .exc e S => ke e S
  | .bad => False
section
variable {α β : Type} {r : R α} {k k' : α → Sto → Prop} {ke ke' : D → Sto → Prop}
theorem Out.of_bind {f : α → Sto → R β} {k : β → Sto → Prop} (h : Out (r.bind f) k ke) : Out r (fun a S => Out (f a S) k ke) ke := by
  cases r <;> exact h
theorem Out.imp (h : Out r k ke) (a : ∀ x S, k x S → k' x S) (b : ∀ x S, ke x S → ke' x S) : Out r k' ke' := by
  cases r with
  | ok x S => exact a x S h
  | exc e S => exact b e S h
  | bad => exact h.elim
theorem Out.of_chk {b : Bool} (h : Out (R.chk b r) k ke) : b = true ∧ Out r k ke := by
  unfold R.chk at h
  by_cases z : b = true
  · rw [if_pos z] at h; exact ⟨z, h⟩
  · rw [if_neg z] at h; exact h.elim
theorem Out.of_of {S : Sto} {o : Option α} (h : Out (R.of S o) k ke) : ∃ a, o = some a ∧ k a S := by
  cases o with
  | none => exact h.elim
  | some a => exact ⟨a, rfl, h⟩
end
theorem Out.of_w {r : R D} {k : W → Sto → Prop} {ke : D → Sto → Prop} (h : Out r.w k ke) : Out r (fun d S => k (.d d) S) ke := by
  cases r <;> exact h
theorem Out.of_d {r : R W} {k : D → Sto → Prop} {ke : D → Sto → Prop} (h : Out r.d k ke) : Out r (fun w S => ∃ d, w = .d d ∧ k d S) ke := by
  cases r with
  | ok w S => cases w with
    | d x => exact ⟨x, rfl, h⟩
    | own c => exact h.elim
  | exc e S => exact h
  | bad => exact h
theorem Out.of_t {r : R W} {k : Bool → Sto → Prop} {ke : D → Sto → Prop} (h : Out r.t k ke) : Out r (fun w S => Out (truD S (w.vw S)) k ke) ke := by
  cases r <;> exact h

/-! what is wanted: of a value, of data, of an exception, of a truth, of a list -/
def kW (κ : Kx) (as : List Addr) (H : Hp) (Q : VK) : W → Sto → Prop := fun w S' => ∀ as' H' v, Step as H as' H' → IsE κ as' H' w v → RepS κ as' H' S' → Q v H'
def kD (κ : Kx) (as : List Addr) (H : Hp) (Q : VK) : D → Sto → Prop := fun d S' => ∀ as' H' v, Step as H as' H' → IsD κ as' H' d v → RepS κ as' H' S' → Q v H'
def kX (κ : Kx) (as : List Addr) (H : Hp) (σ : L2.St) (Wx : L2.WX) : D → Sto → Prop := fun e S' => ∀ as' H' cls dd, Step as H as' H' → IsX κ as' H' e cls dd → RepS κ as' H' S' → Wx cls dd σ H'
def kT (κ : Kx) (as : List Addr) (H : Hp) (Q : Bool → Hp → Prop) : Bool → Sto → Prop := fun b S' => ∀ as' H', Step as H as' H' → RepS κ as' H' S' → Q b H'
def kDs (κ : Kx) (as : List Addr) (H : Hp) (Q : List V → Hp → Prop) : List D → Sto → Prop := fun ds S' => ∀ as' H' vs, Step as H as' H' → IsDs κ as' H' ds vs → RepS κ as' H' S' → Q vs H'
def IsEs (κ : Kx) (as : List Addr) (H : Hp) : List W → List V → Prop
  | [], [] => True
  | d :: ds, v :: vs => IsE κ as H d v ∧ IsEs κ as H ds vs
  | _, _ => False
def kWs (κ : Kx) (as : List Addr) (H : Hp) (Q : List V → Hp → Prop) : List W → Sto → Prop := fun ds S' => ∀ as' H' vs, Step as H as' H' → IsEs κ as' H' ds vs → RepS κ as' H' S' → Q vs H'
/-- a new thing that may change -/
def kN (κ : Kx) (as : List Addr) (H : Hp) (Q : VK) : Cell → Sto → Prop := fun c S' => ∀ as' H' a, Step as H as' H' → H a = none → a ∉ as' → RepC κ as' H' a c → RepS κ as' H' S' → Q (.ref a) H'
theorem IsEs.step {κ : Kx} {as as' : List Addr} {H H' : Hp} (st : Step as H as' H') : ∀ {ws : List W} {vs : List V}, IsEs κ as H ws vs → IsEs κ as' H' ws vs
  | [], [], _ => True.intro
  | _ :: _, _ :: _, h => ⟨h.1.step st, IsEs.step st h.2⟩
  | [], _ :: _, h => h.elim
  | _ :: _, [], h => h.elim
section
variable {κ : Kx} {as as' : List Addr} {H H' : Hp} {σ : L2.St} {Wx : L2.WX} {Q : VK}
theorem kW.on (st : Step as H as' H') {w : W} {S : Sto} (k : kW κ as H Q w S) : kW κ as' H' Q w S := fun as2 H2 v st2 r hS => k as2 H2 v (st.trans st2) r hS
theorem kD.on (st : Step as H as' H') {w : D} {S : Sto} (k : kD κ as H Q w S) : kD κ as' H' Q w S := fun as2 H2 v st2 r hS => k as2 H2 v (st.trans st2) r hS
theorem kX.on (st : Step as H as' H') {w : D} {S : Sto} (k : kX κ as H σ Wx w S) : kX κ as' H' σ Wx w S := fun as2 H2 c d st2 r hS => k as2 H2 c d (st.trans st2) r hS
theorem kT.on {Q : Bool → Hp → Prop} (st : Step as H as' H') {w : Bool} {S : Sto} (k : kT κ as H Q w S) : kT κ as' H' Q w S := fun as2 H2 st2 hS => k as2 H2 (st.trans st2) hS
theorem kDs.on {Q : List V → Hp → Prop} (st : Step as H as' H') {w : List D} {S : Sto} (k : kDs κ as H Q w S) : kDs κ as' H' Q w S := fun as2 H2 v st2 r hS => k as2 H2 v (st.trans st2) r hS
theorem kN.on (st : Step as H as' H') {w : Cell} {S : Sto} (k : kN κ as H Q w S) : kN κ as' H' Q w S := fun as2 H2 v st2 n m r hS => k as2 H2 v (st.trans st2) (by
  cases q : H v with
  | none => rfl
  | some o => exact absurd n (st.there v (by rw [q]; simp))) m r hS
theorem kW.here {w : W} {v : V} {S : Sto} (k : kW κ as H Q w S) (r : IsE κ as H w v) (hS : RepS κ as H S) : Q v H := k as H v Step.refl r hS
theorem kD.here {w : D} {v : V} {S : Sto} (k : kD κ as H Q w S) (r : IsD κ as H w v) (hS : RepS κ as H S) : Q v H := k as H v Step.refl r hS
theorem kW.d {d : D} {S : Sto} (k : kW κ as H Q (.d d) S) : kD κ as H Q d S := k
end
/-! readings -/
abbrev MW := Env → Sto → R W
def rdW (κ : Kx) (Wx : L2.WX) (m : MW) : TE := fun σ H Q => ∃ as H0 ρ S, RelS κ as H0 H σ ρ ∧ RepS κ as H S ∧ Out (m ρ S) (kW κ as H Q) (kX κ as H σ Wx)
def rdT (κ : Kx) (Wx : L2.WX) (m : Env → Sto → R Bool) : TT := fun σ H Q => ∃ as H0 ρ S, RelS κ as H0 H σ ρ ∧ RepS κ as H S ∧ Out (m ρ S) (kT κ as H Q) (kX κ as H σ Wx)
def rdDs (κ : Kx) (Wx : L2.WX) (m : Env → Sto → R (List D)) : TA := fun σ H Q => ∃ as H0 ρ S, RelS κ as H0 H σ ρ ∧ RepS κ as H S ∧ Out (m ρ S) (kDs κ as H Q) (kX κ as H σ Wx)
def rdWs (κ : Kx) (Wx : L2.WX) (m : Env → Sto → R (List W)) : TA := fun σ H Q => ∃ as H0 ρ S, RelS κ as H0 H σ ρ ∧ RepS κ as H S ∧ Out (m ρ S) (kWs κ as H Q) (kX κ as H σ Wx)
def rdN (κ : Kx) (Wx : L2.WX) (m : Env → Sto → R Cell) : TE := fun σ H Q => ∃ as H0 ρ S, RelS κ as H0 H σ ρ ∧ RepS κ as H S ∧ Out (m ρ S) (kN κ as H Q) (kX κ as H σ Wx)
section
variable {κ : Kx} {Wx : L2.WX} {as : List Addr} {H0 H : Hp} {σ : L2.St} {ρ : Env} {S : Sto}
theorem rdW.mk {m : MW} {Q : VK} (rs : RelS κ as H0 H σ ρ) (hS : RepS κ as H S) {k : W → Sto → Prop} (o : Out (m ρ S) k (kX κ as H σ Wx)) (h : ∀ w S1 as1 H1 v, k w S1 → Step as H as1 H1 → IsE κ as1 H1 w v → RepS κ as1 H1 S1 → Q v H1) : rdW κ Wx m σ H Q :=
  ⟨as, H0, ρ, S, rs, hS, o.imp (fun w S1 kk as1 H1 v st r hS1 => h w S1 as1 H1 v kk st r hS1) fun _ _ z => z⟩
theorem rdT.mk {m : Env → Sto → R Bool} {Q : Bool → Hp → Prop} (rs : RelS κ as H0 H σ ρ) (hS : RepS κ as H S) {k : Bool → Sto → Prop} (o : Out (m ρ S) k (kX κ as H σ Wx)) (h : ∀ w S1 as1 H1, k w S1 → Step as H as1 H1 → RepS κ as1 H1 S1 → Q w H1) : rdT κ Wx m σ H Q :=
  ⟨as, H0, ρ, S, rs, hS, o.imp (fun w S1 kk as1 H1 st hS1 => h w S1 as1 H1 kk st hS1) fun _ _ z => z⟩
theorem rdDs.mk {m : Env → Sto → R (List D)} {Q : List V → Hp → Prop} (rs : RelS κ as H0 H σ ρ) (hS : RepS κ as H S) {k : List D → Sto → Prop} (o : Out (m ρ S) k (kX κ as H σ Wx)) (h : ∀ w S1 as1 H1 vs, k w S1 → Step as H as1 H1 → IsDs κ as1 H1 w vs → RepS κ as1 H1 S1 → Q vs H1) : rdDs κ Wx m σ H Q :=
  ⟨as, H0, ρ, S, rs, hS, o.imp (fun w S1 kk as1 H1 v st r hS1 => h w S1 as1 H1 v kk st r hS1) fun _ _ z => z⟩
theorem rdWs.mk {m : Env → Sto → R (List W)} {Q : List V → Hp → Prop} (rs : RelS κ as H0 H σ ρ) (hS : RepS κ as H S) {k : List W → Sto → Prop} (o : Out (m ρ S) k (kX κ as H σ Wx)) (h : ∀ w S1 as1 H1 vs, k w S1 → Step as H as1 H1 → IsEs κ as1 H1 w vs → RepS κ as1 H1 S1 → Q vs H1) : rdWs κ Wx m σ H Q :=
  ⟨as, H0, ρ, S, rs, hS, o.imp (fun w S1 kk as1 H1 v st r hS1 => h w S1 as1 H1 v kk st r hS1) fun _ _ z => z⟩
theorem rdN.mk {m : Env → Sto → R Cell} {Q : VK} (rs : RelS κ as H0 H σ ρ) (hS : RepS κ as H S) {k : Cell → Sto → Prop} (o : Out (m ρ S) k (kX κ as H σ Wx)) (h : ∀ c S1 as1 H1 a, k c S1 → Step as H as1 H1 → H a = none → a ∉ as1 → RepC κ as1 H1 a c → RepS κ as1 H1 S1 → Q (.ref a) H1) : rdN κ Wx m σ H Q :=
  ⟨as, H0, ρ, S, rs, hS, o.imp (fun w S1 kk as1 H1 v st n i r hS1 => h w S1 as1 H1 v kk st n i r hS1) fun _ _ z => z⟩
theorem Out.onX {α : Type} {r : R α} {k : α → Sto → Prop} {as1 : List Addr} {H1 : Hp} (st : Step as H as1 H1) (o : Out r k (kX κ as H σ Wx)) : Out r k (kX κ as1 H1 σ Wx) := o.imp (fun _ _ z => z) fun _ _ z => kX.on st z
end
section
variable {κ : Kx} {Wx : L2.WX} {as as1 : List Addr} {H H1 : Hp} {σ : L2.St}
theorem Out.onW {r : R W} {Q : VK} (st : Step as H as1 H1) (o : Out r (kW κ as H Q) (kX κ as H σ Wx)) : Out r (kW κ as1 H1 Q) (kX κ as1 H1 σ Wx) := o.imp (fun _ _ z => kW.on st z) fun _ _ z => kX.on st z
theorem Out.onT {r : R Bool} {Q : Bool → Hp → Prop} (st : Step as H as1 H1) (o : Out r (kT κ as H Q) (kX κ as H σ Wx)) : Out r (kT κ as1 H1 Q) (kX κ as1 H1 σ Wx) := o.imp (fun _ _ z => kT.on st z) fun _ _ z => kX.on st z
theorem Out.onDs {r : R (List D)} {Q : List V → Hp → Prop} (st : Step as H as1 H1) (o : Out r (kDs κ as H Q) (kX κ as H σ Wx)) : Out r (kDs κ as1 H1 Q) (kX κ as1 H1 σ Wx) := o.imp (fun _ _ z => kDs.on st z) fun _ _ z => kX.on st z
theorem kWs.on {Q : List V → Hp → Prop} (st : Step as H as1 H1) {w : List W} {S : Sto} (k : kWs κ as H Q w S) : kWs κ as1 H1 Q w S := fun as2 H2 v st2 r hS => k as2 H2 v (st.trans st2) r hS
theorem Out.onWs {r : R (List W)} {Q : List V → Hp → Prop} (st : Step as H as1 H1) (o : Out r (kWs κ as H Q) (kX κ as H σ Wx)) : Out r (kWs κ as1 H1 Q) (kX κ as1 H1 σ Wx) := o.imp (fun _ _ z => kWs.on st z) fun _ _ z => kX.on st z
theorem Out.onN {r : R Cell} {Q : VK} (st : Step as H as1 H1) (o : Out r (kN κ as H Q) (kX κ as H σ Wx)) : Out r (kN κ as1 H1 Q) (kX κ as1 H1 σ Wx) := o.imp (fun _ _ z => kN.on st z) fun _ _ z => kX.on st z
end
theorem PE.imp {X : Cx} {e : Expr} {t t' : TE} (h : PE X e t) (i : ∀ σ H Q, t' σ H Q → t σ H Q) : PE X e t' := ⟨fun pins s σ H Q I q => h.run pins s σ H Q I (i σ H Q q)⟩
theorem PT.imp {X : Cx} {e : Expr} {t t' : TT} (h : PT X e t) (i : ∀ σ H Q, t' σ H Q → t σ H Q) : PT X e t' := ⟨fun pins s σ H Q I q => h.run pins s σ H Q I (i σ H Q q)⟩
theorem PW.imp {X : Cx} {e : Expr} {t t' : TT} (h : PW X e t) (i : ∀ σ H Q, t' σ H Q → t σ H Q) : PW X e t' := ⟨fun wh pins s σ H Q I q => h.run wh pins s σ H Q I (i σ H Q q)⟩
theorem PA.imp {X : Cx} {e : List Expr} {t t' : TA} (h : PA X e t) (i : ∀ σ H Q, t' σ H Q → t σ H Q) : PA X e t' := ⟨fun pos pins s σ H Q I q => h.run pos pins s σ H Q I (i σ H Q q)⟩
theorem PS.imp {X : Cx} {e : Stmt} {t t' : TS} (h : PS X e t) (i : ∀ D σ H, t' D σ H → t D σ H) : PS X e t' := ⟨fun pins s σ H D I q => h.run pins s σ H D I (i D σ H q)⟩
theorem PSs.imp {X : Cx} {e : List Stmt} {t t' : TS} (h : PSs X e t) (i : ∀ D σ H, t' D σ H → t D σ H) : PSs X e t' := ⟨fun pins s σ H D I q => h.run pins s σ H D I (i D σ H q)⟩
theorem OpR.imp {X : Cx} {f : Value → Value → Sem Value} {r r' : R2} (h : OpR X f r) (i : ∀ x y H Q, r' x y H Q → r x y H Q) : OpR X f r' := fun pins s σ H x y v u Q I rx ry q => h pins s σ H x y v u Q I rx ry (i x y H Q q)
theorem OpR.use {X : Cx} {f : Value → Value → Sem Value} {r : R2} (h : OpR X f r) {pins : List (Addr × Obj)} {s : Shared} {σ : L2.St} {H : Hp} {x y : V} {v u : Value} {Q : VK} (I : Inv X pins σ H s) (rx : RelV x v) (ry : RelV y u) (q : r x y H Q) :
    wpAny (model X.prog X.w) X.A (f v u) (EP X pins σ Q) X.xe s := h pins s σ H x y v u Q I rx ry q
theorem CallR.use {X : Cx} {f : Value} {r : List V → Hp → VK → Prop} (h : CallR X f r) {pins : List (Addr × Obj)} {s : Shared} {σ : L2.St} {H : Hp} {xs : List V} {us : List Value} {Q : VK} (I : Inv X pins σ H s) (rx : Vals xs us) (q : r xs H Q) :
    wpAny (model X.prog X.w) X.A (PySem.call f us) (EP X pins σ Q) X.xe s := h pins s σ H xs us Q I rx q

/-! ### to freeze -/
def soft : HO → Prop
  | .lst _ => True
  | .dK _ => True
  | .ins _ _ _ => True
  | _ => False
theorem freeze {X : Cx} {pins : List (Addr × Obj)} {σ : L2.St} {H : Hp} {s : Shared} {a : Addr} {u : HO} (I : Inv X pins σ H s) (h : H a = some u) (hu : soft u) : ∃ o, Inv X pins σ (upd H a (.frz o u)) s := by
  have ok := I.hok a u h
  have mu : Mut (H a) := by
    rw [h]
    cases u <;> first | exact True.intro | exact hu.elim
  have ex : ∃ o, s.heap.get? a = some o := by
    cases u with
    | lst xs => obtain ⟨_, _, _, _, e⟩ := ok; exact ⟨_, e⟩
    | dK kvs => obtain ⟨_, _, _, _, o, _, _, e, _⟩ := ok; exact ⟨o, e⟩
    | ins C dx fs => obtain ⟨_, _, _, e, _⟩ := ok; exact ⟨_, e⟩
    | _ => exact hu.elim
  obtain ⟨o, e⟩ := ex
  have new : ObjOk X.prog X.w (upd H a (.frz o u)) s.heap a (.frz o u) := by
    refine ⟨e, ?_⟩
    cases u with
    | lst xs => exact ok
    | dK kvs => exact ok
    | ins C dx fs =>
      obtain ⟨d, z, ne, r⟩ := ok
      exact ⟨by rw [upd_ne ne]; exact d, z, ne, r⟩
    | _ => exact hu.elim
  exact ⟨o, I.write (h' := s.heap) (t' := s.toks) mu (.inl rfl) (fun _ _ _ q => q) ⟨o, e⟩ new⟩
/-- .. or to freeze what is handed back -/
def frzK (Q : VK) : VK := fun v H => Q v H ∨ ∃ p u, v = .ref p ∧ H p = some u ∧ soft u ∧ ∀ o, Q v (upd H p (.frz o u))
theorem EP.frz {X : Cx} {pins : List (Addr × Obj)} {σ : L2.St} {Q : VK} {u : Value} {s : Shared} (h : EP X pins σ (frzK Q) u s) : EP X pins σ Q u s := by
  obtain ⟨v, H', I, r, q | ⟨p, o, rfl, e, hu, q⟩⟩ := h
  · exact ⟨v, H', I, r, q⟩
  · obtain ⟨ob, I'⟩ := freeze I e hu
    exact ⟨_, _, I', r, q ob⟩
theorem PE.frz {X : Cx} {e : Expr} {t : TE} (h : PE X e t) : PE X e (fun σ H Q => t σ H (frzK Q)) := ⟨fun pins s σ H Q I q => thn (h.run pins s σ H _ I q) fun _ _ z => EP.frz z⟩
section
variable {κ : Kx} {as : List Addr} {H : Hp} {S : Sto}
theorem soft_of {a : Addr} {c : Cell} (h : RepC κ as H a c) : ∃ u, H a = some u ∧ soft u ∧ ¬ imm u := by
  cases c with
  | lst ds => obtain ⟨vs, h1, h2⟩ := h; exact ⟨_, h1, True.intro, fun z => z⟩
  | dct ds => obtain ⟨vs, h1, h2⟩ := h; exact ⟨_, h1, True.intro, fun z => z⟩
  | obj c fs => obtain ⟨dx, vs, h1, h2, h3⟩ := h; exact ⟨_, h1, True.intro, fun z => z⟩
/-- what is frozen is a value -/
theorem frozen {a : Addr} {c : Cell} {u : HO} {o : Obj} (h : RepC κ as H a c) (e : H a = some u) : IsD κ as (upd H a (.frz o u)) c.vw (.ref a) := by
  obtain ⟨u', e', _, n⟩ := soft_of h
  rw [e] at e'
  cases e'
  have im : Imm H (upd H a (.frz o u)) := Imm.write e n
  cases c with
  | lst ds =>
    obtain ⟨vs, h1, h2⟩ := h
    rw [e] at h1
    cases h1
    exact ⟨a, vs, rfl, ⟨o, upd_same⟩, h2.mono (fun _ _ h => h) im⟩
  | dct ds =>
    obtain ⟨vs, h1, h2⟩ := h
    rw [e] at h1
    cases h1
    exact ⟨a, vs, rfl, ⟨o, upd_same⟩, h2.mono (fun _ _ h => h) im⟩
  | obj c fs =>
    obtain ⟨dx, vs, h1, h2, h3⟩ := h
    rw [e] at h1
    cases h1
    exact ⟨a, dx, vs, rfl, ⟨o, upd_same⟩, h2, h3.mono (fun _ _ h => h) im⟩
/-- a new thing is frozen: a step from ahead of it -/
theorem Step.frz {as0 : List Addr} {H0 : Hp} {a : Addr} {u : HO} {o : Obj} (st : Step as0 H0 as H) (n : H0 a = none) (e : H a = some u) (hu : ¬ Ev.imm u) : Step as0 H0 as (upd H a (.frz o u)) :=
  ⟨st.ext, fun b v h i => by rw [upd_ne (ne_of_none h n)]; exact st.imm b v h i, fun b v h i => by rw [upd_ne (ne_of_none h n)]; exact st.keep b v h i, fun b h => upd_there b (st.there b h)⟩
end
/-- frozen at once -/
theorem pe_frz {X : Cx} {κ : Kx} {Wx : L2.WX} {e : Expr} {m : Env → Sto → R Cell} (h : PE X e (rdN κ Wx m)) : PE X e (rdW κ Wx fun ρ S => (m ρ S).bind fun c S1 => .ok (.d c.vw) S1) := by
  refine PE.imp (PE.frz h) fun σ H Q ⟨as, H0, ρ, S, rs, hS, w⟩ => rdN.mk rs hS w.of_bind fun c S1 as1 H1 a k st n i r hS1 => ?_
  obtain ⟨u, eu, hu, nu⟩ := soft_of r
  exact .inr ⟨a, u, rfl, eu, hu, fun o => k as1 _ _ (st.frz n eu nu) (frozen r eu) (hS1.off i (Imm.write eu nu))⟩
/-- a cell at once -/
theorem pe_cel {X : Cx} {κ : Kx} {Wx : L2.WX} {e : Expr} {m : Env → Sto → R Cell} (h : PE X e (rdN κ Wx m)) : PE X e (rdW κ Wx fun ρ S => (m ρ S).bind fun c S1 => .ok (.d (.ref S1.length)) (S1 ++ [c])) := by
  refine PE.imp h fun σ H Q ⟨as, H0, ρ, S, rs, hS, w⟩ => rdN.mk rs hS w.of_bind fun c S1 as1 H1 a k st n i r hS1 => ?_
  have hS2 : RepS κ (as1 ++ [a]) H1 (S1 ++ [c]) := by
    refine ⟨by simp [hS1.len], List.nodup_append.mpr ⟨hS1.nd, by simp, fun x hx y hy => ?_⟩, fun j b c' e1 e2 => ?_⟩
    · rw [List.mem_singleton.mp hy]
      rintro rfl
      exact i hx
    · by_cases hj : j < as1.length
      · rw [List.getElem?_append_left hj] at e1
        rw [List.getElem?_append_left (by rw [← hS1.len]; exact hj)] at e2
        exact (hS1.cell j b c' e1 e2).at Pre.snoc Imm.refl rfl
      · rw [List.getElem?_append_right (by omega)] at e1
        rw [List.getElem?_append_right (by rw [← hS1.len]; omega)] at e2
        rw [← hS1.len] at e2
        cases q : j - as1.length with
        | zero =>
          rw [q] at e1 e2
          cases e1
          cases e2
          exact r.at Pre.snoc Imm.refl rfl
        | succ m => rw [q] at e1; simp at e1
  obtain ⟨t, et, ft⟩ := st.ext
  have st2 : Step as H (as1 ++ [a]) H1 := ⟨⟨t ++ [a], by rw [et, List.append_assoc], fun b hb => by
    rcases List.mem_append.mp hb with hb | hb
    · exact ft b hb
    · rw [List.mem_singleton.mp hb]; exact n⟩, st.imm, st.keep, st.there⟩
  exact k _ H1 _ st2 ⟨a, by rw [← hS1.len]; simp, rfl⟩ hS2
end Ev
set_option maxHeartbeats 2000000
/-! Ev, part 4: the operators. -/
namespace Ev
open PySem PySem.Spec PyProof.Rows L2

theorem szOk_of {n : Nat} (h : szOk n = true) : n ≤ sizeLine := by
  rw [sizeLine_eq]
  exact of_decide_eq_true h
theorem ba2 {a b : Bool} (h : (a && b) = true) : a = true ∧ b = true := Bool.and_eq_true_iff.mp h
theorem repOk_of {n : Nat} {j : Int} (h : repOk n j = true) : n * j.toNat ≤ sizeLine ∧ -1000000 < j ∧ j < 1000000 := by
  obtain ⟨h1, h2⟩ := ba2 h
  obtain ⟨h0, h1⟩ := ba2 h1
  exact ⟨szOk_of h0, of_decide_eq_true h1, of_decide_eq_true h2⟩
def mulP (i j : Int) : Prop := i.natAbs.log2 < 30000000 ∧ j.natAbs.log2 < 30000000
theorem mulP.ok {i j : Int} (h : mulP i j) : IntMulOk i j := by
  have b : ∀ x : Int, Builtin.Int.intBits x ≤ x.natAbs.log2 + 1 := fun x => by
    unfold Builtin.Int.intBits
    split <;> omega
  have h1 := b i
  have h2 := b j
  have h3 := h.1
  have h4 := h.2
  have e : bitsLine = 134217728 := by decide
  unfold IntMulOk
  intro z
  rw [Bool.and_eq_true] at z
  have z2 := z.2
  unfold Builtin.Int.intTooBig at z2
  have z3 := of_decide_eq_true z2
  rw [e] at z3
  omega
def bopE : Bop → Operator
  | .add => .Add
  | .sub => .Sub
  | .mul => .Mult
  | .fdv => .FloorDiv
  | .mod => .Mod
  | .pow => .Pow
  | .shr => .RShift
  | .band => .BitAnd
section
variable {X : Cx} {κ : Kx} {as : List Addr} {H : Hp} {S : Sto} {Q : VK}
theorem rdM {pins : List (Addr × Obj)} {s : Shared} {σ : L2.St} {H : Hp} {l : Addr} {xs : List V} (I : Inv X pins σ H s) (hH : Rd H l (.lst xs)) : xs.length ≤ sizeLine ∧ ∃ (its : List Value) (n : Nat), Vals xs its ∧ xs.length = its.length ∧ s.heap.get? l = some { cls := .type "list", data := .seq its.toArray n } := by
  obtain ⟨z, its, n, r, e⟩ := hH.ok I.hok
  exact ⟨z, its, n, r, r.length, e⟩
theorem op_mulM : OpR X (binaryOp .Mult) (rI mulP fun i j => .int (i * j)) := opI fun _ _ _ _ _ _ _ hc q => mul_int q hc.ok
theorem kD.tup (k : kD κ as H Q (.tup ds) S) (hS : RepS κ as H S) {vs : List V} (r : IsDs κ as H ds vs) : ∀ p, H p = none → Q (.ref p) (upd H p (.tup vs)) := fun p hp =>
  k as _ _ (Step.new hp) ⟨p, vs, rfl, .inl (.inl upd_same), r.mono (fun _ _ h => h) (Imm.new hp)⟩ (RepS.new hp hS)
/-- t + u, whatever their lengths -/
theorem op_catT' : OpR X (binaryOp .Add) (fun x y H Q => ∃ a b xs ys, x = .ref a ∧ y = .ref b ∧ SqT X.K H a xs ∧ SqT X.K H b ys ∧ xs.length + ys.length ≤ sizeLine ∧ (xs = [] → Q (.ref b) H) ∧ (ys = [] → Q (.ref a) H) ∧ (∀ p, H p = none → Q (.ref p) (upd H p (.tup (xs ++ ys))))) := by
  intro pins s σ H x y v u Q I rx ry h
  obtain ⟨a, b, xs, ys, rfl, rfl, ha, hb, hz, q0, q1, q2⟩ := h
  by_cases hx : xs = []
  · cases rx
    cases ry
    obtain ⟨its, r1, p1, _⟩ := I.tuple ha
    obtain ⟨its2, r2, p2, _⟩ := I.tuple hb
    obtain ⟨⟨cls, dd, data, sl⟩, ho, hc, n, hd⟩ := id p1
    obtain ⟨⟨cls2, dd2, data2, sl2⟩, ho2, hc2, n2, hd2⟩ := id p2
    simp only at hc hd hc2 hd2
    subst hc hd hc2 hd2
    have e0 : its.toArray.isEmpty = true := by
      have := r1.length
      rw [hx] at this
      cases its with
      | nil => rfl
      | cons a b => simp at this
    exact concat_meets ⟨_, ho, rfl⟩ ⟨_, ho2, rfl⟩ noFill_tuple_add seq_tuple_add PySem.F.slot_tuple_add PySem.F.entry_tuple_add (PySem.F.args_tuple_add_2 _ _) (tuple_addW0 a b its.toArray its2.toArray n n2 dd dd2 sl sl2 e0) ⟨ho, ho2, ⟨.ref b, H, I, rfl, q0 hx⟩⟩
  · exact OpR.use op_catT I rx ry ⟨a, b, xs, ys, rfl, rfl, ha, hb, hx, hz, q1, fun _ => q2⟩
theorem fold_app (x : Array Nat) : ∀ (m : Nat) (acc : Array Nat), (List.replicate m x).foldl (· ++ ·) acc = acc ++ ((List.replicate m x.toList).flatten).toArray
  | 0, acc => by simp
  | m + 1, acc => by
    rw [List.replicate_succ, List.foldl_cons, fold_app x m, List.replicate_succ, List.flatten_cons]
    apply Array.toList_inj.mp
    simp
/-- s * n -/
theorem op_repS : OpR X (binaryOp .Mult) (fun x y H Q => ∃ (z : Nm) (j : Int), x = .str (tx z) ∧ y = .int j ∧ repOk z.length j = true ∧ Q (.str (tx (List.replicate j.toNat z).flatten)) H) := by
  intro pins s σ H x y v u Q I rx ry h
  obtain ⟨z, j, rfl, rfl, ok, q⟩ := h
  obtain ⟨t, rfl⟩ := rx
  obtain ⟨t', rfl⟩ := ry
  obtain ⟨h1, h2, h3⟩ := repOk_of ok
  have el : (tx z).length = z.length := tx_len z
  refine PySem.P.mul_str ?_ (fun hn _ => ?_) (fun hn _ => ?_) ?_
  · rw [decide_eq_false (by omega), decide_eq_false (by omega)]; rfl
  · rw [el]
    have hz : z.length ≤ sizeLine := by
      have : 1 ≤ j.toNat := by omega
      exact Nat.le_trans (Nat.le_mul_of_pos_right _ this) h1
    rw [sizeLine_eq] at hz
    have : (16777216 : Int) ≤ (2 ^ 63 - 1) / j := by
      rw [Int.le_ediv_iff_mul_le (by omega)]
      omega
    omega
  · rw [el]
    unfold Builtin.Str.tooLong
    rw [decide_eq_false (by omega)]
  · by_cases hn : j < 1
    · rw [if_pos hn]
      refine ⟨by decide, ?_⟩
      have e : (List.replicate j.toNat z).flatten = [] := by
        have : j.toNat = 0 := by omega
        rw [this]; rfl
      rw [e] at q
      exact ⟨.str _, H, I.tok _, ⟨_, rfl⟩, q⟩
    · rw [if_neg hn]
      by_cases hb : (j == 1 || (tx z).length == 0) = true
      · rw [if_pos hb]
        have e : (List.replicate j.toNat z).flatten = z := by
          rcases Bool.or_eq_true_iff.mp hb with e | e
          · have : j = 1 := eq_of_beq e
            subst this
            simp
          · have : z.length = 0 := by rw [← el]; exact eq_of_beq e
            rw [List.length_eq_zero_iff.mp this]
            induction j.toNat with
            | zero => rfl
            | succ n ih => rw [List.replicate_succ, List.flatten_cons, ih]; rfl
        rw [e] at q
        exact ⟨.str _, H, I, ⟨_, rfl⟩, q⟩
      · rw [if_neg hb]
        have e : (⟨(List.replicate j.toNat (tx z).cps).foldl (· ++ ·) #[]⟩ : Str) = tx (List.replicate j.toNat z).flatten := by
          rw [fold_app, tx_list]
          simp [tx]
        rw [e]
        refine ⟨?_, ⟨.str _, H, I.tok _, ⟨_, rfl⟩, q⟩⟩
        rw [tx_len, List.length_flatten, List.map_replicate, List.sum_replicate_nat, Nat.mul_comm]
        exact h1
def rBin (κ : Kx) (o : Bop) : R2 := fun x y H Q => ∃ as S dx dy ke, RepS κ as H S ∧ IsV κ as H dx x ∧ IsV κ as H dy y ∧ Out (binD o dx dy S) (kD κ as H Q) ke
theorem op_bin (hκ : κ.K = X.K) (o : Bop) : OpR X (binaryOp (bopE o)) (rBin κ o) := by
  intro pins s σ H x y v u Q I rx ry q
  obtain ⟨as, S, dx, dy, ke, hS, wx, wy, b⟩ := q
  have ii : ∀ {i : Int} {x : V}, IsV κ as H (.int i) x → x = .int i := fun a => a
  have ss : ∀ {i : Nm} {x : V}, IsV κ as H (.str i) x → x = .str (tx i) := fun a => a.1
  cases o with
  | add =>
    cases dx with
    | int i => cases dy with
      | int j => exact OpR.use op_add I rx ry ⟨i, j, ii wx, ii wy, kD.here b rfl hS⟩
      | _ => exact b.elim
    | str i => cases dy with
      | str j =>
        obtain ⟨z, b⟩ := b.of_chk
        exact OpR.use op_add_str I rx ry ⟨tx i, tx j, ss wx, ss wy, by rw [tx_len, tx_len]; exact szOk_of z, by rw [← tx_app]; exact kD.here b ⟨rfl, by rw [List.length_append]; exact z⟩ hS⟩
      | _ => exact b.elim
    | tup xs => cases dy with
      | tup ys =>
        obtain ⟨z, b⟩ := b.of_chk
        obtain ⟨a, vs, ea, ha, ra⟩ := wx
        obtain ⟨a2, ws, eb, hb, rb⟩ := wy
        rw [hκ] at ha hb
        have hl : vs.length + ws.length ≤ sizeLine := by rw [← ra.length, ← rb.length]; exact szOk_of z
        refine OpR.use op_catT' I rx ry ⟨a, a2, vs, ws, ea, eb, ha, hb, hl, fun z => ?_, fun z => ?_, kD.tup b hS (ra.append rb)⟩
        · have e : xs = [] := List.length_eq_zero_iff.mp (by rw [ra.length, z]; rfl)
          subst e
          exact kD.here b ⟨a2, ws, rfl, by rw [hκ]; exact hb, rb⟩ hS
        · have e : ys = [] := List.length_eq_zero_iff.mp (by rw [rb.length, z]; rfl)
          subst e
          have b2 : kD κ as H Q (.tup (xs ++ [])) S := b
          rw [List.append_nil] at b2
          exact kD.here b2 ⟨a, vs, rfl, by rw [hκ]; exact ha, ra⟩ hS
      | _ => exact b.elim
    | _ => exact b.elim
  | sub =>
    cases dx with
    | int i => cases dy with
      | int j => exact OpR.use op_sub I rx ry ⟨i, j, ii wx, ii wy, kD.here b rfl hS⟩
      | _ => exact b.elim
    | _ => exact b.elim
  | mul =>
    cases dx with
    | int i => cases dy with
      | int j =>
        obtain ⟨z, b⟩ := b.of_chk
        obtain ⟨z1, z2⟩ := ba2 z
        exact OpR.use op_mulM I rx ry ⟨i, j, ii wx, ii wy, ⟨of_decide_eq_true z1, of_decide_eq_true z2⟩, kD.here b rfl hS⟩
      | _ => exact b.elim
    | str i => cases dy with
      | int j =>
        obtain ⟨z, b⟩ := b.of_chk
        exact OpR.use op_repS I rx ry ⟨i, j, ss wx, ii wy, z, kD.here b ⟨rfl, by rw [List.length_flatten, List.map_replicate, List.sum_replicate_nat, Nat.mul_comm]; exact (ba2 (ba2 z).1).1⟩ hS⟩
      | _ => exact b.elim
    | tup xs => cases dy with
      | int j =>
        obtain ⟨z, b⟩ := b.of_chk
        obtain ⟨z, z4⟩ := ba2 z
        obtain ⟨z, z3⟩ := ba2 z
        obtain ⟨z1, z2⟩ := ba2 z
        obtain ⟨a, vs, ea, ha, ra⟩ := wx
        rw [hκ] at ha
        have rr : ∀ n : Nat, IsDs κ as H (List.replicate n xs).flatten (List.replicate n vs).flatten := fun n => by
          induction n with
          | zero => exact True.intro
          | succ n ih => rw [List.replicate_succ, List.replicate_succ, List.flatten_cons, List.flatten_cons]; exact ra.append ih
        refine OpR.use op_repT I rx ry ⟨a, j, vs, ea, ii wy, ha, ?_, of_decide_eq_true z1, of_decide_eq_true z2, by rw [← ra.length]; exact of_decide_eq_true z3, kD.tup b hS (rr _)⟩
        rintro rfl
        have := ra.length
        cases xs with
        | nil => simp at z4
        | cons _ _ => simp at this
      | _ => exact b.elim
    | _ => exact b.elim
  | fdv =>
    cases dx with
    | int i => cases dy with
      | int j =>
        obtain ⟨z, b⟩ := b.of_chk
        obtain ⟨z1, z2⟩ := ba2 z
        exact OpR.use op_fdiv I rx ry ⟨i, j, ii wx, ii wy, ⟨of_decide_eq_true z1, of_decide_eq_true z2⟩, kD.here b rfl hS⟩
      | _ => exact b.elim
    | _ => exact b.elim
  | mod =>
    cases dx with
    | int i => cases dy with
      | int j =>
        obtain ⟨z, b⟩ := b.of_chk
        exact OpR.use op_mod I rx ry ⟨i, j, ii wx, ii wy, of_decide_eq_true z, kD.here b rfl hS⟩
      | _ => exact b.elim
    | _ => exact b.elim
  | pow =>
    cases dx with
    | int i => cases dy with
      | int j =>
        obtain ⟨z, b⟩ := b.of_chk
        obtain ⟨z, z3⟩ := ba2 z
        obtain ⟨z1, z2⟩ := ba2 z
        exact OpR.use op_pow I rx ry ⟨i, j, ii wx, ii wy, ⟨of_decide_eq_true z1, of_decide_eq_true z2, of_decide_eq_true z3⟩, kD.here b rfl hS⟩
      | _ => exact b.elim
    | _ => exact b.elim
  | shr =>
    cases dx with
    | int i => cases dy with
      | int j =>
        obtain ⟨z, b⟩ := b.of_chk
        exact OpR.use op_shr I rx ry ⟨i, j, ii wx, ii wy, of_decide_eq_true z, kD.here b rfl hS⟩
      | _ => exact b.elim
    | _ => exact b.elim
  | band =>
    cases dx with
    | int i => cases dy with
      | int j =>
        obtain ⟨z, b⟩ := b.of_chk
        obtain ⟨z1, z2⟩ := ba2 z
        have e : j = 1 := of_decide_eq_true z2
        subst e
        refine OpR.use op_and I rx ry ⟨i, 1, ii wx, ii wy, ?_⟩
        have e := Bits.bitAnd_mask (x := i) 1 (of_decide_eq_true z1)
        have e2 : Builtin.bitAnd i 1 = i % 2 := by
          have : (2 : Int) ^ 1 - 1 = 1 := by decide
          rw [this] at e
          rw [e]
          rfl
        show Q (.int (Builtin.bitAnd i 1)) H
        rw [e2]
        exact kD.here (w := .int (i % 2)) (Out.of_chk b).2 rfl hS
      | _ => exact b.elim
    | _ => exact b.elim
/-! xs + ys, xs * n of lists, new ones -/
theorem kN.lst (k : kN κ as H Q (.lst ds) S) (hS : RepS κ as H S) {vs : List V} (r : IsDs κ as H ds vs) : ∀ p, H p = none → Q (.ref p) (upd H p (.lst vs)) := fun p hp =>
  k as _ _ (Step.new hp) hp (fresh hp hS) ⟨vs, upd_same, r.mono (fun _ _ h => h) (Imm.new hp)⟩ (RepS.new hp hS)
theorem kN.dct (k : kN κ as H Q (.dct ds) S) (hS : RepS κ as H S) {kws : List (L2.Key × V)} (r : IsKs κ as H ds kws) : ∀ p, H p = none → Q (.ref p) (upd H p (.dK kws)) := fun p hp =>
  k as _ _ (Step.new hp) hp (fresh hp hS) ⟨kws, upd_same, r.mono (fun _ _ h => h) (Imm.new hp)⟩ (RepS.new hp hS)
def rCat (κ : Kx) : R2 := fun x y H Q => ∃ as S xs ys, RepS κ as H S ∧ IsV κ as H (.lst xs) x ∧ IsV κ as H (.lst ys) y ∧ szOk (xs.length + ys.length) = true ∧ kN κ as H Q (.lst (xs ++ ys)) S
theorem op_catN : OpR X (binaryOp .Add) (rCat κ) := by
  intro pins s σ H x y v u Q I rx ry ⟨as, S, xs, ys, hS, wx, wy, z, k⟩
  obtain ⟨a, vs, rfl, ha, ra⟩ := wx
  obtain ⟨b, ws, rfl, hb, rb⟩ := wy
  obtain rfl : v = .ref a := rx
  obtain rfl : u = .ref b := ry
  have ⟨_, us, _, ru, lu, gu⟩ := rdM I ha
  have ⟨_, ts, _, rt, lt, gt⟩ := rdM I hb
  have z' := szOk_of z
  have l1 := ra.length
  have l2 := rb.length
  have J := I.lnew (t' := s.toks) (ru.append rt) (by rw [List.length_append]; omega)
  refine PySem.P.add_list gu gt ?_ (by simp only [List.size_toArray]; omega)
  rw [show us.toArray ++ ts.toArray = (us ++ ts).toArray by simp]
  exact ⟨.ref s.heap.objs.size, _, J, rfl, kN.lst k hS (ra.append rb) _ I.fresh⟩
def rRepN (κ : Kx) : R2 := fun x y H Q => ∃ as S xs j, RepS κ as H S ∧ IsV κ as H (.lst xs) x ∧ y = .int j ∧ repOk xs.length j = true ∧ kN κ as H Q (.lst (List.replicate j.toNat xs).flatten) S
theorem op_repN : OpR X (binaryOp .Mult) (rRepN κ) := by
  intro pins s σ H x y v u Q I rx ry ⟨as, S, xs, k, hS, wx, ey, z, kk⟩
  obtain ⟨l, vs, rfl, ha, ra⟩ := wx
  subst ey
  obtain rfl : v = .ref l := rx
  obtain ⟨t, rfl⟩ := ry
  obtain ⟨z0, its, n, r, hl, e⟩ := rdM I ha
  obtain ⟨z1, z2, z3⟩ := repOk_of z
  have el := ra.length
  have hlen : its.toArray.size * k.toNat ≤ sizeLine := by rw [List.size_toArray, ← hl, ← el]; exact z1
  have hcap : ¬ its.toArray.size * k.toNat > (2 ^ 63 - 1) / 8 := by
    have : (sizeLine : Nat) ≤ (2 ^ 63 - 1) / 8 := by decide
    omega
  have hfit : ¬ (!Builtin.List.listFitsIndex k) = true := by
    rw [fitsIndex_both (by omega) (by omega)]
    exact Bool.false_ne_true
  have hlong : ¬ Builtin.List.listTooLong (its.toArray.size * k.toNat) = true := by
    rw [notLongL hlen]
    exact Bool.false_ne_true
  have hnew : List.foldl (fun x1 x2 => x1 ++ x2) #[] (List.replicate (if its.toArray.isEmpty = true then 0 else k.toNat) its.toArray) = (List.replicate k.toNat its).flatten.toArray := by
    have f0 : ∀ m : Nat, List.foldl (fun x1 x2 => x1 ++ x2) #[] (List.replicate m its.toArray) = (List.replicate m its).flatten.toArray := fun m => by
      have := foldl_rep its m []
      rw [List.nil_append] at this
      exact this
    rw [f0]
    cases its with
    | nil => simp
    | cons a r' => rw [if_neg (by simp)]
  have rr : ∀ n : Nat, IsDs κ as H (List.replicate n xs).flatten (List.replicate n vs).flatten := fun n => by
    induction n with
    | zero => exact True.intro
    | succ n ih => rw [List.replicate_succ, List.replicate_succ, List.flatten_cons, List.flatten_cons]; exact ra.append ih
  refine wpAny_binaryOp_repeat_ref (T := "list") (U := "int") (by decide) ⟨_, e, rfl⟩ (fun s' => typeIs_int s' k t) noFill_list_mul PySem.F.fills_int_mul PySem.F.slot_int_rmul repeat_list PySem.F.slot_int_index.lookup
    (call_meets PySem.F.slot_int_rmul (typeIs_int s k t) PySem.F.entry_int_rmul (PySem.F.args_int_rmul_2 _ _) (int___rmul___int_list k t l its.toArray n)
      ⟨e, rfl, ⟨_, e, rfl⟩, call_meets PySem.F.slot_list_mul ⟨_, e, rfl⟩ PySem.F.entry_list_mul (PySem.F.args_list_mul_2 _ _) (AutoListH.list___mul___list_int_3 l its.toArray n k t hfit hcap hlong) ⟨e, ?_⟩⟩)
  rw [hnew]
  exact ⟨.ref _, _, I.lnew (t' := s.toks) (r.rep k.toNat) (by rw [PyProof.Rows.lm_len_rep_flat, Nat.mul_comm, ← el]; exact z1), rfl, kN.lst kk hS (rr _) _ I.fresh⟩
end
end Ev
set_option maxHeartbeats 2000000
/-! Ev, part 5: == and its kin over trees. -/
namespace Ev
open PySem PySem.Spec PyProof.Rows L2 PySem.SeqAt

mutual
def RdV (h : Heap) : D → Value → Prop
  | .non, u => u = .none
  | .bl b, u => u = .bool b
  | .int i, u => ∃ t, u = .int i t
  | .str x, u => ∃ t, u = .str (tx x) t
  | .tup ds, u => ∃ l its, u = .ref l ∧ h.IsTuple l its.toArray ∧ RdVs h ds its
  | .lst ds, u => ∃ l its, u = .ref l ∧ h.IsList l its.toArray ∧ RdVs h ds its
  | _, _ => False
def RdVs (h : Heap) : List D → List Value → Prop
  | [], [] => True
  | d :: ds, u :: us => RdV h d u ∧ RdVs h ds us
  | _, _ => False
end
theorem RdVs.length {h : Heap} : ∀ {ds : List D} {us : List Value}, RdVs h ds us → ds.length = us.length
  | [], [], _ => rfl
  | _ :: _, _ :: _, r => congrArg (· + 1) (RdVs.length r.2)
  | [], _ :: _, r => r.elim
  | _ :: _, [], r => r.elim
theorem Vals.mk {x : V} {xs : List V} {u : Value} {us : List Value} (h : Vals (x :: xs) (u :: us)) : RelV x u ∧ Vals xs us := by
  cases h with
  | cons a b => exact ⟨a, b⟩
section
variable {X : Cx} {κ : Kx} {as : List Addr} {pins : List (Addr × Obj)} {σ : L2.St} {H : Hp} {s : Shared}
mutual
theorem rdv_of (hκ : κ.K = X.K) (I : Inv X pins σ H s) : ∀ {d : D} {n : Nat} {v : V} {u : Value}, okD d n = true → IsV κ as H d v → RelV v u → RdV s.heap d u
  | .tup ds, n, v, u, ok, h, r => by
    obtain ⟨a, vs, rfl, hq, hd⟩ := h
    cases r
    obtain ⟨its, rv, p, _⟩ := I.tuple (hκ ▸ hq)
    have ok' : (decide (0 < n) && okDs ds (n - 1)) = true := by rw [okD] at ok; exact ok
    exact ⟨a, its, rfl, p, rdvs_of hκ I (Bool.and_eq_true_iff.mp ok').2 hd rv⟩
  | .lst ds, n, v, u, ok, h, r => by
    obtain ⟨a, vs, rfl, hq, hd⟩ := h
    cases r
    obtain ⟨its, rv, p, _⟩ := I.list (.inl hq)
    have ok' : (decide (0 < n) && okDs ds (n - 1)) = true := by rw [okD] at ok; exact ok
    exact ⟨a, its, rfl, p.isList, rdvs_of hκ I (Bool.and_eq_true_iff.mp ok').2 hd rv⟩
  | .non, n, v, u, ok, h, r => by
    have e : v = V.non := h
    subst e
    exact r
  | .bl b, n, v, u, ok, h, r => by
    have e : v = V.bl b := h
    subst e
    exact r
  | .int i, n, v, u, ok, h, r => by
    have e : v = V.int i := h
    subst e
    exact r
  | .str x, n, v, u, ok, h, r => by
    have e : v = V.str (tx x) := h.1
    subst e
    exact r
  | .ref x, n, v, u, ok, h, r => by simp [okD] at ok
  | .scr x, n, v, u, ok, h, r => by simp [okD] at ok
  | .dic x, n, v, u, ok, h, r => by simp [okD] at ok
  | .kdic x, n, v, u, ok, h, r => by simp [okD] at ok
  | .exc x y, n, v, u, ok, h, r => by simp [okD] at ok
  | .obj x y, n, v, u, ok, h, r => by simp [okD] at ok
  | .fn x, n, v, u, ok, h, r => by simp [okD] at ok
theorem rdvs_of (hκ : κ.K = X.K) (I : Inv X pins σ H s) : ∀ {ds : List D} {n : Nat} {vs : List V} {us : List Value}, okDs ds n = true → IsDs κ as H ds vs → Vals vs us → RdVs s.heap ds us
  | [], n, vs, us, ok, h, r => by
    cases vs with
    | nil => cases r; exact True.intro
    | cons _ _ => exact h.elim
  | d :: ds, n, vs, us, ok, h, r => by
    cases vs with
    | nil => exact h.elim
    | cons v vs =>
      cases us with
      | nil => cases r
      | cons u us =>
        obtain ⟨r1, r2⟩ := Vals.mk r
        have ok' : (okD d n && okDs ds n) = true := by rw [okDs] at ok; exact ok
        obtain ⟨o1, o2⟩ := Bool.and_eq_true_iff.mp ok'
        exact ⟨rdv_of hκ I o1 h.1.v r1, rdvs_of hκ I o2 h.2 r2⟩
end
end
theorem tup_inj {h : Heap} {l : Addr} {a b : Array Value} (x : h.IsTuple l a) (y : h.IsTuple l b) : a = b := by
  obtain ⟨o, e, _, n, d⟩ := x
  obtain ⟨o', e', _, n', d'⟩ := y
  rw [e] at e'
  cases e'
  rw [d] at d'
  injection d'
theorem lst_inj {h : Heap} {l : Addr} {a b : Array Value} (x : h.IsList l a) (y : h.IsList l b) : a = b := by
  obtain ⟨o, e, _, n, d⟩ := x
  obtain ⟨o', e', _, n', d'⟩ := y
  rw [e] at e'
  cases e'
  rw [d] at d'
  injection d'
theorem lst_tup {h : Heap} {l : Addr} {a b : Array Value} (x : h.IsList l a) (y : h.IsTuple l b) : False := by
  obtain ⟨o, e, c, n, d⟩ := x
  obtain ⟨o', e', c', n', d'⟩ := y
  rw [e] at e'
  cases e'
  rw [c] at c'
  exact absurd c' (by decide)
mutual
theorem rdv_same {h : Heap} : ∀ {d e : D} {u : Value}, RdV h d u → RdV h e u → eqv d e = true
  | .non, e, u, a, b => by
    cases a
    cases e with
    | non => rfl
    | bl b' => cases b
    | int i => obtain ⟨t, b⟩ := b; cases b
    | str x => obtain ⟨t, b⟩ := b; cases b
    | tup ds => obtain ⟨_, _, b, _⟩ := b; cases b
    | lst ds => obtain ⟨_, _, b, _⟩ := b; cases b
    | _ => exact b.elim
  | .bl x, e, u, a, b => by
    cases a
    cases e with
    | non => cases b
    | bl b' => cases b; simp [eqv]
    | int i => obtain ⟨t, b⟩ := b; cases b
    | str x => obtain ⟨t, b⟩ := b; cases b
    | tup ds => obtain ⟨_, _, b, _⟩ := b; cases b
    | lst ds => obtain ⟨_, _, b, _⟩ := b; cases b
    | _ => exact b.elim
  | .int x, e, u, a, b => by
    obtain ⟨t0, rfl⟩ := a
    cases e with
    | non => cases b
    | bl b' => cases b
    | int i => obtain ⟨t, b⟩ := b; cases b; simp [eqv]
    | str x => obtain ⟨t, b⟩ := b; cases b
    | tup ds => obtain ⟨_, _, b, _⟩ := b; cases b
    | lst ds => obtain ⟨_, _, b, _⟩ := b; cases b
    | _ => exact b.elim
  | .str x, e, u, a, b => by
    obtain ⟨t0, rfl⟩ := a
    cases e with
    | non => cases b
    | bl b' => cases b
    | int i => obtain ⟨t, b⟩ := b; cases b
    | str x => obtain ⟨t, b⟩ := b; cases b; simp [eqv]
    | tup ds => obtain ⟨_, _, b, _⟩ := b; cases b
    | lst ds => obtain ⟨_, _, b, _⟩ := b; cases b
    | _ => exact b.elim
  | .tup xs, e, u, a, b => by
    obtain ⟨l, its, rfl, p, r⟩ := a
    cases e with
    | non => cases b
    | bl b' => cases b
    | int i => obtain ⟨t, b⟩ := b; cases b
    | str x => obtain ⟨t, b⟩ := b; cases b
    | tup ds =>
      obtain ⟨l', its', e, p', r'⟩ := b
      cases e
      have e2 := tup_inj p p'
      have e3 : its = its' := by simpa using e2
      subst e3
      rw [eqv]
      exact rdvs_same r r'
    | lst ds =>
      obtain ⟨l', its', e, p', r'⟩ := b
      cases e
      exact (lst_tup p' p).elim
    | _ => exact b.elim
  | .lst xs, e, u, a, b => by
    obtain ⟨l, its, rfl, p, r⟩ := a
    cases e with
    | non => cases b
    | bl b' => cases b
    | int i => obtain ⟨t, b⟩ := b; cases b
    | str x => obtain ⟨t, b⟩ := b; cases b
    | lst ds =>
      obtain ⟨l', its', e, p', r'⟩ := b
      cases e
      have e2 := lst_inj p p'
      have e3 : its = its' := by simpa using e2
      subst e3
      rw [eqv]
      exact rdvs_same r r'
    | tup ds =>
      obtain ⟨l', its', e, p', r'⟩ := b
      cases e
      exact (lst_tup p p').elim
    | _ => exact b.elim
  | .fn _, _, _, a, _ => a.elim
  | .obj _ _, _, _, a, _ => a.elim
  | .ref _, _, _, a, _ => a.elim
  | .scr _, _, _, a, _ => a.elim
  | .dic _, _, _, a, _ => a.elim
  | .kdic _, _, _, a, _ => a.elim
  | .exc _ _, _, _, a, _ => a.elim
theorem rdvs_same {h : Heap} : ∀ {ds es : List D} {us : List Value}, RdVs h ds us → RdVs h es us → eqvs ds es = true
  | [], [], _, _, _ => by rw [eqvs]
  | [], _ :: _, [], _, b => b.elim
  | [], _ :: _, _ :: _, a, _ => a.elim
  | _ :: _, _, [], a, _ => a.elim
  | _ :: _, [], _ :: _, _, b => b.elim
  | d :: ds, e :: es, u :: us, a, b => by
    rw [eqvs, rdv_same a.1 b.1, rdvs_same a.2 b.2]
    rfl
end
def pEq (xs ys : List D) (j : Nat) : Bool := match xs[j]?, ys[j]? with
  | some x, some y => eqv x y
  | _, _ => true
theorem eqvs_eq : ∀ xs ys : List D, ((List.range (min xs.length ys.length)).all (pEq xs ys) && xs.length == ys.length) = eqvs xs ys
  | [], [] => by rw [eqvs]; rfl
  | [], _ :: _ => by rw [eqvs]; rfl; all_goals simp
  | _ :: _, [] => by rw [eqvs]; rfl; all_goals simp
  | x :: xs, y :: ys => by
    rw [eqvs, ← eqvs_eq xs ys]
    have e : min (x :: xs).length (y :: ys).length = min xs.length ys.length + 1 := by simp only [List.length_cons]; omega
    rw [e, List.range_succ_eq_map, List.all_cons, List.all_map]
    have e0 : pEq (x :: xs) (y :: ys) 0 = eqv x y := rfl
    have e1 : (pEq (x :: xs) (y :: ys) ∘ Nat.succ) = pEq xs ys := by
      funext j
      simp [pEq, Function.comp]
    rw [e0, e1, Bool.and_assoc]
    congr 1
    simp
theorem eqvs_len {xs ys : List D} (h : xs.length = ys.length) : (List.range xs.length).all (pEq xs ys) = eqvs xs ys := by
  rw [← eqvs_eq, h]
  simp
theorem eqvs_ne {xs ys : List D} (h : xs.length ≠ ys.length) : eqvs xs ys = false := by
  rw [← eqvs_eq]
  simp [h]
theorem strEq (x y : Nm) : (tx x == tx y) = (x == y) := by
  by_cases h : x = y
  · subst h; simp
  · rw [beq_eq_false_iff_ne.mpr fun z => h (tx_inj z), beq_eq_false_iff_ne.mpr h]
theorem rm {u n : Nat} (h : u + n < cLine) : u < cLine := by omega
mutual
theorem rcAt {A : Around} {s : Shared} : ∀ {d e : D} {a b : Value} {n : Nat}, okD d n = true → A.units + n < cLine → RdV s.heap d a → RdV s.heap e b → RcAt A s a b (eqv d e)
  | .non, e, a, b, n, ok, hu, ra, rb => by
    cases ra
    cases e with
    | non => cases rb; exact RcAt.none_none
    | bl y => cases rb; exact RcAt.none_bool y
    | int y => obtain ⟨u, rfl⟩ := rb; exact RcAt.none_int y u
    | str y => obtain ⟨u, rfl⟩ := rb; exact RcAt.none_str (tx y) u
    | lst y => obtain ⟨l, its, rfl, p, _⟩ := rb; exact RcAt.none_list p (rm hu)
    | tup y => obtain ⟨l, its, rfl, p, _⟩ := rb; exact RcAt.none_tuple p (rm hu)
    | _ => exact rb.elim
  | .bl x, e, a, b, n, ok, hu, ra, rb => by
    cases ra
    cases e with
    | non => cases rb; exact RcAt.bool_none x
    | bl y => cases rb; exact RcAt.bool_bool x y
    | int y => obtain ⟨u, rfl⟩ := rb; exact RcAt.bool_int x y u
    | str y => obtain ⟨u, rfl⟩ := rb; exact RcAt.bool_str x (tx y) u
    | lst y => obtain ⟨l, its, rfl, p, _⟩ := rb; exact RcAt.bool_list x p (rm hu)
    | tup y => obtain ⟨l, its, rfl, p, _⟩ := rb; exact RcAt.bool_tuple x p (rm hu)
    | _ => exact rb.elim
  | .int x, e, a, b, n, ok, hu, ra, rb => by
    obtain ⟨t, rfl⟩ := ra
    cases e with
    | non => cases rb; exact RcAt.int_none x t
    | bl y => cases rb; exact RcAt.int_bool x t y
    | int y => obtain ⟨u, rfl⟩ := rb; exact RcAt.int_int x t y u
    | str y => obtain ⟨u, rfl⟩ := rb; exact RcAt.int_str x t (tx y) u
    | lst y => obtain ⟨l, its, rfl, p, _⟩ := rb; exact RcAt.int_list x t p (rm hu)
    | tup y => obtain ⟨l, its, rfl, p, _⟩ := rb; exact RcAt.int_tuple x t p (rm hu)
    | _ => exact rb.elim
  | .str x, e, a, b, n, ok, hu, ra, rb => by
    obtain ⟨t, rfl⟩ := ra
    cases e with
    | non => cases rb; exact RcAt.str_none (tx x) t
    | bl y => cases rb; exact RcAt.str_bool (tx x) t y
    | int y => obtain ⟨u, rfl⟩ := rb; exact RcAt.str_int (tx x) t y u
    | str y => obtain ⟨u, rfl⟩ := rb; exact (by have h := RcAt.str_str (A := A) (s := s) (tx x) t (tx y) u; rw [strEq] at h; exact h)
    | lst y => obtain ⟨l, its, rfl, p, _⟩ := rb; exact RcAt.str_list (tx x) t p (rm hu)
    | tup y => obtain ⟨l, its, rfl, p, _⟩ := rb; exact RcAt.str_tuple (tx x) t p (rm hu)
    | _ => exact rb.elim
  | .lst xs, e, a, b, n, ok, hu, ra, rb => by
    obtain ⟨l, its, rfl, p, r⟩ := ra
    have ok' : (decide (0 < n) && okDs xs (n - 1)) = true := by rw [okD] at ok; exact ok
    obtain ⟨h0, h1⟩ := Bool.and_eq_true_iff.mp ok'
    have h0' : 0 < n := of_decide_eq_true h0
    cases e with
    | non => cases rb; exact RcAt.list_none p (rm hu)
    | bl y => cases rb; exact RcAt.list_bool y p (rm hu)
    | int y => obtain ⟨u, rfl⟩ := rb; exact RcAt.list_int y u p (rm hu)
    | str y => obtain ⟨u, rfl⟩ := rb; exact RcAt.list_str (tx y) u p (rm hu)
    | tup y => obtain ⟨l', its', rfl, p', _⟩ := rb; exact RcAt.list_tuple p p' (rm hu)
    | lst ys =>
      obtain ⟨l', its', rfl, p', r'⟩ := rb
      have n1 := r.length
      have n2 := r'.length
      have he : ∀ j (j1 : j < its.toArray.size) (j2 : j < its'.toArray.size), EqAt A.in1 s its.toArray[j] its'.toArray[j] (pEq xs ys j) := fun j j1 j2 => by
        have hu' : A.in1.units + (n - 1) < cLine := by show A.units + 1 + (n - 1) < cLine; omega
        have := eqAts (A := A.in1) (s := s) h1 hu' r r' j (by simpa using j1) (by simpa using j2)
        simpa using this
      show RcAt A s (.ref l) (.ref l') (eqvs xs ys)
      by_cases hsz : its.toArray.size = its'.toArray.size
      · have e : xs.length = ys.length := by rw [n1, n2]; simpa using hsz
        rw [← eqvs_len e, n1]
        have z := RcAt.lists p p' hsz (rm hu) he
        simpa using z
      · rw [eqvs_ne (by rw [n1, n2]; simpa using hsz)]
        exact RcAt.lists_lengths p p' (by simpa using hsz) (rm hu)
    | _ => exact rb.elim
  | .tup xs, e, a, b, n, ok, hu, ra, rb => by
    obtain ⟨l, its, rfl, p, r⟩ := ra
    have ok' : (decide (0 < n) && okDs xs (n - 1)) = true := by rw [okD] at ok; exact ok
    obtain ⟨h0, h1⟩ := Bool.and_eq_true_iff.mp ok'
    have h0' : 0 < n := of_decide_eq_true h0
    cases e with
    | non => cases rb; exact RcAt.tuple_none p (rm hu)
    | bl y => cases rb; exact RcAt.tuple_bool y p (rm hu)
    | int y => obtain ⟨u, rfl⟩ := rb; exact RcAt.tuple_int y u p (rm hu)
    | str y => obtain ⟨u, rfl⟩ := rb; exact RcAt.tuple_str (tx y) u p (rm hu)
    | lst y => obtain ⟨l', its', rfl, p', _⟩ := rb; exact RcAt.tuple_list p p' (rm hu)
    | tup ys =>
      obtain ⟨l', its', rfl, p', r'⟩ := rb
      have n1 := r.length
      have n2 := r'.length
      have he : ∀ j (j1 : j < its.toArray.size) (j2 : j < its'.toArray.size), EqAt A.in1 s its.toArray[j] its'.toArray[j] (pEq xs ys j) := fun j j1 j2 => by
        have hu' : A.in1.units + (n - 1) < cLine := by show A.units + 1 + (n - 1) < cLine; omega
        have := eqAts (A := A.in1) (s := s) h1 hu' r r' j (by simpa using j1) (by simpa using j2)
        simpa using this
      show RcAt A s (.ref l) (.ref l') (eqvs xs ys)
      rw [← eqvs_eq xs ys, n1, n2]
      have z := RcAt.tuples p p' (rm hu) he
      simpa using z
    | _ => exact rb.elim
  | .fn _, _, _, _, _, _, _, a, _ => a.elim
  | .obj _ _, _, _, _, _, _, _, a, _ => a.elim
  | .ref _, _, _, _, _, _, _, a, _ => a.elim
  | .scr _, _, _, _, _, _, _, a, _ => a.elim
  | .dic _, _, _, _, _, _, _, a, _ => a.elim
  | .kdic _, _, _, _, _, _, _, a, _ => a.elim
  | .exc _ _, _, _, _, _, _, _, a, _ => a.elim
termination_by d => (sizeOf d, 0)
theorem eqAt {A : Around} {s : Shared} : ∀ {d e : D} {a b : Value} {n : Nat}, okD d n = true → A.units + n < cLine → RdV s.heap d a → RdV s.heap e b → EqAt A s a b (eqv d e)
  | .non, e, a, b, n, ok, hu, ra, rb => by
    cases ra
    cases e with
    | non => cases rb; exact EqAt.same _
    | bl y => cases rb; exact EqAt.none_bool  y
    | int y => obtain ⟨u, rfl⟩ := rb; exact EqAt.none_int  y u
    | str y => obtain ⟨u, rfl⟩ := rb; exact EqAt.none_str  (tx y) u
    | lst y => obtain ⟨l, its, rfl, p, _⟩ := rb; exact EqAt.none_list  p (rm hu)
    | tup y => obtain ⟨l, its, rfl, p, _⟩ := rb; exact EqAt.none_tuple  p (rm hu)
    | _ => exact rb.elim
  | .bl x, e, a, b, n, ok, hu, ra, rb => by
    cases ra
    cases e with
    | non => cases rb; exact EqAt.bool_none x 
    | bl y => cases rb; exact EqAt.bool_bool x y
    | int y => obtain ⟨u, rfl⟩ := rb; exact EqAt.bool_int x y u
    | str y => obtain ⟨u, rfl⟩ := rb; exact EqAt.bool_str x (tx y) u
    | lst y => obtain ⟨l, its, rfl, p, _⟩ := rb; exact EqAt.bool_list x p (rm hu)
    | tup y => obtain ⟨l, its, rfl, p, _⟩ := rb; exact EqAt.bool_tuple x p (rm hu)
    | _ => exact rb.elim
  | .int x, e, a, b, n, ok, hu, ra, rb => by
    obtain ⟨t, rfl⟩ := ra
    cases e with
    | non => cases rb; exact EqAt.int_none x t 
    | bl y => cases rb; exact EqAt.int_bool x t y
    | int y => obtain ⟨u, rfl⟩ := rb; exact EqAt.int_int x t y u
    | str y => obtain ⟨u, rfl⟩ := rb; exact EqAt.int_str x t (tx y) u
    | lst y => obtain ⟨l, its, rfl, p, _⟩ := rb; exact EqAt.int_list x t p (rm hu)
    | tup y => obtain ⟨l, its, rfl, p, _⟩ := rb; exact EqAt.int_tuple x t p (rm hu)
    | _ => exact rb.elim
  | .str x, e, a, b, n, ok, hu, ra, rb => by
    obtain ⟨t, rfl⟩ := ra
    cases e with
    | non => cases rb; exact EqAt.str_none (tx x) t 
    | bl y => cases rb; exact EqAt.str_bool (tx x) t y
    | int y => obtain ⟨u, rfl⟩ := rb; exact EqAt.str_int (tx x) t y u
    | str y => obtain ⟨u, rfl⟩ := rb; exact (by have h := EqAt.str_str (A := A) (s := s) (tx x) t (tx y) u; rw [strEq] at h; exact h)
    | lst y => obtain ⟨l, its, rfl, p, _⟩ := rb; exact EqAt.str_list (tx x) t p (rm hu)
    | tup y => obtain ⟨l, its, rfl, p, _⟩ := rb; exact EqAt.str_tuple (tx x) t p (rm hu)
    | _ => exact rb.elim
  | .lst xs, e, a, b, n, ok, hu, ra, rb => by
    have ra0 := ra
    obtain ⟨l, its, rfl, p, r⟩ := ra
    cases e with
    | non => cases rb; exact EqAt.list_none  p (rm hu)
    | bl y => cases rb; exact EqAt.list_bool y p (rm hu)
    | int y => obtain ⟨u, rfl⟩ := rb; exact EqAt.list_int y u p (rm hu)
    | str y => obtain ⟨u, rfl⟩ := rb; exact EqAt.list_str (tx y) u p (rm hu)
    | lst ys =>
      have rb0 := rb
      obtain ⟨l', its', rfl, p', r'⟩ := rb
      by_cases hll : l = l'
      · subst hll
        rw [rdv_same ra0 rb0]
        exact EqAt.same _
      · exact EqAt.of_refs hll (rcAt ok hu ra0 rb0)
    | tup y => obtain ⟨l', its', rfl, p', _⟩ := rb; exact EqAt.list_tuple p p' (rm hu)
    | _ => exact rb.elim
  | .tup xs, e, a, b, n, ok, hu, ra, rb => by
    have ra0 := ra
    obtain ⟨l, its, rfl, p, r⟩ := ra
    cases e with
    | non => cases rb; exact EqAt.tuple_none  p (rm hu)
    | bl y => cases rb; exact EqAt.tuple_bool y p (rm hu)
    | int y => obtain ⟨u, rfl⟩ := rb; exact EqAt.tuple_int y u p (rm hu)
    | str y => obtain ⟨u, rfl⟩ := rb; exact EqAt.tuple_str (tx y) u p (rm hu)
    | lst y => obtain ⟨l', its', rfl, p', _⟩ := rb; exact EqAt.tuple_list p p' (rm hu)
    | tup ys =>
      have rb0 := rb
      obtain ⟨l', its', rfl, p', r'⟩ := rb
      by_cases hll : l = l'
      · subst hll
        rw [rdv_same ra0 rb0]
        exact EqAt.same _
      · exact EqAt.of_refs hll (rcAt ok hu ra0 rb0)
    | _ => exact rb.elim
  | .fn _, _, _, _, _, _, _, a, _ => a.elim
  | .obj _ _, _, _, _, _, _, _, a, _ => a.elim
  | .ref _, _, _, _, _, _, _, a, _ => a.elim
  | .scr _, _, _, _, _, _, _, a, _ => a.elim
  | .dic _, _, _, _, _, _, _, a, _ => a.elim
  | .kdic _, _, _, _, _, _, _, a, _ => a.elim
  | .exc _ _, _, _, _, _, _, _, a, _ => a.elim
termination_by d => (sizeOf d, 1)
theorem eqAts {A : Around} {s : Shared} : ∀ {ds es : List D} {us ws : List Value} {n : Nat}, okDs ds n = true → A.units + n < cLine → RdVs s.heap ds us → RdVs s.heap es ws → ∀ j (h1 : j < us.length) (h2 : j < ws.length), EqAt A s us[j] ws[j] (pEq ds es j)
  | [], _, us, _, n, ok, hu, ra, rb, j, h1, h2 => by
    cases us with
    | nil => simp at h1
    | cons _ _ => exact ra.elim
  | d :: ds, [], us, ws, n, ok, hu, ra, rb, j, h1, h2 => by
    cases ws with
    | nil => simp at h2
    | cons _ _ => exact rb.elim
  | d :: ds, e :: es, us, ws, n, ok, hu, ra, rb, j, h1, h2 => by
    cases us with
    | nil => simp at h1
    | cons u us =>
      cases ws with
      | nil => simp at h2
      | cons w ws =>
        have ok' : (okD d n && okDs ds n) = true := by rw [okDs] at ok; exact ok
        obtain ⟨o1, o2⟩ := Bool.and_eq_true_iff.mp ok'
        cases j with
        | zero => exact eqAt o1 hu ra.1 rb.1
        | succ j =>
          have z := eqAts o2 hu ra.2 rb.2 j (by simpa using h1) (by simpa using h2)
          simpa [pEq] using z
termination_by ds => (sizeOf ds, 2)
end
end Ev
set_option maxHeartbeats 2000000
/-! Ev, part 6: comparisons, subscripts. -/
namespace Ev
open PySem PySem.Spec PyProof.Rows L2 PySem.SeqAt
theorem strNe (x y : Nm) : (tx x != tx y) = !(x == y) := by
  show (!(tx x == tx y)) = _
  rw [strEq]
theorem rcNeAt {A : Around} {s : Shared} : ∀ {d e : D} {a b : Value} {n : Nat}, okD d n = true → A.units + n < cLine → RdV s.heap d a → RdV s.heap e b → RcNeAt A s a b (!eqv d e)
  | .non, e, a, b, n, ok, hu, ra, rb => by
    cases ra
    cases e with
    | non => cases rb; exact RcNeAt.none_none
    | bl y => cases rb; exact RcNeAt.none_bool y
    | int y => obtain ⟨u, rfl⟩ := rb; exact RcNeAt.none_int y u
    | str y => obtain ⟨u, rfl⟩ := rb; exact RcNeAt.none_str (tx y) u
    | lst y => obtain ⟨l, its, rfl, p, _⟩ := rb; exact RcNeAt.none_list p (rm hu)
    | tup y => obtain ⟨l, its, rfl, p, _⟩ := rb; exact RcNeAt.none_tuple p (rm hu)
    | _ => exact rb.elim
  | .bl x, e, a, b, n, ok, hu, ra, rb => by
    cases ra
    cases e with
    | non => cases rb; exact RcNeAt.bool_none x
    | bl y => cases rb; exact RcNeAt.bool_bool x y
    | int y => obtain ⟨u, rfl⟩ := rb; exact RcNeAt.bool_int x y u
    | str y => obtain ⟨u, rfl⟩ := rb; exact RcNeAt.bool_str x (tx y) u
    | lst y => obtain ⟨l, its, rfl, p, _⟩ := rb; exact RcNeAt.bool_list x p (rm hu)
    | tup y => obtain ⟨l, its, rfl, p, _⟩ := rb; exact RcNeAt.bool_tuple x p (rm hu)
    | _ => exact rb.elim
  | .int x, e, a, b, n, ok, hu, ra, rb => by
    obtain ⟨t, rfl⟩ := ra
    cases e with
    | non => cases rb; exact RcNeAt.int_none x t
    | bl y => cases rb; exact RcNeAt.int_bool x t y
    | int y => obtain ⟨u, rfl⟩ := rb; exact RcNeAt.int_int x t y u
    | str y => obtain ⟨u, rfl⟩ := rb; exact RcNeAt.int_str x t (tx y) u
    | lst y => obtain ⟨l, its, rfl, p, _⟩ := rb; exact RcNeAt.int_list x t p (rm hu)
    | tup y => obtain ⟨l, its, rfl, p, _⟩ := rb; exact RcNeAt.int_tuple x t p (rm hu)
    | _ => exact rb.elim
  | .str x, e, a, b, n, ok, hu, ra, rb => by
    obtain ⟨t, rfl⟩ := ra
    cases e with
    | non => cases rb; exact RcNeAt.str_none (tx x) t
    | bl y => cases rb; exact RcNeAt.str_bool (tx x) t y
    | int y => obtain ⟨u, rfl⟩ := rb; exact RcNeAt.str_int (tx x) t y u
    | str y => obtain ⟨u, rfl⟩ := rb; exact (by have h := RcNeAt.str_str (A := A) (s := s) (tx x) t (tx y) u; rw [strEq] at h; exact h)
    | lst y => obtain ⟨l, its, rfl, p, _⟩ := rb; exact RcNeAt.str_list (tx x) t p (rm hu)
    | tup y => obtain ⟨l, its, rfl, p, _⟩ := rb; exact RcNeAt.str_tuple (tx x) t p (rm hu)
    | _ => exact rb.elim
  | .lst xs, e, a, b, n, ok, hu, ra, rb => by
    obtain ⟨l, its, rfl, p, r⟩ := ra
    have ok' : (decide (0 < n) && okDs xs (n - 1)) = true := by rw [okD] at ok; exact ok
    obtain ⟨h0, h1⟩ := Bool.and_eq_true_iff.mp ok'
    have h0' : 0 < n := of_decide_eq_true h0
    cases e with
    | non => cases rb; exact RcNeAt.list_none p (rm hu)
    | bl y => cases rb; exact RcNeAt.list_bool y p (rm hu)
    | int y => obtain ⟨u, rfl⟩ := rb; exact RcNeAt.list_int y u p (rm hu)
    | str y => obtain ⟨u, rfl⟩ := rb; exact RcNeAt.list_str (tx y) u p (rm hu)
    | tup y => obtain ⟨l', its', rfl, p', _⟩ := rb; exact RcNeAt.list_tuple p p' (rm hu)
    | lst ys =>
      obtain ⟨l', its', rfl, p', r'⟩ := rb
      have n1 := r.length
      have n2 := r'.length
      have he : ∀ j (j1 : j < its.toArray.size) (j2 : j < its'.toArray.size), EqAt A.in1 s its.toArray[j] its'.toArray[j] (pEq xs ys j) := fun j j1 j2 => by
        have hu' : A.in1.units + (n - 1) < cLine := by show A.units + 1 + (n - 1) < cLine; omega
        have := eqAts (A := A.in1) (s := s) h1 hu' r r' j (by simpa using j1) (by simpa using j2)
        simpa using this
      show RcNeAt A s (.ref l) (.ref l') (!eqvs xs ys)
      by_cases hsz : its.toArray.size = its'.toArray.size
      · have e : xs.length = ys.length := by rw [n1, n2]; simpa using hsz
        rw [← eqvs_len e, n1]
        have z := RcNeAt.lists p p' hsz (rm hu) he
        simpa using z
      · rw [eqvs_ne (by rw [n1, n2]; simpa using hsz)]
        exact RcNeAt.lists_lengths p p' (by simpa using hsz) (rm hu)
    | _ => exact rb.elim
  | .tup xs, e, a, b, n, ok, hu, ra, rb => by
    obtain ⟨l, its, rfl, p, r⟩ := ra
    have ok' : (decide (0 < n) && okDs xs (n - 1)) = true := by rw [okD] at ok; exact ok
    obtain ⟨h0, h1⟩ := Bool.and_eq_true_iff.mp ok'
    have h0' : 0 < n := of_decide_eq_true h0
    cases e with
    | non => cases rb; exact RcNeAt.tuple_none p (rm hu)
    | bl y => cases rb; exact RcNeAt.tuple_bool y p (rm hu)
    | int y => obtain ⟨u, rfl⟩ := rb; exact RcNeAt.tuple_int y u p (rm hu)
    | str y => obtain ⟨u, rfl⟩ := rb; exact RcNeAt.tuple_str (tx y) u p (rm hu)
    | lst y => obtain ⟨l', its', rfl, p', _⟩ := rb; exact RcNeAt.tuple_list p p' (rm hu)
    | tup ys =>
      obtain ⟨l', its', rfl, p', r'⟩ := rb
      have n1 := r.length
      have n2 := r'.length
      have he : ∀ j (j1 : j < its.toArray.size) (j2 : j < its'.toArray.size), EqAt A.in1 s its.toArray[j] its'.toArray[j] (pEq xs ys j) := fun j j1 j2 => by
        have hu' : A.in1.units + (n - 1) < cLine := by show A.units + 1 + (n - 1) < cLine; omega
        have := eqAts (A := A.in1) (s := s) h1 hu' r r' j (by simpa using j1) (by simpa using j2)
        simpa using this
      show RcNeAt A s (.ref l) (.ref l') (!eqvs xs ys)
      rw [← eqvs_eq xs ys, n1, n2]
      have z := RcNeAt.tuples p p' (rm hu) he
      simpa using z
    | _ => exact rb.elim
  | .fn _, _, _, _, _, _, _, a, _ => a.elim
  | .obj _ _, _, _, _, _, _, _, a, _ => a.elim
  | .ref _, _, _, _, _, _, _, a, _ => a.elim
  | .scr _, _, _, _, _, _, _, a, _ => a.elim
  | .dic _, _, _, _, _, _, _, a, _ => a.elim
  | .kdic _, _, _, _, _, _, _, a, _ => a.elim
  | .exc _ _, _, _, _, _, _, _, a, _ => a.elim
section
variable {X : Cx} {κ : Kx} {as : List Addr} {H : Hp}
def copE : Cop → CmpOp
  | .eq => .Eq
  | .ne => .NotEq
  | .lt => .Lt
  | .le => .LtE
  | .gt => .Gt
  | .ge => .GtE
  | .is => .Is
  | .isn => .IsNot
  | .inn => .In
  | .nin => .NotIn
def rCmp (κ : Kx) (o : Cop) : R2 := fun x y H Q => ∃ as S dx dy ke, IsV κ as H dx x ∧ IsV κ as H dy y ∧ Out (cmpD o dx dy S) (fun r _ => Q (.bl r) H) ke
theorem RdV.ref {h : Heap} {e : D} {l : Addr} (r : RdV h e (.ref l)) : (∃ ds its, e = .tup ds ∧ h.IsTuple l its.toArray ∧ RdVs h ds its) ∨ (∃ ds its, e = .lst ds ∧ h.IsList l its.toArray ∧ RdVs h ds its) := by
  cases e with
  | non => cases r
  | bl b => cases r
  | int i => obtain ⟨t, r⟩ := r; cases r
  | str x => obtain ⟨t, r⟩ := r; cases r
  | tup ds => obtain ⟨l', its, e, p, q⟩ := r; cases e; exact .inl ⟨ds, its, rfl, p, q⟩
  | lst ds => obtain ⟨l', its, e, p, q⟩ := r; cases e; exact .inr ⟨ds, its, rfl, p, q⟩
  | _ => exact r.elim
theorem RdV.scal {h : Heap} {d e : D} {u : Value} (a : RdV h d u) (b : RdV h e u) (n : ∀ l, u ≠ .ref l) : d = e := by
  cases d with
  | non =>
    cases a
    cases e with
    | non => rfl
    | bl _ => cases b
    | int _ => obtain ⟨_, b⟩ := b; cases b
    | str _ => obtain ⟨_, b⟩ := b; cases b
    | tup ds => obtain ⟨_, _, b, _⟩ := b; cases b
    | lst ds => obtain ⟨_, _, b, _⟩ := b; cases b
    | _ => exact b.elim
  | bl x =>
    cases a
    cases e with
    | non => cases b
    | bl _ => cases b; rfl
    | int _ => obtain ⟨_, b⟩ := b; cases b
    | str _ => obtain ⟨_, b⟩ := b; cases b
    | tup ds => obtain ⟨_, _, b, _⟩ := b; cases b
    | lst ds => obtain ⟨_, _, b, _⟩ := b; cases b
    | _ => exact b.elim
  | int x =>
    obtain ⟨t, rfl⟩ := a
    cases e with
    | non => cases b
    | bl _ => cases b
    | int _ => obtain ⟨_, b⟩ := b; cases b; rfl
    | str _ => obtain ⟨_, b⟩ := b; cases b
    | tup ds => obtain ⟨_, _, b, _⟩ := b; cases b
    | lst ds => obtain ⟨_, _, b, _⟩ := b; cases b
    | _ => exact b.elim
  | str x =>
    obtain ⟨t, rfl⟩ := a
    cases e with
    | non => cases b
    | bl _ => cases b
    | int _ => obtain ⟨_, b⟩ := b; cases b
    | str y =>
      obtain ⟨_, b⟩ := b
      have e : tx x = tx y := by injection b
      rw [tx_inj e]
    | tup ds => obtain ⟨_, _, b, _⟩ := b; cases b
    | lst ds => obtain ⟨_, _, b, _⟩ := b; cases b
    | _ => exact b.elim
  | tup ds => obtain ⟨l, _, e, _⟩ := a; exact absurd e (n l)
  | lst ds => obtain ⟨l, _, e, _⟩ := a; exact absurd e (n l)
  | _ => exact a.elim
mutual
theorem rdv_inj {h : Heap} : ∀ {d e : D} {u : Value}, RdV h d u → RdV h e u → d = e
  | .tup xs, e, u, a, b => by
    obtain ⟨l, its, rfl, p, r⟩ := a
    rcases RdV.ref b with ⟨ds, its', rfl, p', r'⟩ | ⟨ds, its', rfl, p', r'⟩
    · have e3 : its = its' := by simpa using tup_inj p p'
      subst e3
      rw [rdvs_inj r r']
    · exact (lst_tup p' p).elim
  | .lst xs, e, u, a, b => by
    obtain ⟨l, its, rfl, p, r⟩ := a
    rcases RdV.ref b with ⟨ds, its', rfl, p', r'⟩ | ⟨ds, its', rfl, p', r'⟩
    · exact (lst_tup p p').elim
    · have e3 : its = its' := by simpa using lst_inj p p'
      subst e3
      rw [rdvs_inj r r']
  | .non, e, u, a, b => RdV.scal a b (fun l z => by cases a; cases z)
  | .bl x, e, u, a, b => RdV.scal a b (fun l z => by cases a; cases z)
  | .int x, e, u, a, b => RdV.scal a b (fun l z => by obtain ⟨t, a⟩ := a; rw [z] at a; cases a)
  | .str x, e, u, a, b => RdV.scal a b (fun l z => by obtain ⟨t, a⟩ := a; rw [z] at a; cases a)
  | .fn _, _, _, a, _ => a.elim
  | .obj _ _, _, _, a, _ => a.elim
  | .ref _, _, _, a, _ => a.elim
  | .scr _, _, _, a, _ => a.elim
  | .dic _, _, _, a, _ => a.elim
  | .kdic _, _, _, a, _ => a.elim
  | .exc _ _, _, _, a, _ => a.elim
theorem rdvs_inj {h : Heap} : ∀ {ds es : List D} {us : List Value}, RdVs h ds us → RdVs h es us → ds = es
  | [], [], _, _, _ => rfl
  | [], _ :: _, [], _, b => b.elim
  | [], _ :: _, _ :: _, a, _ => a.elim
  | _ :: _, _, [], a, _ => a.elim
  | _ :: _, [], _ :: _, _, b => b.elim
  | d :: ds, e :: es, u :: us, a, b => by rw [rdv_inj a.1 b.1, rdvs_inj a.2 b.2]
end
open Classical in
theorem anyW {items : List Value} {s : Shared} {A : Around} {x : Value} {d : D} {ds : List D} (ok : okDs ds 60 = true) (hu : A.in1.units + 60 < cLine) (rx : RdV s.heap d x) (r : RdVs s.heap ds items) :
    ∃ e : Value → Bool, (∀ y, y ∈ items → EqAt A.in1 s y x (e y)) ∧ items.any e = ds.any (fun y => eqv y d) := by
  refine ⟨fun y => if h : ∃ d', RdV s.heap d' y then eqv h.choose d else false, ?_, ?_⟩
  · have go : ∀ (ds : List D) (items : List Value), okDs ds 60 = true → RdVs s.heap ds items → ∀ y, y ∈ items → EqAt A.in1 s y x (if h : ∃ d', RdV s.heap d' y then eqv h.choose d else false) := by
      intro ds
      induction ds with
      | nil =>
        intro items ok r y hy
        cases items with
        | nil => cases hy
        | cons _ _ => exact r.elim
      | cons d' ds ih =>
        intro items ok r y hy
        cases items with
        | nil => cases hy
        | cons u us =>
          have ok' : (okD d' 60 && okDs ds 60) = true := by rw [okDs] at ok; exact ok
          obtain ⟨o1, o2⟩ := Bool.and_eq_true_iff.mp ok'
          rcases List.mem_cons.mp hy with rfl | hy
          · have ex : ∃ d', RdV s.heap d' y := ⟨d', r.1⟩
            rw [dif_pos ex, ← rdv_inj r.1 ex.choose_spec]
            exact eqAt o1 hu r.1 rx
          · exact ih us o2 r.2 y hy
    exact go ds items ok r
  · clear ok
    induction ds generalizing items with
    | nil =>
      cases items with
      | nil => rfl
      | cons _ _ => exact r.elim
    | cons d' ds ih =>
      cases items with
      | nil => exact r.elim
      | cons u us =>
        have ex : ∃ d', RdV s.heap d' u := ⟨d', r.1⟩
        rw [List.any_cons, List.any_cons, ih r.2, dif_pos ex, ← rdv_inj r.1 ex.choose_spec]
theorem look_val {q : Ky} {d : D} : ∀ {kvs : List (Ky × D)} {kws : List (L2.Key × V)}, IsKs κ as H kvs kws → lookK kvs q = some d → ∃ v, valV kws (kx q) = some v ∧ IsD κ as H d v
  | [], _, _, h => by simp [lookK] at h
  | (k, d') :: r, (q', v) :: r', hd, h => by
    obtain ⟨⟨e, _⟩, hv, hr⟩ := hd
    rw [lookK] at h
    by_cases z : k = q
    · rw [if_pos z] at h
      cases h
      exact ⟨v, valV_pos (by rw [e, z]), hv⟩
    · rw [if_neg z] at h
      obtain ⟨v', h1, h2⟩ := look_val hr h
      exact ⟨v', (valV_neg (fun w => z (kx_inj (by rw [← e]; exact w)))).trans h1, h2⟩
  | _ :: _, [], hd, _ => hd.elim
theorem look_none {q : Ky} : ∀ {kvs : List (Ky × D)} {kws : List (L2.Key × V)}, IsKs κ as H kvs kws → lookK kvs q = none → valV kws (kx q) = none
  | [], [], _, _ => rfl
  | [], _ :: _, hd, _ => hd.elim
  | (k, d') :: r, (q', v) :: r', hd, h => by
    obtain ⟨⟨e, _⟩, hv, hr⟩ := hd
    rw [lookK] at h
    by_cases z : k = q
    · rw [if_pos z] at h
      cases h
    · rw [if_neg z] at h
      exact (valV_neg (fun w => z (kx_inj (by rw [← e]; exact w)))).trans (look_none hr h)
  | _ :: _, [], hd, _ => hd.elim
theorem look_some {q : Ky} {kvs : List (Ky × D)} {kws : List (L2.Key × V)} (hd : IsKs κ as H kvs kws) : (lookK kvs q).isSome = (valV kws (kx q)).isSome := by
  cases h : lookK kvs q with
  | none =>
    rw [look_none hd h]
    rfl
  | some d =>
    obtain ⟨v, h1, _⟩ := look_val hd h
    rw [h1]
    rfl
theorem lookz_val {a : Addr} {q : Nm} {d : D} : ∀ {kvs : List (Nm × D)}, IsZs κ as H a kvs → lookN kvs q = some d → ∃ u v, PySem.W.nsIn κ.K a (tx q) = some (some u) ∧ RelV v u ∧ IsD κ as H d v
  | [], _, h => by simp [lookN] at h
  | (k, d') :: r, hd, h => by
    obtain ⟨hv, hr⟩ := hd
    rw [lookN] at h
    by_cases z : k = q
    · rw [if_pos z] at h
      cases h
      rw [← z]
      exact hv
    · rw [if_neg z] at h
      exact lookz_val hr h
theorem lookz_none {q : Nm} : ∀ {kvs : List (Nm × D)}, lookN kvs q = none → q ∉ kvs.map (·.1)
  | [], _ => by simp
  | (k, d') :: r, h => by
    rw [lookN] at h
    by_cases z : k = q
    · rw [if_pos z] at h; cases h
    · rw [if_neg z] at h
      intro m
      rw [List.map_cons] at m
      rcases List.mem_cons.mp m with e | m
      · exact z e.symm
      · exact lookz_none h m
theorem lookz_some {a : Addr} {q : Nm} {kvs : List (Nm × D)} (kd : KDic κ a (kvs.map (·.1))) (hd : IsZs κ as H a kvs) : ∃ r, PySem.W.nsIn κ.K a (tx q) = some r ∧ r.isSome = (lookN kvs q).isSome := by
  cases h : lookN kvs q with
  | none => exact ⟨none, kd.non q (lookz_none h), rfl⟩
  | some d =>
    obtain ⟨u, v, h1, h2, h3⟩ := lookz_val hd h
    exact ⟨some u, h1, rfl⟩
theorem dget_rd {H : Hp} {a : Addr} {kvs : List (Key × V)} {k : Key} (e : Rd H a (.dK kvs)) : DGet H a (kV k) (valV kvs k) := .inl ⟨kvs, k, e, rfl, rfl⟩
theorem subS_eq (i j : Nm) : subS i j = !(Builtin.Str.occurrences (tx j) (tx i) 0 (tx j).length 1).isEmpty := by
  rw [tx_len]
  rfl
theorem isT0_of {x y : D} (h : isT0 x y = true) : ∃ xs, x = .tup xs ∧ y = .tup [] := by
  unfold isT0 at h
  split at h
  · exact ⟨_, rfl, rfl⟩
  · cases h
theorem t0At {pins : List (Addr × Obj)} {σ : L2.St} {s : Shared} {A : Around} (hκ : κ.K = X.K) (hu : A.units < cLine) {xs : List D} {x y : V} {v u : Value} (I : Inv X pins σ H s) (wx : IsV κ as H (.tup xs) x) (wy : IsV κ as H (.tup []) y) (rx : RelV x v) (ry : RelV y u) : RcAt A s v u (eqv (.tup xs) (.tup [])) := by
  obtain ⟨a, vs, rfl, ha, hd⟩ := wx
  obtain ⟨b, ws, rfl, hb, he⟩ := wy
  rw [hκ] at ha hb
  cases rx
  cases ry
  obtain ⟨its, r1, p1, _⟩ := I.tuple ha
  obtain ⟨its2, r2, p2, _⟩ := I.tuple hb
  have n1 := hd.length
  have n2 := he.length
  have m1 := r1.length
  have m2 := r2.length
  have z2 : its2 = [] := List.eq_nil_of_length_eq_zero (by rw [← m2, ← n2]; rfl)
  subst z2
  have z := RcAt.tuples (A := A) p1 p2 hu (e := fun _ => true) fun j j1 j2 => by simp at j2
  have e : eqv (.tup xs) (.tup []) = (its.length == 0) := by
    show eqvs xs [] = _
    rw [← m1, ← n1]
    cases xs <;> rfl
  rw [e]
  simpa using z
theorem t0NeAt {pins : List (Addr × Obj)} {σ : L2.St} {s : Shared} {A : Around} (hκ : κ.K = X.K) (hu : A.units < cLine) {xs : List D} {x y : V} {v u : Value} (I : Inv X pins σ H s) (wx : IsV κ as H (.tup xs) x) (wy : IsV κ as H (.tup []) y) (rx : RelV x v) (ry : RelV y u) : RcNeAt A s v u (!eqv (.tup xs) (.tup [])) := by
  obtain ⟨a, vs, rfl, ha, hd⟩ := wx
  obtain ⟨b, ws, rfl, hb, he⟩ := wy
  rw [hκ] at ha hb
  cases rx
  cases ry
  obtain ⟨its, r1, p1, _⟩ := I.tuple ha
  obtain ⟨its2, r2, p2, _⟩ := I.tuple hb
  have n1 := hd.length
  have n2 := he.length
  have m1 := r1.length
  have m2 := r2.length
  have z2 : its2 = [] := List.eq_nil_of_length_eq_zero (by rw [← m2, ← n2]; rfl)
  subst z2
  have z := RcNeAt.tuples (A := A) p1 p2 hu (e := fun _ => true) fun j j1 j2 => by simp at j2
  have e : eqv (.tup xs) (.tup []) = (its.length == 0) := by
    show eqvs xs [] = _
    rw [← m1, ← n1]
    cases xs <;> rfl
  rw [e]
  simpa using z
theorem op_cmp (hκ : κ.K = X.K) (hw : κ.w = X.w) (hu : X.A.units + 64 < cLine) (o : Cop) : OpR X (compareOp (copE o)) (rCmp κ o) := by
  intro pins s σ H x y v u Q I rx ry q
  obtain ⟨as, S, dx, dy, ke, wx, wy, b⟩ := q
  have fin : ∀ {r : Bool}, Q (.bl r) H → EP X pins σ Q (.bool r) s := fun {r} h => ⟨.bl r, H, I, rfl, h⟩
  cases o with
  | eq =>
    obtain ⟨ok, b⟩ := Out.of_chk b
    rcases Bool.or_eq_true_iff.mp ok with ok | ok
    · obtain ⟨xs, rfl, rfl⟩ := isT0_of ok
      exact t0At hκ (by omega) I wx wy rx ry _ _ _ _ (fin b)
    obtain ⟨o1, o2⟩ := Bool.and_eq_true_iff.mp ok
    exact rcAt o1 (by omega) (rdv_of hκ I o1 wx rx) (rdv_of hκ I o2 wy ry) _ _ _ _ (fin b)
  | ne =>
    obtain ⟨ok, b⟩ := Out.of_chk b
    rcases Bool.or_eq_true_iff.mp ok with ok | ok
    · obtain ⟨xs, rfl, rfl⟩ := isT0_of ok
      exact t0NeAt hκ (by omega) I wx wy rx ry _ _ _ _ (fin b)
    obtain ⟨o1, o2⟩ := Bool.and_eq_true_iff.mp ok
    exact rcNeAt o1 (by omega) (rdv_of hκ I o1 wx rx) (rdv_of hκ I o2 wy ry) _ _ _ _ (fin b)
  | lt =>
    cases dx with
    | int i => cases dy with
      | int j => exact OpR.use op_lt I rx ry ⟨i, j, wx, wy, b⟩
      | _ => exact b.elim
    | str i => cases dy with
      | str j => exact OpR.use op_lt_str I rx ry ⟨tx i, tx j, wx.1, wy.1, by rw [tx_list, tx_list]; exact b⟩
      | _ => exact b.elim
    | _ => exact b.elim
  | le =>
    cases dx with
    | int i => cases dy with
      | int j => exact OpR.use op_le I rx ry ⟨i, j, wx, wy, b⟩
      | _ => exact b.elim
    | str i => cases dy with
      | str j => exact OpR.use op_le_str I rx ry ⟨tx i, tx j, wx.1, wy.1, by rw [tx_list, tx_list]; exact b⟩
      | _ => exact b.elim
    | _ => exact b.elim
  | gt =>
    cases dx with
    | int i => cases dy with
      | int j => exact OpR.use op_gt I rx ry ⟨i, j, wx, wy, b⟩
      | _ => exact b.elim
    | str i => cases dy with
      | str j => exact OpR.use op_gt_str I rx ry ⟨tx i, tx j, wx.1, wy.1, by rw [tx_list, tx_list]; exact b⟩
      | _ => exact b.elim
    | _ => exact b.elim
  | ge =>
    cases dx with
    | int i => cases dy with
      | int j => exact OpR.use op_ge I rx ry ⟨i, j, wx, wy, b⟩
      | _ => exact b.elim
    | str i => cases dy with
      | str j => exact OpR.use op_ge_str I rx ry ⟨tx i, tx j, wx.1, wy.1, by rw [tx_list, tx_list]; exact b⟩
      | _ => exact b.elim
    | _ => exact b.elim
  | is =>
    cases dy with
    | non =>
      have e : y = .non := wy
      refine OpR.use op_isN I rx ry ⟨e, ?_⟩
      have e2 : decide (x = V.non) = isNon dx := by
        cases dx with
        | non => have z : x = V.non := wx; simp [z, isNon]
        | bl i => have z : x = V.bl i := wx; simp [z, isNon]
        | int i => have z : x = V.int i := wx; simp [z, isNon]
        | str i => have z : x = V.str (tx i) := wx.1; simp [z, isNon]
        | fn i => have z : x = V.ref _ := wx; simp [z, isNon]
        | ref i => obtain ⟨_, _, z⟩ := wx; simp [z, isNon]
        | tup i => obtain ⟨_, _, z, _⟩ := wx; simp [z, isNon]
        | lst i => obtain ⟨_, _, z, _⟩ := wx; simp [z, isNon]
        | scr i => obtain ⟨_, z, _⟩ := wx; simp [z, isNon]
        | dic i => obtain ⟨_, _, z, _⟩ := wx; simp [z, isNon]
        | kdic i => obtain ⟨_, z, _⟩ := wx; simp [z, isNon]
        | obj i j => obtain ⟨_, _, _, z, _⟩ := wx; simp [z, isNon]
        | exc i j => obtain ⟨_, _, z, _⟩ := wx; simp [z, isNon]
      rw [e2]
      exact b
    | _ => exact b.elim
  | isn =>
    cases dy with
    | non =>
      have e : y = .non := wy
      refine OpR.use op_notN I rx ry ⟨e, ?_⟩
      have e2 : (!decide (x = V.non)) = !isNon dx := by
        cases dx with
        | non => have z : x = V.non := wx; simp [z, isNon]
        | bl i => have z : x = V.bl i := wx; simp [z, isNon]
        | int i => have z : x = V.int i := wx; simp [z, isNon]
        | str i => have z : x = V.str (tx i) := wx.1; simp [z, isNon]
        | fn i => have z : x = V.ref _ := wx; simp [z, isNon]
        | ref i => obtain ⟨_, _, z⟩ := wx; simp [z, isNon]
        | tup i => obtain ⟨_, _, z, _⟩ := wx; simp [z, isNon]
        | lst i => obtain ⟨_, _, z, _⟩ := wx; simp [z, isNon]
        | scr i => obtain ⟨_, z, _⟩ := wx; simp [z, isNon]
        | dic i => obtain ⟨_, _, z, _⟩ := wx; simp [z, isNon]
        | kdic i => obtain ⟨_, z, _⟩ := wx; simp [z, isNon]
        | obj i j => obtain ⟨_, _, _, z, _⟩ := wx; simp [z, isNon]
        | exc i j => obtain ⟨_, _, z, _⟩ := wx; simp [z, isNon]
      rw [e2]
      exact b
    | _ => exact b.elim
  | inn =>
    have seqL : ∀ {ys : List D}, IsV κ as H (.lst ys) y → Out (R.chk (pl dx && pls ys) (.ok (ys.any fun y => eqv y dx) S)) (fun r _ => Q (.bl r) H) ke → wpAny (model X.prog X.w) X.A (compareOp .In v u) (EP X pins σ Q) X.xe s := fun {ys} wy b => by
      obtain ⟨ok, b⟩ := Out.of_chk b
      obtain ⟨o1, o2⟩ := Bool.and_eq_true_iff.mp ok
      have ry' := rdv_of (d := .lst ys) (n := 61) hκ I (by rw [okD]; exact o2) wy ry
      obtain ⟨l, its, rfl, p, r⟩ := ry'
      obtain ⟨e, h1, h2⟩ := anyW (A := X.A) o2 (by show X.A.units + 1 + 60 < cLine; omega) (rdv_of hκ I o1 wx rx) r
      refine in_listAt e p (fun y hy => h1 y (by simpa using hy)) ?_
      rw [List.any_toArray, h2]
      exact fin b
    have seqT : ∀ {ys : List D}, IsV κ as H (.tup ys) y → Out (R.chk (pl dx && pls ys) (.ok (ys.any fun y => eqv y dx) S)) (fun r _ => Q (.bl r) H) ke → wpAny (model X.prog X.w) X.A (compareOp .In v u) (EP X pins σ Q) X.xe s := fun {ys} wy b => by
      obtain ⟨ok, b⟩ := Out.of_chk b
      obtain ⟨o1, o2⟩ := Bool.and_eq_true_iff.mp ok
      have ry' := rdv_of (d := .tup ys) (n := 61) hκ I (by rw [okD]; exact o2) wy ry
      obtain ⟨l, its, rfl, p, r⟩ := ry'
      obtain ⟨e, h1, h2⟩ := anyW (A := X.A) o2 (by show X.A.units + 1 + 60 < cLine; omega) (rdv_of hκ I o1 wx rx) r
      refine in_tupleAt e p (fun y hy => h1 y (by simpa using hy)) ?_
      rw [List.any_toArray, h2]
      exact fin b
    cases dy with
    | lst ys => cases dx <;> exact seqL wy b
    | tup ys => cases dx <;> exact seqT wy b
    | str j => cases dx with
      | str i => exact OpR.use op_in_str I rx ry ⟨tx i, tx j, wx.1, wy.1, by have b' := b; simp only [cmpD, subS_eq] at b'; exact b'⟩
      | _ => exact b.elim
    | dic kvs =>
      obtain ⟨a, kws, rfl, hH, hd⟩ := wy
      cases ry
      cases dx with
      | str i => exact d_in (by omega) I (dget_rd (k := Sum.inr (tx i)) hH) (by cases wx.1; exact rx) fun s' I' => ⟨.bl _, H, I', rfl, by rw [show (Sum.inr (tx i) : L2.Key) = kx (.inr i) from rfl, ← look_some hd]; exact b⟩
      | int i => exact d_in (by omega) I (dget_rd (k := Sum.inl i) hH) (by cases wx; exact rx) fun s' I' => ⟨.bl _, H, I', rfl, by rw [show (Sum.inl i : L2.Key) = kx (.inl i) from rfl, ← look_some hd]; exact b⟩
      | _ => exact b.elim
    | kdic kvs =>
      obtain ⟨a, rfl, kd, hd⟩ := wy
      obtain ⟨es, n, kd'⟩ := kd.lit
      rw [hκ, hw] at kd'
      cases dx with
      | str i =>
        obtain ⟨r, e1, e2⟩ := lookz_some (q := i) kd hd
        rw [hκ] at e1
        exact OpR.use (op_in_kd kd') I rx ry ⟨tx i, r, wx.1, rfl, e1, by rw [e2]; exact b⟩
      | _ => exact b.elim
    | _ => cases dx <;> exact b.elim
  | nin =>
    have seqL : ∀ {ys : List D}, IsV κ as H (.lst ys) y → Out (R.chk (pl dx && pls ys) (.ok (!ys.any fun y => eqv y dx) S)) (fun r _ => Q (.bl r) H) ke → wpAny (model X.prog X.w) X.A (compareOp .NotIn v u) (EP X pins σ Q) X.xe s := fun {ys} wy b => by
      obtain ⟨ok, b⟩ := Out.of_chk b
      obtain ⟨o1, o2⟩ := Bool.and_eq_true_iff.mp ok
      have ry' := rdv_of (d := .lst ys) (n := 61) hκ I (by rw [okD]; exact o2) wy ry
      obtain ⟨l, its, rfl, p, r⟩ := ry'
      obtain ⟨e, h1, h2⟩ := anyW (A := X.A) o2 (by show X.A.units + 1 + 60 < cLine; omega) (rdv_of hκ I o1 wx rx) r
      refine notIn_listAt e p (fun y hy => h1 y (by simpa using hy)) ?_
      rw [List.any_toArray, h2]
      exact fin b
    have seqT : ∀ {ys : List D}, IsV κ as H (.tup ys) y → Out (R.chk (pl dx && pls ys) (.ok (!ys.any fun y => eqv y dx) S)) (fun r _ => Q (.bl r) H) ke → wpAny (model X.prog X.w) X.A (compareOp .NotIn v u) (EP X pins σ Q) X.xe s := fun {ys} wy b => by
      obtain ⟨ok, b⟩ := Out.of_chk b
      obtain ⟨o1, o2⟩ := Bool.and_eq_true_iff.mp ok
      have ry' := rdv_of (d := .tup ys) (n := 61) hκ I (by rw [okD]; exact o2) wy ry
      obtain ⟨l, its, rfl, p, r⟩ := ry'
      obtain ⟨e, h1, h2⟩ := anyW (A := X.A) o2 (by show X.A.units + 1 + 60 < cLine; omega) (rdv_of hκ I o1 wx rx) r
      refine notIn_tupleAt e p (fun y hy => h1 y (by simpa using hy)) ?_
      rw [List.any_toArray, h2]
      exact fin b
    cases dy with
    | lst ys => cases dx <;> exact seqL wy b
    | tup ys => cases dx <;> exact seqT wy b
    | str j => cases dx with
      | str i => exact OpR.use op_notin_str I rx ry ⟨tx i, tx j, wx.1, wy.1, by have b' := b; simp only [cmpD, subS_eq] at b'; exact b'⟩
      | _ => exact b.elim
    | dic kvs =>
      obtain ⟨a, kws, rfl, hH, hd⟩ := wy
      cases ry
      cases dx with
      | str i => exact d_notIn (by omega) I (dget_rd (k := Sum.inr (tx i)) hH) (by cases wx.1; exact rx) fun s' I' => ⟨.bl _, H, I', rfl, by rw [show (Sum.inr (tx i) : L2.Key) = kx (.inr i) from rfl, ← look_some hd]; exact b⟩
      | int i => exact d_notIn (by omega) I (dget_rd (k := Sum.inl i) hH) (by cases wx; exact rx) fun s' I' => ⟨.bl _, H, I', rfl, by rw [show (Sum.inl i : L2.Key) = kx (.inl i) from rfl, ← look_some hd]; exact b⟩
      | _ => exact b.elim
    | kdic kvs =>
      obtain ⟨a, rfl, kd, hd⟩ := wy
      obtain ⟨es, n, kd'⟩ := kd.lit
      rw [hκ, hw] at kd'
      cases dx with
      | str i =>
        obtain ⟨r, e1, e2⟩ := lookz_some (q := i) kd hd
        rw [hκ] at e1
        exact OpR.use (op_notIn_kd kd') I rx ry ⟨tx i, r, wx.1, rfl, e1, by rw [e2]; exact b⟩
      | _ => exact b.elim
    | _ => cases dx <;> exact b.elim

/-! ### subscripts, slices -/
theorem atI_eq {α : Type} (xs : List α) (i : Int) : Ev.atI xs i = L2.atI xs i := by
  unfold Ev.atI L2.atI ixN
  by_cases h : 0 ≤ i
  · rw [if_pos h, if_pos h]
    by_cases h2 : i < xs.length
    · rw [if_pos h2]; rfl
    · rw [if_neg h2]
      exact List.getElem?_eq_none_iff.mpr (by omega)
  · rw [if_neg h, if_neg h]
    by_cases h2 : 0 ≤ i + xs.length
    · rw [if_pos h2, if_pos (by omega)]; rfl
    · rw [if_neg h2, if_neg (by omega)]; rfl
theorem atI_get {α : Type} {xs : List α} {i : Int} {x : α} (h : L2.atI xs i = some x) : ∃ j, ixN xs.length i = some j ∧ xs[j]? = some x := by
  unfold L2.atI at h
  cases q : ixN xs.length i with
  | none => rw [q] at h; cases h
  | some j => rw [q] at h; exact ⟨j, rfl, h⟩
theorem IsDs.atI {ds : List D} {vs : List V} {i : Int} {d : D} (r : IsDs κ as H ds vs) (h : L2.atI ds i = some d) : ∃ v, L2.atI vs i = some v ∧ IsD κ as H d v := by
  obtain ⟨j, h1, h2⟩ := atI_get h
  obtain ⟨v, h3, h4⟩ := r.get h2
  refine ⟨v, ?_, h4⟩
  unfold L2.atI
  rw [← r.length, h1]
  exact h3
def rIdx (κ : Kx) : R2 := fun x y H Q => ∃ as S dx dy ke, IsV κ as H dx x ∧ IsD κ as H dy y ∧ Out (idxD dx dy S) (fun d _ => ∀ v, IsD κ as H d v → Q v H) ke
theorem ix_any (hκ : κ.K = X.K) (hw : κ.w = X.w) (hu : X.A.units + 64 < cLine) : IxR X (rIdx κ) := by
  intro value slice pins s σ H x y v u Q I rx ry h hs
  obtain ⟨as, S, dx, dy, ke, wx, wy, b⟩ := h
  cases dx with
  | lst xs => cases dy with
    | int i =>
      obtain ⟨a, vs, rfl, hH, hd⟩ := wx
      obtain ⟨d, q, k⟩ := Out.of_of b
      rw [atI_eq] at q
      obtain ⟨v', e1, e2⟩ := hd.atI q
      exact ix_list value slice pins s σ H _ _ v u Q I rx ry ⟨a, vs, i, v', rfl, wy, .inl hH, e1, k _ e2⟩ hs
    | _ => exact b.elim
  | tup xs => cases dy with
    | int i =>
      obtain ⟨a, vs, rfl, hH, hd⟩ := wx
      rw [hκ] at hH
      obtain ⟨d, q, k⟩ := Out.of_of b
      rw [atI_eq] at q
      obtain ⟨v', e1, e2⟩ := hd.atI q
      exact ix_tup value slice pins s σ H _ _ v u Q I rx ry ⟨a, vs, i, v', rfl, wy, hH, e1, k _ e2⟩ hs
    | _ => exact b.elim
  | scr ns => cases dy with
    | int i =>
      obtain ⟨a, rfl, hH⟩ := wx
      rw [hκ] at hH
      obtain ⟨d, q, k⟩ := Out.of_of b
      cases q2 : Ev.atI ns i with
      | none => rw [q2] at q; cases q
      | some m =>
        rw [q2] at q
        cases q
        rw [atI_eq] at q2
        obtain ⟨j, h1, h2⟩ := atI_get q2
        have e1 : L2.atI (ns.map V.int) i = some (.int m) := by
          unfold L2.atI
          rw [List.length_map, h1]
          show (ns.map V.int)[j]? = _
          rw [List.getElem?_map, h2]
          rfl
        exact ix_list value slice pins s σ H _ _ v u Q I rx ry ⟨a, _, i, _, rfl, wy, hH, e1, k _ rfl⟩ hs
    | _ => exact b.elim
  | str z => cases dy with
    | int i =>
      obtain ⟨d, q, k⟩ := Out.of_of b
      cases q2 : Ev.atI z i with
      | none => rw [q2] at q; cases q
      | some c =>
        rw [q2] at q
        cases q
        rw [atI_eq] at q2
        exact ix_str value slice pins s σ H _ _ v u Q I rx ry ⟨tx z, i, c, wx.1, wy, by rw [tx_len]; exact szOk_of wx.2, by rw [tx_list]; exact q2, k _ ⟨rfl, rfl⟩⟩ hs
    | _ => exact b.elim
  | dic kvs =>
    obtain ⟨a, kws, rfl, hH, hd⟩ := wx
    cases rx
    have go : ∀ {q : Ky} {d : D}, lookK kvs q = some d → (∀ v, IsD κ as H d v → Q v H) → RelV (kV (kx q)) u → wpAny (model X.prog X.w) X.A (subscriptTail value slice (.ref a) u) (EP X pins σ Q) X.xe s := fun {q d} e kd ru => by
      obtain ⟨v', e1, e2⟩ := look_val hd e
      have g : DGet H a (kV (kx q)) (some v') := by rw [← e1]; exact dget_rd hH
      exact tail_any (dict_typeIs I g) slot_dict_getitem.lookup (d_getItem (by omega) I g ru fun w' s' I' r' => ⟨v', H, I', r', kd _ e2⟩) hs
    cases dy with
    | int i =>
      obtain ⟨d, q, k⟩ := Out.of_of b
      exact go q k (by cases wy; exact ry)
    | str i =>
      obtain ⟨d, q, k⟩ := Out.of_of b
      exact go q k (by cases wy.1; exact ry)
    | _ => exact b.elim
  | kdic kvs =>
    obtain ⟨a, rfl, kd, hd⟩ := wx
    obtain ⟨es, n, kd'⟩ := kd.lit
    rw [hκ, hw] at kd'
    cases dy with
    | str i =>
      obtain ⟨d, q, k⟩ := Out.of_of b
      obtain ⟨u0, v0, e1, e2, e3⟩ := lookz_val hd q
      rw [hκ] at e1
      cases rx
      exact tail_any (kd_type kd' I) slot_dict_getitem.lookup (OpR.use (op_item_kd kd') I (show RelV (.ref a) (.ref a) from rfl) ry ⟨tx i, u0, v0, rfl, wy.1, e1, e2, k _ e3⟩) hs
    | _ => exact b.elim
  | _ => exact b.elim
end
end Ev
set_option maxHeartbeats 2000000
/-! Ev, part 7: calls of what is built in. -/
namespace Ev
open PySem PySem.Spec PyProof.Rows L2
section
variable {κ : Kx} {as : List Addr} {H : Hp}
theorem IsDs.ints {ns : List Int} : ∀ {ds : List D} {vs : List V}, toInts ds = some ns → IsDs κ as H ds vs → vs = ns.map V.int := by
  induction ns with
  | nil =>
    intro ds vs e h
    cases ds with
    | nil => cases vs with
      | nil => rfl
      | cons _ _ => exact h.elim
    | cons d r => cases d <;> simp [toInts] at e
  | cons n ns ih =>
    intro ds vs e h
    cases ds with
    | nil => simp [toInts] at e
    | cons d r =>
      cases d <;> simp [toInts] at e
      obtain ⟨e1, rfl⟩ := e
      cases vs with
      | nil => exact h.elim
      | cons v vs =>
        have h1 : v = V.int _ := h.1
        rw [h1, ih e1 h.2]
        rfl
theorem IsDs.bools {bs : List Bool} : ∀ {ds : List D} {vs : List V}, toBools ds = some bs → IsDs κ as H ds vs → vs = bs.map V.bl := by
  induction bs with
  | nil =>
    intro ds vs e h
    cases ds with
    | nil => cases vs with
      | nil => rfl
      | cons _ _ => exact h.elim
    | cons d r => cases d <;> simp [toBools] at e
  | cons n ns ih =>
    intro ds vs e h
    cases ds with
    | nil => simp [toBools] at e
    | cons d r =>
      cases d <;> simp [toBools] at e
      obtain ⟨e1, rfl⟩ := e
      cases vs with
      | nil => exact h.elim
      | cons v vs =>
        have h1 : v = V.bl _ := h.1
        rw [h1, ih e1 h.2]
        rfl
theorem IsDs.of_ints : ∀ {ns : List Int}, IsDs κ as H (ns.map D.int) (ns.map V.int)
  | [] => True.intro
  | _ :: _ => ⟨rfl, IsDs.of_ints⟩
def IsVs (κ : Kx) (as : List Addr) (H : Hp) : List D → List V → Prop
  | [], [] => True
  | d :: ds, v :: vs => IsV κ as H d v ∧ IsVs κ as H ds vs
  | _, _ => False
theorem IsEs.vs {S : Sto} (hS : RepS κ as H S) : ∀ {ds : List W} {vs : List V}, IsEs κ as H ds vs → IsVs κ as H (ds.map (W.vw S)) vs
  | [], [], _ => True.intro
  | _ :: _, _ :: _, h => ⟨h.1.vw hS, IsEs.vs hS h.2⟩
  | [], _ :: _, h => h.elim
  | _ :: _, [], h => h.elim
theorem IsVs.one {d : D} {vs : List V} (h : IsVs κ as H [d] vs) : ∃ v, vs = [v] ∧ IsV κ as H d v := by
  cases vs with
  | nil => exact h.elim
  | cons v vs => cases vs with
    | nil => exact ⟨v, rfl, h.1⟩
    | cons _ _ => exact h.2.elim
theorem IsVs.two {d e : D} {vs : List V} (h : IsVs κ as H [d, e] vs) : ∃ v w, vs = [v, w] ∧ IsV κ as H d v ∧ IsV κ as H e w := by
  cases vs with
  | nil => exact h.elim
  | cons v vs =>
    obtain ⟨w, rfl, hw⟩ := IsVs.one h.2
    exact ⟨v, w, rfl, h.1, hw⟩
end
theorem minI_spec : ∀ (ns : List Int) (n : Int), (minI n ns = n ∨ minI n ns ∈ ns) ∧ minI n ns ≤ n ∧ ∀ y ∈ ns, minI n ns ≤ y
  | [], n => ⟨.inl rfl, Int.le_refl _, fun _ h => nomatch h⟩
  | j :: r, n => by
    rw [minI]
    obtain ⟨h1, h2, h3⟩ := minI_spec r (if j < n then j else n)
    refine ⟨?_, ?_, fun y hy => ?_⟩
    · rcases h1 with h1 | h1
      · rw [h1]
        by_cases z : j < n
        · rw [if_pos z]; exact .inr List.mem_cons_self
        · rw [if_neg z]; exact .inl rfl
      · exact .inr (List.mem_cons_of_mem _ h1)
    · by_cases z : j < n
      · rw [if_pos z] at h2 ⊢; omega
      · rw [if_neg z] at h2 ⊢; exact h2
    · rcases List.mem_cons.mp hy with rfl | hy
      · by_cases z : y < n
        · rw [if_pos z] at h2 ⊢; exact h2
        · rw [if_neg z] at h2 ⊢; omega
      · exact h3 y hy
theorem maxI_spec : ∀ (ns : List Int) (n : Int), (maxI n ns = n ∨ maxI n ns ∈ ns) ∧ n ≤ maxI n ns ∧ ∀ y ∈ ns, y ≤ maxI n ns
  | [], n => ⟨.inl rfl, Int.le_refl _, fun _ h => nomatch h⟩
  | j :: r, n => by
    rw [maxI]
    obtain ⟨h1, h2, h3⟩ := maxI_spec r (if n < j then j else n)
    refine ⟨?_, ?_, fun y hy => ?_⟩
    · rcases h1 with h1 | h1
      · rw [h1]
        by_cases z : n < j
        · rw [if_pos z]; exact .inr List.mem_cons_self
        · rw [if_neg z]; exact .inl rfl
      · exact .inr (List.mem_cons_of_mem _ h1)
    · by_cases z : n < j
      · rw [if_pos z] at h2 ⊢; omega
      · rw [if_neg z] at h2 ⊢; exact h2
    · rcases List.mem_cons.mp hy with rfl | hy
      · by_cases z : n < y
        · rw [if_pos z] at h2 ⊢; exact h2
        · rw [if_neg z] at h2 ⊢; omega
      · exact h3 y hy
section
variable {X : Cx} {κ : Kx}
def bltN : Blt → String
  | .len => "len"
  | .sum => "sum"
  | .min => "min"
  | .max => "max"
  | .minO => "min"
  | .any => "any"
  | .all => "all"
  | .tup => "tuple"
  | .int => "int"
  | .str => "str"
  | .divmod => "divmod"
  | .abs => "abs"
def bltV : Blt → Value
  | .tup => .type "tuple"
  | .int => .type "int"
  | .str => .type "str"
  | b => .builtin (bltN b)
def rBlt (κ : Kx) (b : Blt) : List V → Hp → VK → Prop := fun xs H Q => ∃ as S ds ke, RepS κ as H S ∧ IsVs κ as H ds xs ∧ b ≠ .minO ∧ Out (bltD b ds S) (kD κ as H Q) ke
section
variable {pins : List (Addr × Obj)} {s : Shared} {σ : L2.St} {H : Hp} {v : V} {us : List Value} {Q : VK} {S : Sto} {as : List Addr}
theorem list_of (hκ : κ.K = X.K) {x : D} {xs : List D} (w : IsV κ as H x v) (b : listD x = some xs) : ∃ a vs, v = .ref a ∧ SqL X.K H a vs ∧ IsDs κ as H xs vs := by
  cases x with
  | lst ys =>
    cases b
    obtain ⟨a, vs, rfl, hH, hd⟩ := w
    exact ⟨a, vs, rfl, .inl hH, hd⟩
  | scr ns =>
    cases b
    obtain ⟨a, rfl, hH⟩ := w
    rw [hκ] at hH
    refine ⟨a, _, rfl, hH, ?_⟩
    clear hH
    induction ns with
    | nil => exact True.intro
    | cons n ns ih => exact ⟨rfl, ih⟩
  | _ => cases b
theorem items_of (hκ : κ.K = X.K) {x : D} {xs : List D} (w : IsV κ as H x v) (b : itemsD x = some xs) : ∃ a vs, v = .ref a ∧ (SqL X.K H a vs ∨ SqT X.K H a vs) ∧ IsDs κ as H xs vs := by
  cases x with
  | tup ys =>
    cases b
    obtain ⟨a, vs, rfl, hH, hd⟩ := w
    rw [hκ] at hH
    exact ⟨a, vs, rfl, .inr hH, hd⟩
  | lst ys =>
    obtain ⟨a, vs, e, h1, h2⟩ := list_of hκ w (show listD (.lst ys) = some xs from b)
    exact ⟨a, vs, e, .inl h1, h2⟩
  | scr ys =>
    obtain ⟨a, vs, e, h1, h2⟩ := list_of hκ w (show listD (.scr ys) = some xs from b)
    exact ⟨a, vs, e, .inl h1, h2⟩
  | _ => cases b
theorem ints_of (hκ : κ.K = X.K) {x : D} {ns : List Int} (w : IsV κ as H x v) (b : (listD x).bind toInts = some ns) : ∃ a, v = .ref a ∧ SqL X.K H a (ns.map V.int) := by
  obtain ⟨xs, e1, e2⟩ := Option.bind_eq_some_iff.mp b
  obtain ⟨a, vs, e, h1, h2⟩ := list_of hκ w e1
  exact ⟨a, e, by rw [← h2.ints e2]; exact h1⟩
theorem bools_of (hκ : κ.K = X.K) {x : D} {ns : List Bool} (w : IsV κ as H x v) (b : (listD x).bind toBools = some ns) : ∃ a, v = .ref a ∧ SqL X.K H a (ns.map V.bl) := by
  obtain ⟨xs, e1, e2⟩ := Option.bind_eq_some_iff.mp b
  obtain ⟨a, vs, e, h1, h2⟩ := list_of hκ w e1
  exact ⟨a, e, by rw [← h2.bools e2]; exact h1⟩
theorem digs_eq (i : Int) : Str.ofString (toString i) = tx (digs i) := by
  rw [Str.ofString_eq_toList]
  rfl
theorem cr_blt1 {ke : D → Sto → Prop} (hκ : κ.K = X.K) (hc : X.calm = true) (b : Blt) {x : D} (I : Inv X pins σ H s) (rx : Vals [v] us) (hS : RepS κ as H S) (w : IsV κ as H x v) (nb : b ≠ .minO) (bk : Out (blt1 b x S) (kD κ as H Q) ke) :
    wpAny (model X.prog X.w) X.A (PySem.call (bltV b) us) (EP X pins σ Q) X.xe s := by
  cases b with
  | minO => exact absurd rfl nb
  | len =>
    cases x with
    | lst ys =>
      obtain ⟨a, vs, rfl, hH, hd⟩ := w
      exact CallR.use call_len I rx ⟨_, _, rfl, .inl ⟨vs, (.inl hH), rfl⟩, by rw [← hd.length]; exact kD.here bk rfl hS⟩
    | tup ys =>
      obtain ⟨a, vs, rfl, hH, hd⟩ := w
      rw [hκ] at hH
      exact CallR.use call_len I rx ⟨_, _, rfl, .inr ⟨vs, hH, rfl⟩, by rw [← hd.length]; exact kD.here bk rfl hS⟩
    | scr ns =>
      obtain ⟨a, rfl, hH⟩ := w
      rw [hκ] at hH
      exact CallR.use call_len I rx ⟨_, _, rfl, .inl ⟨_, hH, rfl⟩, by rw [List.length_map]; exact kD.here bk rfl hS⟩
    | str z =>
      cases w.1
      exact CallR.use call_len I rx ⟨_, (tx z).length, rfl, ⟨by rw [tx_len]; exact szOk_of w.2, rfl⟩, by rw [tx_len]; exact kD.here bk rfl hS⟩
    | dic kvs =>
      obtain ⟨a, kws, rfl, hH, hd⟩ := w
      obtain ⟨u, rfl, ru⟩ := vals1 rx
      cases ru
      have el : kvs.length = kws.length := hd.length
      exact d_len I hH fun t s' I' => ⟨.int kws.length, H, I', ⟨t, rfl⟩, by rw [← el]; exact kD.here bk rfl hS⟩
    | _ => exact bk.elim
  | sum =>
    obtain ⟨d, e, k⟩ := Out.of_of bk
    obtain ⟨ns, e1, e2⟩ := Option.map_eq_some_iff.mp e
    subst e2
    obtain ⟨a, rfl, hq⟩ := ints_of hκ w e1
    exact CallR.use (cr_sum hc) I rx ⟨a, ns, rfl, hq, kD.here k rfl hS⟩
  | min =>
    obtain ⟨d, e, k⟩ := Out.of_of bk
    obtain ⟨ns, e1, e2⟩ := Option.bind_eq_some_iff.mp e
    obtain ⟨a, rfl, hq⟩ := ints_of hκ w e1
    cases ns with
    | nil => cases e2
    | cons n r =>
      cases e2
      refine CallR.use (cr_min hc) I rx ⟨a, n :: r, rfl, hq, by simp, fun m hm hl => ?_⟩
      have sp := minI_spec r n
      have e : m = minI n r := by
        have h1 : m ≤ minI n r := hl _ (by rcases sp.1 with z | z <;> rw [List.mem_cons] <;> simp [z])
        have h2 : minI n r ≤ m := by
          rcases List.mem_cons.mp hm with z | z
          · rw [z]; exact sp.2.1
          · exact sp.2.2 m z
        omega
      rw [e]
      exact kD.here k rfl hS
  | max =>
    obtain ⟨d, e, k⟩ := Out.of_of bk
    obtain ⟨ns, e1, e2⟩ := Option.bind_eq_some_iff.mp e
    obtain ⟨a, rfl, hq⟩ := ints_of hκ w e1
    cases ns with
    | nil => cases e2
    | cons n r =>
      cases e2
      refine CallR.use (cr_max hc) I rx ⟨a, n :: r, rfl, hq, by simp, fun m hm hl => ?_⟩
      have sp := maxI_spec r n
      have e : m = maxI n r := by
        have h1 : maxI n r ≤ m := hl _ (by rcases sp.1 with z | z <;> rw [List.mem_cons] <;> simp [z])
        have h2 : m ≤ maxI n r := by
          rcases List.mem_cons.mp hm with z | z
          · rw [z]; exact sp.2.1
          · exact sp.2.2 m z
        omega
      rw [e]
      exact kD.here k rfl hS
  | any =>
    obtain ⟨d, e, k⟩ := Out.of_of bk
    obtain ⟨ns, e1, e2⟩ := Option.map_eq_some_iff.mp e
    subst e2
    obtain ⟨a, rfl, hq⟩ := bools_of hκ w e1
    exact CallR.use (cr_any hc) I rx ⟨a, ns, rfl, hq, kD.here k rfl hS⟩
  | all =>
    obtain ⟨d, e, k⟩ := Out.of_of bk
    obtain ⟨ns, e1, e2⟩ := Option.map_eq_some_iff.mp e
    subst e2
    obtain ⟨a, rfl, hq⟩ := bools_of hκ w e1
    exact CallR.use (cr_all hc) I rx ⟨a, ns, rfl, hq, kD.here k rfl hS⟩
  | tup =>
    obtain ⟨d, e, k⟩ := Out.of_of bk
    obtain ⟨xs, e1, e2⟩ := Option.map_eq_some_iff.mp e
    subst e2
    obtain ⟨a, vs, rfl, hH, hd⟩ := items_of hκ w e1
    rcases hH with hH | hH
    · exact CallR.use call_tuple_of I rx ⟨a, vs, rfl, .inl ⟨hH, kD.tup k hS hd⟩⟩
    · exact CallR.use call_tuple_of I rx ⟨a, vs, rfl, .inr ⟨hH, kD.here k ⟨a, vs, rfl, by rw [hκ]; exact hH, hd⟩ hS⟩⟩
  | int =>
    cases x with
    | int i =>
      cases w
      exact CallR.use call_int1 I rx (.inl ⟨i, rfl, kD.here bk rfl hS⟩)
    | bl i =>
      cases w
      exact CallR.use call_int1 I rx (.inr ⟨i, rfl, kD.here bk rfl hS⟩)
    | _ => exact bk.elim
  | str =>
    cases x with
    | int i =>
      cases w
      obtain ⟨z, bk⟩ := Out.of_chk bk
      obtain ⟨z1, z2⟩ := ba2 z
      exact CallR.use call_str_int I rx ⟨i, rfl, Nat.lt_of_lt_of_le (PySem.Flt.log2_lt_of (by decide) (of_decide_eq_true z1)) (by decide), by rw [digs_eq]; exact kD.here bk ⟨rfl, z2⟩ hS⟩
    | _ => exact bk.elim
  | abs =>
    cases x with
    | int i =>
      cases w
      exact CallR.use call_abs I rx ⟨i, rfl, kD.here bk rfl hS⟩
    | _ => exact bk.elim
  | divmod => exact bk.elim
theorem cr_blt2 {ke : D → Sto → Prop} (hc : X.calm = true) (b : Blt) {x y : D} {w : V} (I : Inv X pins σ H s) (rx : Vals [v, w] us) (hS : RepS κ as H S) (wx : IsV κ as H x v) (wy : IsV κ as H y w) (bk : Out (blt2 b x y S) (kD κ as H Q) ke) :
    wpAny (model X.prog X.w) X.A (PySem.call (bltV b) us) (EP X pins σ Q) X.xe s := by
  cases x with
  | int i => cases y with
    | int j =>
      cases wx
      cases wy
      cases b with
      | min => exact CallR.use (call_min2 hc) I rx ⟨i, j, rfl, kD.here bk rfl hS⟩
      | max => exact CallR.use (call_max2 hc) I rx ⟨i, j, rfl, kD.here bk rfl hS⟩
      | divmod =>
        obtain ⟨z, bk⟩ := Out.of_chk bk
        obtain ⟨z1, z2⟩ := ba2 z
        exact CallR.use call_divmod I rx ⟨i, j, rfl, ⟨of_decide_eq_true z1, of_decide_eq_true z2⟩, kD.tup bk hS ⟨rfl, rfl, True.intro⟩⟩
      | _ => exact bk.elim
    | _ => cases b <;> exact bk.elim
  | _ => cases b <;> exact bk.elim
end
theorem cr_blt (hκ : κ.K = X.K) (hc : X.calm = true) (b : Blt) : CallR X (bltV b) (rBlt κ b) := by
  intro pins s σ H xs us Q I rx q
  obtain ⟨as, S, ds, ke, hS, w, nb, bk⟩ := q
  match ds, w, bk with
  | [], _, bk => exact bk.elim
  | [x], w, bk =>
    obtain ⟨v, rfl, hv⟩ := w.one
    exact cr_blt1 hκ hc b I rx hS hv nb bk
  | [x, y], w, bk =>
    obtain ⟨v, z, rfl, hv, hz⟩ := w.two
    exact cr_blt2 hc b I rx hS hv hz bk
  | _ :: _ :: _ :: _, _, bk => exact bk.elim
end
end Ev
set_option maxHeartbeats 2000000
/-! Ev, part 8: an expression does what its reading says. -/
namespace Ev
open PySem PySem.Spec PyProof.Rows L2

/-- where one stands: the names by slot, the block's names, the functions by number, the module's constants -/
structure SC where
  N : List Str
  nm : List (Str × NameKind)
  cl : List Str
  fns : List (Nat × Str)
  cs : List (String × D)
/-- what is wanted of a call's value -/
def kR (κ : Kx) (as : List Addr) (H : Hp) (Q : VK) : W → Sto → Prop := fun w S => match w with
  | .d d => kD κ as H Q d S
  | .own c => kN κ as H Q c S
/-- what a function promises, in the layer's words -/
def spOf (κ : Kx) (φ : List D → Sto → R W) : Sp := fun vs H Q EX => ∃ as ds S, IsDs κ as H ds vs ∧ RepS κ as H S ∧ Out (φ ds S) (kR κ as H Q)
  (fun x S' => ∀ as' H' cls dd, Step as H as' H' → IsX κ as' H' x cls dd → RepS κ as' H' S' → EX cls dd H')
structure FnAt (X : Cx) (κ : Kx) (φ : List D → Sto → R W) (x : Str) : Prop where
  ex : ∃ (a : Addr) (fd : FuncData) (ps : List Str) (k : Nat), X.mg x = some (.ref a) ∧ PySem.W.keepIn X.K (.ref a) = true ∧ Binds X.K fd ps [] ∧ FnOk X.prog X.w X.K X.mg X.base (L2.CX X.prog X.w) k a fd ps (spOf κ φ) ∧ Room k X.A

def visB (sc : SC) (x : Str) : Bool := match sc.nm.lookup x with
  | some .local => true
  | some .cell => true
  | some .free => true
  | _ => false
def locB (sc : SC) (x : Str) : Bool := match sc.nm.lookup x with
  | some .local => true
  | some .cell => sc.cl.contains x
  | _ => false
def glB (sc : SC) (x : Str) : Bool := match sc.nm.lookup x with
  | some .globalImplicit => true
  | _ => false
def odd (x : Str) : Bool := x == ("__debug__" : Str) || x == ("__classdict__" : Str) || x == ("__name__" : Str)
def nostar : Expr → Bool
  | .Starred _ _ => false
  | _ => true
def plainIx : Expr → Bool
  | .Slice _ _ _ _ => false
  | _ => true
def bltNames : List String := ["len", "sum", "min", "max", "any", "all", "tuple", "int", "str", "divmod", "abs", "list", "range", "sorted", "zip", "enumerate", "isinstance", "bool", "dict", "set", "repr"]
/-- where one stands is as the text says -/
structure CxOk (X : Cx) (sc : SC) (κ : Kx) (Φ : Fn) : Prop where
  hκ : κ.K = X.K
  hw : κ.w = X.w
  N : X.N = sc.N
  nd : X.N.Nodup
  nm : X.env.scope.names = sc.nm
  kind : X.env.scope.kind = .function
  calm : X.calm = true
  un : X.A.units + 64 < cLine
  fn : ∀ x, locB sc x = true → X.fn x = true ∨ X.env.scope.names.lookup x = some .local
  blt : ∀ x ∈ bltNames, X.mg (Str.ofString x) = none
  fns : ∀ f x, sc.fns.lookup f = some x → FnAt X κ (Φ f) x
  cs : ∀ x d, (x, d) ∈ sc.cs → ∃ u v, X.mg (Str.ofString x) = some u ∧ RelV v u ∧ ∀ (as : List Addr) (H : Hp), IsD κ as H d v

section
variable {X : Cx} {sc : SC} {κ : Kx} {Φ : Fn} {Wx : L2.WX}
theorem CxOk.vis (ok : CxOk X sc κ Φ) {x : Str} (h : visB sc x = true) : Vis X.env.scope x := by
  unfold visB at h
  unfold Vis
  rw [ok.nm]
  split at h
  · rename_i e; exact .inl e
  · rename_i e; exact .inr (.inl e)
  · rename_i e; exact .inr (.inr e)
  · cases h
theorem CxOk.loc (ok : CxOk X sc κ Φ) {x : Str} (h : locB sc x = true) : L2.Loc X.env.scope x := by
  unfold locB at h
  unfold L2.Loc
  rw [ok.nm]
  split at h
  · rename_i e; exact .inl e
  · rename_i e; exact .inr e
  · cases h
theorem CxOk.gl (ok : CxOk X sc κ Φ) {x : Str} (h : glB sc x = true) : Gl X x := by
  unfold glB at h
  show X.env.scope.names.lookup x = _
  rw [ok.nm]
  split at h
  · rename_i e; exact e
  · cases h
theorem odd_db {x : Str} (h : odd x = false) : (x == ("__debug__" : Str)) = false := by
  unfold odd at h
  simp only [Bool.or_eq_false_iff] at h
  exact h.1.1
theorem odd_cd {x : Str} (h : odd x = false) : (x == ("__classdict__" : Str)) = false := by
  unfold odd at h
  simp only [Bool.or_eq_false_iff] at h
  exact h.1.2
theorem star_cons {e : Expr} {es : List Expr} {env : PySem.Env} (h : nostar e = true) : starEach (e :: es) env = (false, eval e env) :: starEach es env := by
  cases e <;> first | rfl | cases h
theorem star_back {pos : Pos} {env : PySem.Env} : ∀ {es : List Expr}, (∀ e ∈ es, nostar e = true) → (backTo pos (starEach es env)).any (·.1) = false
  | [], _ => rfl
  | e :: es, h => by
    have ih := star_back (pos := pos) (env := env) (es := es) fun e' h' => h e' (List.mem_cons_of_mem _ h')
    rw [star_cons (h e List.mem_cons_self)]
    unfold backTo at ih ⊢
    rw [List.map_cons, List.any_cons, ih]
    rfl
theorem plainIx_ok {b : Expr} (h : plainIx b = true) : PlainIx b := fun o i => by
  cases b <;> first | rfl | cases h

/-! ### one construct at a time -/
variable {a b c : Expr} {ma mb mc : MW} {pos : Pos}
theorem pd_var (ok : CxOk X sc κ Φ) {i : Nat} {x : Str} (h1 : sc.N[i]? = some x) (h2 : visB sc x = true) (h3 : odd x = false) : PE X (.Name x pos) (rdW κ Wx fun ρ S => R.of S (ρ.get i)) := by
  refine PE.imp (pe_var (i := i) (by rw [ok.N]; exact h1) (ok.vis h2) (odd_db h3) (odd_cd h3)) fun σ H Q ⟨as, H0, ρ, S, rs, hS, w⟩ => ?_
  obtain ⟨w', e, k⟩ := Out.of_of w
  obtain ⟨v, e2, r⟩ := rs.get e
  exact ⟨v, e2, k.here r hS⟩
theorem pd_const {e : Expr} {d : D} {v : V} (h : PE X e (tC v)) (hd : ∀ (as : List Addr) (H : Hp), IsD κ as H d v) : PE X e (rdW κ Wx fun _ S => .ok (.d d) S) :=
  PE.imp h fun σ H Q ⟨as, H0, ρ, S, rs, hS, w⟩ => kW.here (w := .d d) w (hd as H) hS
/-- a comparison leaves the store -/
theorem cmpD_S {o : Cop} {x y : D} {S : Sto} {k : Bool → Sto → Prop} {ke : D → Sto → Prop} (h : Out (cmpD o x y S) k ke) : Out (cmpD o x y S) (fun r S' => S' = S ∧ k r S') ke := by
  have go : ∀ r : R Bool, (∀ b S', r = .ok b S' → S' = S) → Out r k ke → Out r (fun r S' => S' = S ∧ k r S') ke := fun r e h => by
    cases r with
    | ok b S' => exact ⟨e b S' rfl, h⟩
    | exc e S' => exact h
    | bad => exact h
  refine go _ ?_ h
  intro b S' e
  unfold cmpD R.chk at e
  (repeat' split at e) <;> first | (injection e with _ e2; exact e2.symm) | cases e
theorem pd_bin (ok : CxOk X sc κ Φ) {o : Bop} (ha : PE X a (rdW κ Wx ma)) (hb : PE X b (rdW κ Wx mb)) :
    PE X (.BinOp a (bopE o) b pos) (rdW κ Wx fun ρ S => (ma ρ S).bind fun x S1 => (mb ρ S1).bind fun y S2 => (binD o (x.vw S2) (y.vw S2) S2).w) := by
  refine PE.imp (pe_op (op_bin ok.hκ o) ha hb) fun σ H Q ⟨as, H0, ρ, S, rs, hS, w⟩ => ?_
  refine rdW.mk rs hS w.of_bind fun x S1 as1 H1 v w1 st1 r1 hS1 => ?_
  refine rdW.mk (rs.step st1) hS1 (w1.onW st1).of_bind fun y S2 as2 H2 v2 w2 st2 r2 hS2 => ?_
  exact ⟨as2, S2, _, _, _, hS2, (r1.step st2).vw hS2, r2.vw hS2, (w2.onW st2).of_w⟩
def cmpW (ma mb : MW) (o : Cop) (ρ : Env) (S : Sto) : R Bool := (ma ρ S).bind fun x S1 => (mb ρ S1).bind fun y S2 => cmpD o (x.vw S2) (y.vw S2) S2
theorem pd_cmp (ok : CxOk X sc κ Φ) {o : Cop} (ha : PE X a (rdW κ Wx ma)) (hb : PE X b (rdW κ Wx mb)) (hm : behindInMarks (copE o) b = false) :
    PE X (.Compare a [copE o] [b] pos) (rdW κ Wx fun ρ S => (ma ρ S).bind fun x S1 => (mb ρ S1).bind fun y S2 => (cmpD o (x.vw S2) (y.vw S2) S2).bind fun r S3 => .ok (.d (.bl r)) S3) := by
  refine PE.imp (pe_cmpR (op_cmp ok.hκ ok.hw ok.un o) ha hb hm) fun σ H Q ⟨as, H0, ρ, S, rs, hS, w⟩ => ?_
  refine rdW.mk rs hS w.of_bind fun x S1 as1 H1 v w1 st1 r1 hS1 => ?_
  refine rdW.mk (rs.step st1) hS1 (w1.onW st1).of_bind fun y S2 as2 H2 v2 w2 st2 r2 hS2 => ?_
  have e := cmpD_S (w2.onW st2).of_bind
  exact ⟨as2, S2, _, _, _, (r1.step st2).vw hS2, r2.vw hS2, e.imp (fun r S3 z => by obtain ⟨rfl, z⟩ := z; exact kW.here (w := .d (.bl r)) z rfl hS2) fun _ _ z => z⟩
end
end Ev
set_option maxHeartbeats 2000000
/-! Ev, part 9: tests, calls, displays. -/
namespace Ev
open PySem PySem.Spec PyProof.Rows L2
section
variable {α β : Type} {r : R α} {k k' : α → Sto → Prop} {ke ke' : D → Sto → Prop}
theorem Out.to_bind {f : α → Sto → R β} {k : β → Sto → Prop} (h : Out r (fun a S => Out (f a S) k ke) ke) : Out (r.bind f) k ke := by
  cases r <;> exact h
end
theorem Out.to_t {r : R W} {k : Bool → Sto → Prop} {ke : D → Sto → Prop} (h : Out r (fun w S => Out (truD S (w.vw S)) k ke) ke) : Out r.t k ke := by
  cases r <;> exact h
theorem truD_S {d : D} {S : Sto} {k : Bool → Sto → Prop} {ke : D → Sto → Prop} (h : Out (truD S d) k ke) : ∃ b, truD S d = .ok b S ∧ k b S := by
  cases d <;> first | exact ⟨_, rfl, h⟩ | exact h.elim
section
variable {X : Cx} {sc : SC} {κ : Kx} {Φ : Fn} {Wx : L2.WX} {a b c : Expr} {ma mb mc : MW} {pos : Pos}
theorem pt_cmp (ok : CxOk X sc κ Φ) {o : Cop} (ha : PE X a (rdW κ Wx ma)) (hb : PE X b (rdW κ Wx mb)) (hm : behindInMarks (copE o) b = false) :
    PT X (.Compare a [copE o] [b] pos) (rdT κ Wx fun ρ S => ((ma ρ S).bind fun x S1 => (mb ρ S1).bind fun y S2 => (cmpD o (x.vw S2) (y.vw S2) S2).bind fun r S3 => .ok (.d (.bl r)) S3).t) := by
  refine PT.imp (pt_cmpR (op_cmp ok.hκ ok.hw ok.un o) ha hb hm) fun σ H Q ⟨as, H0, ρ, S, rs, hS, w⟩ => ?_
  refine rdW.mk rs hS w.of_t.of_bind fun x S1 as1 H1 v w1 st1 r1 hS1 => ?_
  refine rdW.mk (rs.step st1) hS1 (w1.imp (fun _ _ z => z) fun _ _ z => kX.on st1 z).of_bind fun y S2 as2 H2 v2 w2 st2 r2 hS2 => ?_
  have e := cmpD_S w2.of_bind
  exact ⟨as2, S2, _, _, _, (r1.step st2).vw hS2, r2.vw hS2, e.imp (fun r S3 z => by obtain ⟨rfl, z⟩ := z; exact ⟨r, rfl, z as2 H2 (st1.trans st2) hS2⟩) fun _ _ z => z⟩
theorem pd_chn (ok : CxOk X sc κ Φ) {o o' : Cop} (ha : PE X a (rdW κ Wx ma)) (hb : PE X b (rdW κ Wx mb)) (hc : PE X c (rdW κ Wx mc)) (hm : lastMarks [copE o, copE o'] [b, c] = false) :
    PE X (.Compare a [copE o, copE o'] [b, c] pos) (rdW κ Wx fun ρ S => (ma ρ S).bind fun x S1 => (mb ρ S1).bind fun y S2 => (cmpD o (x.vw S2) (y.vw S2) S2).bind fun r S3 =>
      if r = true then (mc ρ S3).bind fun z S4 => (cmpD o' (y.vw S4) (z.vw S4) S4).bind fun r S5 => .ok (.d (.bl r)) S5 else .ok (.d (.bl false)) S3) := by
  refine PE.imp (pe_chain (op_cmp ok.hκ ok.hw ok.un o) (op_cmp ok.hκ ok.hw ok.un o') ha hb hc hm) fun σ H Q ⟨as, H0, ρ, S, rs, hS, w⟩ => ?_
  refine rdW.mk rs hS w.of_bind fun x S1 as1 H1 v w1 st1 r1 hS1 => ?_
  refine rdW.mk (rs.step st1) hS1 (w1.onW st1).of_bind fun y S2 as2 H2 v2 w2 st2 r2 hS2 => ?_
  have e := cmpD_S (w2.onW st2).of_bind
  refine ⟨as2, S2, _, _, _, (r1.step st2).vw hS2, r2.vw hS2, e.imp (fun r S3 z => ?_) fun _ _ z => z⟩
  obtain ⟨rfl, z⟩ := z
  refine ⟨r, rfl, ?_⟩
  cases r with
  | true =>
    rw [if_pos rfl] at z ⊢
    refine rdW.mk ((rs.step st1).step st2) hS2 z.of_bind fun y3 S4 as4 H4 v4 w4 st4 r4 hS4 => ?_
    have e2 := cmpD_S (w4.onW st4).of_bind
    exact ⟨as4, S4, _, _, _, (r2.step st4).vw hS4, r4.vw hS4, e2.imp (fun r S5 z => by obtain ⟨rfl, z⟩ := z; exact kW.here (w := .d (.bl r)) z rfl hS4) fun _ _ z => z⟩
  | false =>
    rw [if_neg Bool.false_ne_true] at z ⊢
    exact kW.here (w := .d (.bl false)) z rfl hS2
theorem pt_chn (ok : CxOk X sc κ Φ) {o o' : Cop} (ha : PE X a (rdW κ Wx ma)) (hb : PE X b (rdW κ Wx mb)) (hc : PE X c (rdW κ Wx mc)) (hm : lastMarks [copE o, copE o'] [b, c] = false) :
    PT X (.Compare a [copE o, copE o'] [b, c] pos) (rdT κ Wx fun ρ S => ((ma ρ S).bind fun x S1 => (mb ρ S1).bind fun y S2 => (cmpD o (x.vw S2) (y.vw S2) S2).bind fun r S3 =>
      if r = true then (mc ρ S3).bind fun z S4 => (cmpD o' (y.vw S4) (z.vw S4) S4).bind fun r S5 => .ok (.d (.bl r)) S5 else .ok (.d (.bl false)) S3).t) := by
  refine PT.imp (pt_chain (op_cmp ok.hκ ok.hw ok.un o) (op_cmp ok.hκ ok.hw ok.un o') ha hb hc hm) fun σ H Q ⟨as, H0, ρ, S, rs, hS, w⟩ => ?_
  refine rdW.mk rs hS w.of_t.of_bind fun x S1 as1 H1 v w1 st1 r1 hS1 => ?_
  refine rdW.mk (rs.step st1) hS1 (w1.imp (fun _ _ z => z) fun _ _ z => kX.on st1 z).of_bind fun y S2 as2 H2 v2 w2 st2 r2 hS2 => ?_
  have e := cmpD_S w2.of_bind
  refine ⟨as2, S2, _, _, _, (r1.step st2).vw hS2, r2.vw hS2, e.imp (fun r S3 z => ?_) fun _ _ z => z⟩
  obtain ⟨rfl, z⟩ := z
  refine ⟨r, rfl, ?_⟩
  cases r with
  | true =>
    rw [if_pos rfl] at z ⊢
    refine rdW.mk ((rs.step st1).step st2) hS2 (z.imp (fun _ _ z => z) fun _ _ z => kX.on st2 z).of_bind fun y3 S4 as4 H4 v4 w4 st4 r4 hS4 => ?_
    have e2 := cmpD_S w4.of_bind
    exact ⟨as4, S4, _, _, _, (r2.step st4).vw hS4, r4.vw hS4, e2.imp (fun r S5 z => by obtain ⟨rfl, z⟩ := z; exact ⟨r, rfl, z as4 H4 (st1.trans (st2.trans st4)) hS4⟩) fun _ _ z => z⟩
  | false =>
    rw [if_neg Bool.false_ne_true] at z ⊢
    exact ⟨false, rfl, z as2 H2 (st1.trans st2) hS2⟩
theorem pd_neg (ha : PE X a (rdW κ Wx ma)) : PE X (.UnaryOp .USub a pos) (rdW κ Wx fun ρ S => (ma ρ S).d.bind fun x S1 => match x with
    | .int i => .ok (.d (.int (-i))) S1
    | _ => .bad) := by
  refine PE.imp (pe_un un_neg ha) fun σ H Q ⟨as, H0, ρ, S, rs, hS, w⟩ => ?_
  refine rdW.mk rs hS w.of_bind.of_d fun x S1 as1 H1 v w1 st1 r1 hS1 => ?_
  obtain ⟨d, rfl, w1⟩ := w1
  cases d with
  | int i => exact ⟨i, r1, kW.here (w := .d (.int (-i))) (kW.on st1 w1) rfl hS1⟩
  | _ => exact w1.elim
theorem idxD_S {x y : D} {S : Sto} {as : List Addr} {H : Hp} {Q : VK} {ke : D → Sto → Prop} (hS : RepS κ as H S) (h : Out (idxD x y S) (fun d S => kW κ as H Q (.d d) S) ke) : Out (idxD x y S) (fun d _ => ∀ v, IsD κ as H d v → Q v H) ke := by
  have go : ∀ r : R D, (∀ b S', r = .ok b S' → S' = S) → Out r (fun d S => kW κ as H Q (.d d) S) ke → Out r (fun d _ => ∀ v, IsD κ as H d v → Q v H) ke := fun r e h' => by
    cases r with
    | ok b S' =>
      have z := e b S' rfl
      rw [← z] at hS
      exact fun v hv => kW.here (w := .d b) (show kW κ as H Q (.d b) S' from h') hv hS
    | exc e S' => exact h'
    | bad => exact h'
  refine go _ ?_ h
  intro b S' e
  unfold idxD at e
  split at e <;> first | cases e | (unfold R.of at e; split at e <;> first | (injection e with _ e2; exact e2.symm) | cases e)
theorem pd_idx (ok : CxOk X sc κ Φ) (h : plainIx b = true) (ha : PE X a (rdW κ Wx ma)) (hb : PE X b (rdW κ Wx mb)) :
    PE X (.Subscript a b pos) (rdW κ Wx fun ρ S => (ma ρ S).bind fun x S1 => (mb ρ S1).d.bind fun y S2 => (idxD (x.vw S2) y S2).w) := by
  refine PE.imp (pe_ix (ix_any ok.hκ ok.hw ok.un) ha hb (plainIx_ok h)) fun σ H Q ⟨as, H0, ρ, S, rs, hS, w⟩ => ?_
  refine rdW.mk rs hS w.of_bind fun x S1 as1 H1 v w1 st1 r1 hS1 => ?_
  refine rdW.mk (rs.step st1) hS1 (w1.onW st1).of_bind.of_d fun y S2 as2 H2 v2 w2 st2 r2 hS2 => ?_
  obtain ⟨d, rfl, w2⟩ := w2
  have w3 := (w2.onW st2).of_w
  refine ⟨as2, S2, _, _, _, (r1.step st2).vw hS2, r2, idxD_S hS2 w3⟩
theorem es_nil : PA X [] (rdDs κ Wx fun _ S => .ok [] S) :=
  PA.imp pa_nil fun σ H Q ⟨as, H0, ρ, S, rs, hS, w⟩ => w as H [] Step.refl True.intro hS
theorem es_cons {es : List Expr} {ms : Env → Sto → R (List D)} (hs : nostar a = true) (ha : PE X a (rdW κ Wx ma)) (hr : PA X es (rdDs κ Wx ms)) :
    PA X (a :: es) (rdDs κ Wx fun ρ S => (ma ρ S).d.bind fun d S1 => (ms ρ S1).bind fun ds S2 => .ok (d :: ds) S2) := by
  refine PA.imp (pa_cons ha hr (star_cons hs)) fun σ H Q ⟨as, H0, ρ, S, rs, hS, w⟩ => ?_
  refine rdW.mk rs hS w.of_bind.of_d fun x S1 as1 H1 v w1 st1 r1 hS1 => ?_
  obtain ⟨d, rfl, w1⟩ := w1
  refine rdDs.mk (rs.step st1) hS1 (w1.onDs st1).of_bind fun ds S2 as2 H2 vs w2 st2 r2 hS2 => ?_
  exact w2 as2 H2 (v :: vs) st2 ⟨r1.step st2, r2⟩ hS2
theorem ws_nil : PA X [] (rdWs κ Wx fun _ S => .ok [] S) :=
  PA.imp pa_nil fun σ H Q ⟨as, H0, ρ, S, rs, hS, w⟩ => w as H [] Step.refl True.intro hS
theorem ws_cons {es : List Expr} {ms : Env → Sto → R (List W)} (hs : nostar a = true) (ha : PE X a (rdW κ Wx ma)) (hr : PA X es (rdWs κ Wx ms)) :
    PA X (a :: es) (rdWs κ Wx fun ρ S => (ma ρ S).bind fun d S1 => (ms ρ S1).bind fun ds S2 => .ok (d :: ds) S2) := by
  refine PA.imp (pa_cons ha hr (star_cons hs)) fun σ H Q ⟨as, H0, ρ, S, rs, hS, w⟩ => ?_
  refine rdW.mk rs hS w.of_bind fun x S1 as1 H1 v w1 st1 r1 hS1 => ?_
  refine rdWs.mk (rs.step st1) hS1 (w1.onWs st1).of_bind fun ds S2 as2 H2 vs w2 st2 r2 hS2 => ?_
  exact w2 as2 H2 (v :: vs) st2 ⟨r1.step st2, r2⟩ hS2
theorem pd_tup {es : List Expr} {x1 : Nat} {ms : Env → Sto → R (List D)} (h : PA X es (rdDs κ Wx ms)) (hl : ∀ ρ S ds S', ms ρ S = .ok ds S' → ds.length ≤ 1000) :
    PE X (.Tuple es x1 pos) (rdW κ Wx fun ρ S => (ms ρ S).bind fun ds S1 => .ok (.d (.tup ds)) S1) := by
  refine PE.imp (pe_tup h) fun σ H Q ⟨as, H0, ρ, S, rs, hS, w⟩ => ?_
  have w0 : Out (ms ρ S) (fun ds S' => ds.length ≤ 1000 ∧ kW κ as H Q (.d (.tup ds)) S') (kX κ as H σ Wx) := by
    have w1 := w.of_bind
    cases q : ms ρ S with
    | ok ds S' => rw [q] at w1; exact ⟨hl ρ S ds S' q, w1⟩
    | exc e S' => rw [q] at w1; exact w1
    | bad => rw [q] at w1; exact w1
  refine rdDs.mk rs hS w0 fun ds S1 as1 H1 vs ⟨hn, w1⟩ st1 r1 hS1 => ?_
  exact ⟨by rw [← r1.length, sizeLine_eq]; omega, kD.tup (kW.d (kW.on st1 w1)) hS1 r1⟩
theorem pn_lst {es : List Expr} {ms : Env → Sto → R (List D)} (h : PA X es (rdDs κ Wx ms)) (hl : ∀ ρ S ds S', ms ρ S = .ok ds S' → ds.length ≤ 1000) :
    PE X (.List es pos) (rdN κ Wx fun ρ S => (ms ρ S).bind fun ds S1 => .ok (.lst ds) S1) := by
  refine PE.imp (pe_lst h) fun σ H Q ⟨as, H0, ρ, S, rs, hS, w⟩ => ?_
  have w0 : Out (ms ρ S) (fun ds S' => ds.length ≤ 1000 ∧ kN κ as H Q (.lst ds) S') (kX κ as H σ Wx) := by
    have w1 := w.of_bind
    cases q : ms ρ S with
    | ok ds S' => rw [q] at w1; exact ⟨hl ρ S ds S' q, w1⟩
    | exc e S' => rw [q] at w1; exact w1
    | bad => rw [q] at w1; exact w1
  refine rdDs.mk rs hS w0 fun ds S1 as1 H1 vs ⟨hn, w1⟩ st1 r1 hS1 => ?_
  exact ⟨by rw [← r1.length, sizeLine_eq]; omega, kN.lst (kN.on st1 w1) hS1 r1⟩
theorem pn_cat (ha : PE X a (rdW κ Wx ma)) (hb : PE X b (rdW κ Wx mb)) : PE X (.BinOp a .Add b pos) (rdN κ Wx fun ρ S => (ma ρ S).bind fun x S1 => (mb ρ S1).bind fun y S2 => match x.vw S2, y.vw S2 with
    | .lst xs, .lst ys => R.chk (szOk (xs.length + ys.length)) (.ok (.lst (xs ++ ys)) S2)
    | _, _ => .bad) := by
  refine PE.imp (pe_op (op_catN (κ := κ)) ha hb) fun σ H Q ⟨as, H0, ρ, S, rs, hS, w⟩ => ?_
  refine rdW.mk rs hS w.of_bind fun x S1 as1 H1 v w1 st1 r1 hS1 => ?_
  refine rdW.mk (rs.step st1) hS1 (w1.onN st1).of_bind fun y S2 as2 H2 v2 w2 st2 r2 hS2 => ?_
  have w3 := w2.onN st2
  have e1 := (r1.step st2).vw hS2
  have e2 := r2.vw hS2
  cases q1 : x.vw S2 with
  | lst xs =>
    cases q2 : y.vw S2 with
    | lst ys =>
      rw [q1] at e1
      rw [q2] at e2
      simp only [q1, q2] at w3
      obtain ⟨z, w3⟩ := w3.of_chk
      exact ⟨as2, S2, xs, ys, hS2, e1, e2, z, w3⟩
    | _ => simp only [q1, q2] at w3; exact w3.elim
  | _ => simp only [q1] at w3; exact w3.elim
theorem pn_rep (ha : PE X a (rdW κ Wx ma)) (hb : PE X b (rdW κ Wx mb)) : PE X (.BinOp a .Mult b pos) (rdN κ Wx fun ρ S => (ma ρ S).bind fun x S1 => (mb ρ S1).d.bind fun y S2 => match x.vw S2, y with
    | .lst xs, .int j => R.chk (repOk xs.length j) (.ok (.lst (List.replicate j.toNat xs).flatten) S2)
    | _, _ => .bad) := by
  refine PE.imp (pe_op (op_repN (κ := κ)) ha hb) fun σ H Q ⟨as, H0, ρ, S, rs, hS, w⟩ => ?_
  refine rdW.mk rs hS w.of_bind fun x S1 as1 H1 v w1 st1 r1 hS1 => ?_
  refine rdW.mk (rs.step st1) hS1 (w1.onN st1).of_bind.of_d fun y S2 as2 H2 v2 w2 st2 r2 hS2 => ?_
  obtain ⟨d, rfl, w2⟩ := w2
  have w3 := w2.onN st2
  have e1 := (r1.step st2).vw hS2
  cases q1 : x.vw S2 with
  | lst xs =>
    cases d with
    | int j =>
      rw [q1] at e1
      simp only [q1] at w3
      obtain ⟨z, w3⟩ := w3.of_chk
      exact ⟨as2, S2, xs, j, hS2, e1, r2, z, w3⟩
    | _ => simp only [q1] at w3; exact w3.elim
  | _ => simp only [q1] at w3; exact w3.elim
theorem kR.on {as as1 : List Addr} {H H1 : Hp} {Q : VK} (st : Step as H as1 H1) {w : W} {S : Sto} (z : kR κ as H Q w S) : kR κ as1 H1 Q w S := by
  cases w with
  | d x => exact kD.on st z
  | own c => exact kN.on st z
/-- a call's reading: a value, or a new thing -/
def rdC (κ : Kx) (Wx : L2.WX) (m : Env → Sto → R W) : TE := fun σ H Q => ∃ as H0 ρ S, RelS κ as H0 H σ ρ ∧ RepS κ as H S ∧ Out (m ρ S) (kR κ as H Q) (kX κ as H σ Wx)
theorem pd_call (ok : CxOk X sc κ Φ) (tk : Takes X Wx) {f : Nat} {x : Str} {es : List Expr} {p : Pos} {ms : Env → Sto → R (List D)} (hf : sc.fns.lookup f = some x) (hg : glB sc x = true) (ho : odd x = false) (hs : ∀ e ∈ a :: es, nostar e = true) (hp : PA X (a :: es) (rdDs κ Wx ms)) :
    PE X (.Call (.Name x p) (a :: es) [] pos) (rdC κ Wx fun ρ S => (ms ρ S).bind fun ds S1 => Φ f ds S1) := by
  obtain ⟨fa, fd, ps, k, hm, hk, hb, F, hr⟩ := (ok.fns f x hf).ex
  refine PE.imp (pe_callS F hr (ok.gl hg) hm hk hb (fun σ => passAt tk σ) hp (odd_db ho) (star_cons (hs a List.mem_cons_self)) (star_back fun e he => hs e (List.mem_cons_of_mem _ he))) fun σ H Q ⟨as, H0, ρ, S, rs, hS, w⟩ => ?_
  exact rdDs.mk rs hS w.of_bind fun ds S1 as1 H1 vs w1 st1 r1 hS1 => ⟨as1, ds, S1, r1, hS1, w1.imp (fun _ _ z => kR.on st1 z) fun _ _ z => kX.on st1 z⟩
theorem pd_call0 (ok : CxOk X sc κ Φ) (tk : Takes X Wx) {f : Nat} {x : Str} {p : Pos} (hf : sc.fns.lookup f = some x) (hg : glB sc x = true) (ho : odd x = false) :
    PE X (.Call (.Name x p) [] [] pos) (rdC κ Wx fun _ S => Φ f [] S) := by
  obtain ⟨fa, fd, ps, k, hm, hk, hb, F, hr⟩ := (ok.fns f x hf).ex
  refine ⟨fun pins s σ H Q I ⟨as, H0, ρ, S, rs, hS, w⟩ => ?_⟩
  refine wpAny_Call_Name_kw (ld_glob I (ok.gl hg) hm ?_ (odd_db ho))
  exact PySem.W.callWith_K0 I.kIn hk (run_fnS (us := []) (E := WE Wx) F hr hb (passAt tk σ) I .nil ⟨as, [], S, True.intro, hS, w⟩)
theorem pd_ofC {e : Expr} {m : MW} (h : PE X e (rdC κ Wx m)) : PE X e (rdW κ Wx fun ρ S => (m ρ S).d.w) :=
  PE.imp h fun σ H Q ⟨as, H0, ρ, S, rs, hS, w⟩ => ⟨as, H0, ρ, S, rs, hS, w.of_w.of_d.imp (fun w S ⟨d, e, z⟩ => by subst e; exact z) fun _ _ z => z⟩
theorem pn_ofC {e : Expr} {m : MW} (h : PE X e (rdC κ Wx m)) : PE X e (rdN κ Wx fun ρ S => (m ρ S).bind wC) :=
  PE.imp h fun σ H Q ⟨as, H0, ρ, S, rs, hS, w⟩ => ⟨as, H0, ρ, S, rs, hS, w.of_bind.imp (fun w S z => by
    cases w with
    | d x => exact z.elim
    | own c => exact z) fun _ _ z => z⟩
/-! truth -/
theorem tru_of (ok : CxOk X sc κ Φ) {as : List Addr} {H : Hp} {S : Sto} {d : D} {v : V} {b : Bool} (w : IsV κ as H d v) (h : truD S d = .ok b S) : TruV X.K v H b := by
  cases d with
  | non => cases w; injection h with h _; subst h; exact rfl
  | bl x => cases w; injection h with h _; subst h; exact rfl
  | int x => cases w; injection h with h _; subst h; exact rfl
  | str x =>
    cases w.1
    injection h with h _
    subst h
    refine ⟨by rw [tx_len]; exact szOk_of w.2, ?_⟩
    rw [tx_len]
    cases x with
    | nil => rfl
    | cons c r =>
      have : (((c :: r).length : Nat) : Int) ≠ 0 := by simp only [List.length_cons]; omega
      simp [this]
      omega
  | tup xs =>
    obtain ⟨a, vs, rfl, hH, hd⟩ := w
    rw [ok.hκ] at hH
    injection h with h _
    subst h
    refine .inr (.inl ⟨vs, hH, ?_⟩)
    have := hd.length
    cases xs <;> cases vs <;> simp_all
  | lst xs =>
    obtain ⟨a, vs, rfl, hH, hd⟩ := w
    injection h with h _
    subst h
    refine .inl ⟨vs, .inl hH, ?_⟩
    have := hd.length
    cases xs <;> cases vs <;> simp_all
  | _ => cases h
/-- a test by its value's truth -/
theorem pt_of (ok : CxOk X sc κ Φ) (he : PE X a (rdW κ Wx ma)) (ht : ∀ whole, isTrue a X.env whole = (do let v ← whole; standAt a.pos; holding [v] (truthy v))) : PT X a (rdT κ Wx fun ρ S => (ma ρ S).t) := by
  refine PT.imp (pt_truth he ht) fun σ H Q ⟨as, H0, ρ, S, rs, hS, w⟩ => ?_
  refine rdW.mk rs hS w.of_t fun x S1 as1 H1 v w1 st1 r1 hS1 => ?_
  obtain ⟨b, e, k⟩ := truD_S w1
  exact ⟨b, tru_of ok (r1.vw hS1) e, k as1 H1 st1 hS1⟩
theorem pt_not (ha : PT X a (rdT κ Wx fun ρ S => (ma ρ S).t)) : PT X (.UnaryOp .Not a pos) (rdT κ Wx fun ρ S => ((ma ρ S).t.bind fun b S1 => .ok (.d (.bl !b)) S1).t) := by
  refine PT.imp (L2.pt_not ha) fun σ H Q ⟨as, H0, ρ, S, rs, hS, w⟩ => ?_
  exact rdT.mk rs hS w.of_t.of_bind fun b S1 as1 H1 w1 st1 hS1 => w1 as1 H1 st1 hS1
theorem pd_not (ok : CxOk X sc κ Φ) (ha : PE X a (rdW κ Wx ma)) : PE X (.UnaryOp .Not a pos) (rdW κ Wx fun ρ S => (ma ρ S).t.bind fun b S1 => .ok (.d (.bl !b)) S1) := by
  refine PE.imp (pe_notT ha) fun σ H Q ⟨as, H0, ρ, S, rs, hS, w⟩ => ?_
  refine rdW.mk rs hS w.of_bind.of_t fun x S1 as1 H1 v w1 st1 r1 hS1 => ?_
  obtain ⟨b, e, k⟩ := truD_S w1
  exact ⟨b, tru_of ok (r1.vw hS1) e, kW.here (w := .d (.bl !b)) (kW.on st1 k) rfl hS1⟩
theorem pd_ife (hc : PT X c (rdT κ Wx fun ρ S => (mc ρ S).t)) (ha : PE X a (rdW κ Wx ma)) (hb : PE X b (rdW κ Wx mb)) : PE X (.IfExp c a b pos) (rdW κ Wx fun ρ S => (mc ρ S).t.bind fun r S1 => if r = true then (ma ρ S1).d.w else (mb ρ S1).d.w) := by
  refine PE.imp (pe_ifExp hc ha hb) fun σ H Q ⟨as, H0, ρ, S, rs, hS, w⟩ => ?_
  have low : ∀ {m : MW} {as1 : List Addr} {H1 : Hp} {S1 : Sto}, RelS κ as1 H0 H1 σ ρ → RepS κ as1 H1 S1 → Out (m ρ S1).d.w (kW κ as1 H1 Q) (kX κ as1 H1 σ Wx) → rdW κ Wx m σ H1 Q := fun rs hS w =>
    ⟨_, H0, ρ, _, rs, hS, w.of_w.of_d.imp (fun w S ⟨d, e, z⟩ => by subst e; exact z) fun _ _ z => z⟩
  refine rdT.mk rs hS w.of_bind fun r S1 as1 H1 w1 st1 hS1 => ?_
  cases r with
  | true => rw [if_pos rfl] at w1 ⊢; exact low (rs.step st1) hS1 (w1.onW st1)
  | false => rw [if_neg Bool.false_ne_true] at w1 ⊢; exact low (rs.step st1) hS1 (w1.onW st1)
/-! and, or -/
def bopO (isAnd : Bool) : BoolOp := if isAnd then .And else .Or
def tsB (isAnd : Bool) : List MW → Env → Sto → R Bool
  | [], _, _ => .bad
  | m :: ms, ρ, S => match ms with
    | [] => (m ρ S).t
    | _ :: _ => (m ρ S).t.bind fun b S1 => if b = isAnd then tsB isAnd ms ρ S1 else .ok b S1
def vsB (isAnd : Bool) : List MW → Env → Sto → R W
  | [], _, _ => .bad
  | m :: ms, ρ, S => match ms with
    | [] => (m ρ S).d.w
    | _ :: _ => (m ρ S).d.bind fun x S1 => (truD S1 (vw S1 x)).bind fun b S2 => if b = isAnd then vsB isAnd ms ρ S2 else .ok (.d x) S2
theorem ts_of_vs {isAnd : Bool} {k : Bool → Sto → Prop} {ke : D → Sto → Prop} : ∀ {ms : List MW} {ρ : Env} {S : Sto}, Out (vsB isAnd ms ρ S).t k ke → Out (tsB isAnd ms ρ S) k ke
  | [], ρ, S, h => h
  | [m], ρ, S, h => by
    have h2 := h.of_t.of_w.of_d
    exact Out.to_t (h2.imp (fun w S ⟨d, e, z⟩ => by subst e; exact z) fun _ _ z => z)
  | m :: m2 :: ms, ρ, S, h => by
    have h2 := h.of_t.of_bind.of_d
    refine Out.to_bind (Out.to_t (h2.imp (fun w S1 ⟨d, e, z⟩ => ?_) fun _ _ z => z))
    subst e
    obtain ⟨b, e2, k2⟩ := truD_S z.of_bind
    show Out (truD S1 (vw S1 d)) _ ke
    rw [e2]
    show Out (if b = isAnd then tsB isAnd (m2 :: ms) ρ S1 else .ok b S1) k ke
    by_cases q : b = isAnd
    · rw [if_pos q] at k2 ⊢
      refine ts_of_vs (ms := m2 :: ms) ?_
      cases r : vsB isAnd (m2 :: ms) ρ S1 with
      | ok w S2 => rw [r] at k2; exact k2
      | exc e S2 => rw [r] at k2; exact k2
      | bad => rw [r] at k2; exact k2.elim
    · rw [if_neg q] at k2 ⊢
      have k3 : Out (truD S1 (vw S1 d)) k ke := k2
      rw [e2] at k3
      exact k3
theorem pw_one {isAnd : Bool} (ha : PT X a (rdT κ Wx fun ρ S => (ma ρ S).t)) : PW X (.BoolOp (bopO isAnd) [a] pos) (rdT κ Wx (tsB isAnd [ma])) := by
  cases isAnd with
  | true => exact PW.imp (pw_and1 ha) fun _ _ _ z => z
  | false => exact PW.imp (pw_or1 ha) fun _ _ _ z => z
theorem pw_more {isAnd : Bool} {m2 : MW} {ms : List MW} {as : List Expr} (ha : PT X a (rdT κ Wx fun ρ S => (ma ρ S).t)) (hr : PW X (.BoolOp (bopO isAnd) (b :: as) pos) (rdT κ Wx (tsB isAnd (m2 :: ms)))) :
    PW X (.BoolOp (bopO isAnd) (a :: b :: as) pos) (rdT κ Wx (tsB isAnd (ma :: m2 :: ms))) := by
  have key : ∀ σ H Q, rdT κ Wx (tsB isAnd (ma :: m2 :: ms)) σ H Q → rdT κ Wx (fun ρ S => (ma ρ S).t) σ H fun r H1 => if r = isAnd then rdT κ Wx (tsB isAnd (m2 :: ms)) σ H1 Q else Q r H1 := fun σ H Q ⟨as, H0, ρ, S, rs, hS, w⟩ => by
    refine rdT.mk rs hS (Out.of_bind w) fun r S1 as1 H1 w1 st1 hS1 => ?_
    by_cases z : r = isAnd
    · rw [if_pos z] at w1 ⊢
      exact ⟨as1, H0, ρ, S1, rs.step st1, hS1, w1.onT st1⟩
    · rw [if_neg z] at w1 ⊢
      exact w1 as1 H1 st1 hS1
  cases isAnd with
  | true =>
    refine PW.imp (pw_and ha hr) fun σ H Q q => ?_
    obtain ⟨as, H0, ρ, S, rs, hS, w⟩ := key σ H Q q
    refine ⟨as, H0, ρ, S, rs, hS, w.imp (fun r S1 k as1 H1 st1 hS1 => ?_) fun _ _ z => z⟩
    have := k as1 H1 st1 hS1
    cases r with
    | true => exact this
    | false => exact this
  | false =>
    refine PW.imp (pw_or ha hr) fun σ H Q q => ?_
    obtain ⟨as, H0, ρ, S, rs, hS, w⟩ := key σ H Q q
    refine ⟨as, H0, ρ, S, rs, hS, w.imp (fun r S1 k as1 H1 st1 hS1 => ?_) fun _ _ z => z⟩
    have := k as1 H1 st1 hS1
    cases r with
    | true => exact this
    | false => exact this
theorem pb_one {isAnd : Bool} (ha : PE X a (rdW κ Wx ma)) : PE X (.BoolOp (bopO isAnd) [a] pos) (rdW κ Wx (vsB isAnd [ma])) :=
  PE.imp (pe_one ha) fun σ H Q ⟨as, H0, ρ, S, rs, hS, w⟩ => ⟨as, H0, ρ, S, rs, hS, (Out.of_w w).of_d.imp (fun w S ⟨d, e, z⟩ => by subst e; exact z) fun _ _ z => z⟩
theorem pb_more (ok : CxOk X sc κ Φ) {isAnd : Bool} {m2 : MW} {ms : List MW} {as : List Expr} (ha : PE X a (rdW κ Wx ma)) (hr : PE X (.BoolOp (bopO isAnd) (b :: as) pos) (rdW κ Wx (vsB isAnd (m2 :: ms)))) :
    PE X (.BoolOp (bopO isAnd) (a :: b :: as) pos) (rdW κ Wx (vsB isAnd (ma :: m2 :: ms))) := by
  have key : ∀ σ H Q, rdW κ Wx (vsB isAnd (ma :: m2 :: ms)) σ H Q → rdW κ Wx ma σ H fun x H1 => ∃ r, TruV X.K x H1 r ∧ if r = isAnd then rdW κ Wx (vsB isAnd (m2 :: ms)) σ H1 Q else Q x H1 := fun σ H Q ⟨as, H0, ρ, S, rs, hS, w⟩ => by
    refine rdW.mk rs hS (Out.of_bind w).of_d fun x S1 as1 H1 v w1 st1 r1 hS1 => ?_
    obtain ⟨d, rfl, w1⟩ := w1
    obtain ⟨r, e, w2⟩ := truD_S w1.of_bind
    refine ⟨r, tru_of ok (IsD.vw hS1 r1) e, ?_⟩
    by_cases z : r = isAnd
    · rw [if_pos z] at w2 ⊢
      exact ⟨as1, H0, ρ, S1, rs.step st1, hS1, w2.onW st1⟩
    · rw [if_neg z] at w2 ⊢
      exact kW.here (w := .d d) (kW.on st1 w2) r1 hS1
  cases isAnd with
  | true =>
    refine PE.imp (pe_andT ha hr) fun σ H Q q => ?_
    obtain ⟨as, H0, ρ, S, rs, hS, w⟩ := key σ H Q q
    refine ⟨as, H0, ρ, S, rs, hS, w.imp (fun w S1 k as1 H1 v st1 r1 hS1 => ?_) fun _ _ z => z⟩
    obtain ⟨r, t, z⟩ := k as1 H1 v st1 r1 hS1
    refine ⟨r, t, ?_⟩
    cases r with
    | true => exact z
    | false => exact z
  | false =>
    refine PE.imp (pe_orT ha hr) fun σ H Q q => ?_
    obtain ⟨as, H0, ρ, S, rs, hS, w⟩ := key σ H Q q
    refine ⟨as, H0, ρ, S, rs, hS, w.imp (fun w S1 k as1 H1 v st1 r1 hS1 => ?_) fun _ _ z => z⟩
    obtain ⟨r, t, z⟩ := k as1 H1 v st1 r1 hS1
    refine ⟨r, t, ?_⟩
    cases r with
    | true => exact z
    | false => exact z
end
end Ev
set_option maxHeartbeats 2000000
/-! Ev, part 10: what is walked; comprehensions. -/
namespace Ev
open PySem PySem.Spec PyProof.Rows L2

theorem mono_at {κ : Kx} {as as' : List Addr} {H H' : Hp} (pr : Pre as as') (im : Imm H H') {d : D} {v : V} (h : IsD κ as H d v) : IsD κ as' H' d v := h.mono pr im
theorem scr_ds {κ : Kx} {as : List Addr} {H : Hp} : ∀ {ns : List Int}, IsDs κ as H (ns.map D.int) (ns.map V.int)
  | [] => True.intro
  | _ :: _ => ⟨rfl, scr_ds⟩
/-- what an iterator gives: the items ds, while what is walked stays -/
def ItsOk (κ : Kx) (J : It) (as : List Addr) (H : Hp) (ws : List W) (S : Sto) (ds : List D) : Prop :=
  ds.length ≤ sizeLine ∧ ∃ ad : List Addr, (∀ a ∈ ad, a ∉ as ∧ H a ≠ none) ∧ ((∀ w ∈ ws, ∃ d, w = .d d) → ad = []) ∧
  ∀ as' H' S', Pre as as' → Imm H H' → (∀ a ∈ ad, H' a = H a) → RepS κ as' H' S' → srcG ws S S' →
    (∀ i, i < ds.length → J.go i H') ∧ J.stop ds.length H' ∧ ∀ i x H'' d, J.yld i H' x H'' → ds[i]? = some d → IsD κ as' H'' d x ∧ Step as' H' as' H'' ∧ RepS κ as' H'' S'
def rdI (κ : Kx) (Wx : L2.WX) (k : Sk) (m : Env → Sto → R (List W)) : TI := fun σ H Rr => ∃ as H0 ρ S, RelS κ as H0 H σ ρ ∧ RepS κ as H S ∧
  Out (m ρ S) (fun ws S1 => ∃ ds, srcD k ws S1 = some ds ∧ ∀ as1 H1 J, Step as H as1 H1 → RepS κ as1 H1 S1 → ItsOk κ J as1 H1 ws S1 ds → Rr J H1) (kX κ as H σ Wx)
section
variable {X : Cx} {sc : SC} {κ : Kx} {Φ : Fn} {Wx : L2.WX} {a b c tg : Expr} {ma mb mc : MW} {pos : Pos}
theorem its_list {as : List Addr} {H : Hp} {w : W} {S : Sto} {ds : List D} {l : Addr} (hl : ds.length ≤ sizeLine) (ad : List Addr) (h1 : ∀ a ∈ ad, a ∉ as ∧ H a ≠ none) (h2 : (∃ d, w = .d d) → ad = [])
    (h : ∀ as' H' S', Pre as as' → Imm H H' → (∀ a ∈ ad, H' a = H a) → RepS κ as' H' S' → srcG [w] S S' → ∃ vs, SqL X.K H' l vs ∧ IsDs κ as' H' ds vs) : ItsOk κ (Itl X.K l) as H [w] S ds := by
  refine ⟨hl, ad, h1, fun z => h2 (z w List.mem_cons_self), fun as' H' S' pr im kp hS' g => ?_⟩
  obtain ⟨vs, q, r⟩ := h as' H' S' pr im kp hS' g
  have el := r.length
  refine ⟨fun i hi => ?_, ⟨vs, q, by omega⟩, fun i x H'' d y e => ?_⟩
  · have hi' : i < vs.length := by omega
    exact ⟨vs, vs[i], q, by simp [hi']⟩
  · obtain ⟨rfl, y⟩ := y
    obtain ⟨v, e1, e2⟩ := r.get e
    have e3 := y vs q
    rw [e1] at e3
    cases e3
    exact ⟨e2, Step.refl, hS'⟩
theorem its_tup {as : List Addr} {H : Hp} {w : W} {S : Sto} {ds : List D} {l : Addr} {vs : List V} (hl : ds.length ≤ sizeLine) (q : SqT X.K H l vs) (r : IsDs κ as H ds vs) : ItsOk κ (Itt X.K l) as H [w] S ds := by
  refine ⟨hl, [], by simp, fun _ => rfl, fun as' H' S' pr im kp hS' g => ?_⟩
  have q' := im.sqT q
  have r' := r.mono pr im
  have el := r'.length
  refine ⟨fun i hi => ?_, ⟨vs, q', by omega⟩, fun i x H'' d y e => ?_⟩
  · have hi' : i < vs.length := by omega
    exact ⟨vs, vs[i], q', by simp [hi']⟩
  · obtain ⟨rfl, y⟩ := y
    obtain ⟨v, e1, e2⟩ := r'.get e
    have e3 := y vs q'
    rw [e1] at e3
    cases e3
    exact ⟨e2, Step.refl, hS'⟩
theorem lenL {pins : List (Addr × Obj)} {s : Shared} {σ : L2.St} {H : Hp} {l : Addr} {xs : List V} (I : Inv X pins σ H s) (hH : SqL X.K H l xs) : xs.length ≤ sizeLine := by
  obtain ⟨its, r, p, z⟩ := I.list hH
  exact z
theorem lenT {pins : List (Addr × Obj)} {s : Shared} {σ : L2.St} {H : Hp} {l : Addr} {xs : List V} (I : Inv X pins σ H s) (hH : SqT X.K H l xs) : xs.length ≤ sizeLine := by
  obtain ⟨its, r, p, z⟩ := I.tuple hH
  have := r.length
  simpa [this] using z
theorem its_rng {lo : Int} {n : Nat} {as : List Addr} {H : Hp} {ws : List W} {S : Sto} (hn : n ≤ sizeLine) : ItsOk κ (Itr lo n) as H ws S ((List.range n).map fun (i : Nat) => .int (lo + (i : Int))) := by
  refine ⟨by simpa using hn, [], by simp, fun _ => rfl, fun as' H' S' pr im kp hS' g => ⟨fun i hi => by show i < n; simpa using hi, by simp [Itr], fun i x H'' d y e => ?_⟩⟩
  obtain ⟨rfl, rfl⟩ := y
  rw [List.getElem?_map] at e
  cases q : (List.range n)[i]? with
  | none => rw [q] at e; cases e
  | some j =>
    rw [q] at e
    cases e
    have : j = i := by
      obtain ⟨h1, h2⟩ := List.getElem?_eq_some_iff.mp q
      rw [List.getElem_range] at h2
      exact h2.symm
    subst this
    exact ⟨rfl, Step.refl, hS'⟩
theorem rngOk_of {m n : Int} (h : rngOk m n = true) : -(2 ^ 62) ≤ m ∧ m < 2 ^ 62 ∧ -(2 ^ 62) ≤ n ∧ n < 2 ^ 62 ∧ (n - m).toNat ≤ sizeLine := by
  obtain ⟨h, h5⟩ := ba2 h
  obtain ⟨h, h4⟩ := ba2 h
  obtain ⟨h, h3⟩ := ba2 h
  obtain ⟨h1, h2⟩ := ba2 h
  have h1 := of_decide_eq_true h1
  have h2 := of_decide_eq_true h2
  have h3 := of_decide_eq_true h3
  have h4 := of_decide_eq_true h4
  have h5 := of_decide_eq_true h5
  rw [sizeLine_eq]
  omega
theorem pi_rng1 (ok : CxOk X sc κ Φ) {e : Expr} {p : Pos} {ms : Env → Sto → R (List W)} (hg : glB sc "range" = true) (he : nostar e = true) (ha : PA X [e] (rdWs κ Wx ms)) (h1 : ∀ ρ S ws S', ms ρ S = .ok ws S' → ws.length = 1) :
    PI X tg (.Call (.Name "range" p) [e] [] pos) (rdI κ Wx .range ms) := by
  have := pi_range1 (tg := tg) (p := p) (pos := pos) (ok.gl hg) (ok.blt "range" (by decide)) ha (star_cons he)
  refine ⟨fun pins s σ H Rr I ⟨as, H0, ρ, S, rs, hS, w⟩ => this.run pins s σ H Rr I ?_⟩
  have w0 : Out (ms ρ S) (fun ws S1 => ws.length = 1 ∧ ∃ ds, srcD .range ws S1 = some ds ∧ ∀ as1 H1 J, Step as H as1 H1 → RepS κ as1 H1 S1 → ItsOk κ J as1 H1 ws S1 ds → Rr J H1) (kX κ as H σ Wx) := by
    cases q : ms ρ S with
    | ok ds S' => rw [q] at w; exact ⟨h1 ρ S ds S' q, w⟩
    | exc e S' => rw [q] at w; exact w
    | bad => rw [q] at w; exact w
  refine rdWs.mk rs hS w0 fun ws S1 as1 H1 vs ⟨hl, ds, e, k⟩ st1 r1 hS1 => ?_
  match ws, hl with
  | [w], _ =>
    cases vs with
    | nil => exact r1.elim
    | cons v vs =>
      cases vs with
      | cons _ _ => exact r1.2.elim
      | nil =>
        cases w with
        | own c => cases e
        | d x =>
          cases x with
          | int n =>
            have e' : (if rngOk 0 n = true then some (rngD 0 n) else none) = some ds := e
            by_cases z : rngOk 0 n = true
            · rw [if_pos z] at e'
              cases e'
              obtain ⟨_, _, h3, h4, h5⟩ := rngOk_of z
              have hv : v = V.int n := r1.1
              subst hv
              have e0 : (n - 0).toNat = n.toNat := by rw [Int.sub_zero]
              exact ⟨n, rfl, h3, h4, k as1 H1 _ st1 hS1 (by unfold rngD; rw [e0]; exact its_rng (lo := 0) (by rw [← e0]; exact h5))⟩
            · rw [if_neg z] at e'; cases e'
          | _ => cases e
theorem pi_rng2 (ok : CxOk X sc κ Φ) {e e2 : Expr} {p : Pos} {ms : Env → Sto → R (List W)} (hg : glB sc "range" = true) (he : nostar e = true) (he2 : nostar e2 = true) (ha : PA X [e, e2] (rdWs κ Wx ms)) (h1 : ∀ ρ S ws S', ms ρ S = .ok ws S' → ws.length = 2) :
    PI X tg (.Call (.Name "range" p) [e, e2] [] pos) (rdI κ Wx .range ms) := by
  have := pi_range2 (tg := tg) (p := p) (pos := pos) (ok.gl hg) (ok.blt "range" (by decide)) ha (by rw [star_cons he, star_cons he2]; rfl) (by rw [star_cons he2]; rfl)
  refine ⟨fun pins s σ H Rr I ⟨as, H0, ρ, S, rs, hS, w⟩ => this.run pins s σ H Rr I ?_⟩
  have w0 : Out (ms ρ S) (fun ws S1 => ws.length = 2 ∧ ∃ ds, srcD .range ws S1 = some ds ∧ ∀ as1 H1 J, Step as H as1 H1 → RepS κ as1 H1 S1 → ItsOk κ J as1 H1 ws S1 ds → Rr J H1) (kX κ as H σ Wx) := by
    cases q : ms ρ S with
    | ok ds S' => rw [q] at w; exact ⟨h1 ρ S ds S' q, w⟩
    | exc e S' => rw [q] at w; exact w
    | bad => rw [q] at w; exact w
  refine rdWs.mk rs hS w0 fun ws S1 as1 H1 vs ⟨hl, ds, e, k⟩ st1 r1 hS1 => ?_
  match ws, hl with
  | [w, w'], _ =>
    cases vs with
    | nil => exact r1.elim
    | cons v vs =>
      cases vs with
      | nil => exact r1.2.elim
      | cons v' vs => cases vs with
        | cons _ _ => exact r1.2.2.elim
        | nil =>
          cases w with
          | own c => cases e
          | d x =>
            cases x with
            | int m =>
              cases w' with
              | own c => cases e
              | d y =>
                cases y with
                | int n =>
                  have e' : (if rngOk m n = true then some (rngD m n) else none) = some ds := e
                  by_cases z : rngOk m n = true
                  · rw [if_pos z] at e'
                    cases e'
                    obtain ⟨h1, h2, h3, h4, h5⟩ := rngOk_of z
                    have hv : v = V.int m := r1.1
                    have hv' : v' = V.int n := r1.2.1
                    subst hv hv'
                    exact ⟨m, n, rfl, ⟨h1, h2, h3, h4⟩, k as1 H1 _ st1 hS1 (its_rng h5)⟩
                  · rw [if_neg z] at e'; cases e'
                | _ => cases e
            | _ => cases e
theorem pi_seq (ok : CxOk X sc κ Φ) {e : Expr} (he : PE X e (rdW κ Wx ma)) : PI X tg e (rdI κ Wx .seq fun ρ S => (ma ρ S).bind fun d S1 => (R.ok (α := List W) [] S1).bind fun ds S2 => .ok (d :: ds) S2) := by
  refine ⟨fun pins s σ H Rr I ⟨as, H0, ρ, S, rs, hS, w⟩ => ?_⟩
  refine thn (he.run pins s σ H (fun x H1 => ∃ as1 w S1 ds, Step as H as1 H1 ∧ IsE κ as1 H1 w x ∧ RepS κ as1 H1 S1 ∧ srcD .seq [w] S1 = some ds ∧ ∀ J, ItsOk κ J as1 H1 [w] S1 ds → Rr J H1) I
    (rdW.mk rs hS w.of_bind fun x S1 as1 H1 v w1 st1 r1 hS1 => ?_)) fun v s1 ⟨x, H1, I1, rx, as1, w, S1, ds, st, r, hS1, e, k⟩ => ?_
  · have w2 := w1.of_bind
    obtain ⟨ds, e, k⟩ := w2
    exact ⟨as1, x, S1, ds, st1, r1, hS1, e, fun J h => k as1 H1 J st1 hS1 h⟩
  · have e' : seqD S1 w = some ds := e
    have goL : ∀ {a : Addr} {xs : List V}, SqL X.K H1 a xs → v = .ref a → ItsOk κ (Itl X.K a) as1 H1 [w] S1 ds → wpAny (model X.prog X.w) X.A (pyIter v) (PIE X pins σ tg Rr) X.xe s1 := fun {a xs} hq ev h => by
      subst ev
      obtain ⟨its, rv, p, hz⟩ := I1.list hq
      refine wpAny_pyIter_list p.isList ?_
      refine ⟨s1.heap.objs.size, [s1.heap.objs.size], _, _, H1, rfl, I1.kept (t' := s1.toks) fun b o e => Heap.get?_push_of_some _ e, turn_list a _, ⟨_, Heap.get?_push_size _ rfl, rfl, rfl⟩, fun b hb => ?_, k _ h⟩
      have e : b = s1.heap.objs.size := by simpa using hb
      subst e
      exact I1.fpOk (Nat.le_refl _) (I1.hok.fresh (Nat.le_refl _))
    have goT : ∀ {a : Addr} {xs : List V}, SqT X.K H1 a xs → v = .ref a → ItsOk κ (Itt X.K a) as1 H1 [w] S1 ds → wpAny (model X.prog X.w) X.A (pyIter v) (PIE X pins σ tg Rr) X.xe s1 := fun {a xs} hq ev h => by
      subst ev
      obtain ⟨its, rv, p, hz⟩ := I1.tuple hq
      refine wpAny_pyIter_tuple (show s1.heap.IsTuple a its.toArray from p) ?_
      refine ⟨s1.heap.objs.size, [s1.heap.objs.size], _, _, H1, rfl, I1.kept (t' := s1.toks) fun b o e => Heap.get?_push_of_some _ e, turn_tuple a _, ⟨_, Heap.get?_push_size _ rfl, rfl, rfl⟩, fun b hb => ?_, k _ h⟩
      have e : b = s1.heap.objs.size := by simpa using hb
      subst e
      exact I1.fpOk (Nat.le_refl _) (I1.hok.fresh (Nat.le_refl _))
    cases w with
    | own c =>
      obtain ⟨l, rfl, nl, rc⟩ := r
      cases c with
      | lst ys =>
        have e2 : ys = ds := by injection e'
        subst e2
        obtain ⟨vs, h1, h2⟩ := rc
        have hq : SqL X.K H1 l vs := .inl (.inl h1)
        refine goL hq rx (its_list (by rw [h2.length]; exact lenL I1 hq) [l] (fun a ha => ?_) (fun ⟨d, z⟩ => by cases z) fun as' H' S' pr im kp hS' g => ⟨vs, .inl (.inl ((kp l List.mem_cons_self).trans h1)), h2.mono pr im⟩)
        rw [List.mem_singleton.mp ha]
        exact ⟨nl, by rw [h1]; simp⟩
      | _ => cases e'
    | d x0 =>
      have rD : IsD κ as1 H1 x0 x := r
      cases x0 with
      | lst ys =>
        have e2 : ys = ds := by injection e'
        subst e2
        obtain ⟨l, vs, rfl, h1, h2⟩ := rD
        have hq : SqL X.K H1 l vs := .inl h1.rd
        exact goL hq rx (its_list (by rw [h2.length]; exact lenL I1 hq) [] (fun a ha => by simp at ha) (fun _ => rfl) fun as' H' S' pr im kp hS' g => ⟨vs, .inl (im.frz h1).rd, h2.mono pr im⟩)
      | scr ns =>
        have e2 : ns.map D.int = ds := by injection e'
        subst e2
        obtain ⟨l, rfl, h1⟩ := rD
        have hq : SqL κ.K H1 l (ns.map V.int) := h1.elim (fun z => .inl z.rd) .inr
        have rr : ∀ as H, IsDs κ as H (ns.map D.int) (ns.map V.int) := fun as H => scr_ds
        rw [ok.hκ] at hq h1
        exact goL hq rx (its_list (by rw [(rr as1 H1).length]; exact lenL I1 hq) [] (fun a ha => by simp at ha) (fun _ => rfl) fun as' H' S' pr im kp hS' g => ⟨_, h1.elim (fun z => .inl (im.frz z).rd) .inr, rr as' H'⟩)
      | tup ys =>
        have e2 : ys = ds := by injection e'
        subst e2
        obtain ⟨l, vs, rfl, h1, h2⟩ := rD
        rw [ok.hκ] at h1
        exact goT h1 rx (its_tup (by rw [h2.length]; exact lenT I1 h1) h1 h2)
      | str z =>
        have e2 : (z.map fun c => D.str [c]) = ds := by injection e'
        subst e2
        obtain ⟨t, ev⟩ := (show ∃ t, v = Value.str (tx z) t by have r2 := rD.1; subst r2; exact rx)
        subst ev
        have hi : ItsOk κ (Its (tx z)) as1 H1 [.d (.str z)] S1 (z.map fun c => D.str [c]) := by
          refine ⟨by rw [List.length_map]; exact szOk_of rD.2, [], by simp, fun _ => rfl, fun as' H' S' pr im kp hS' g => ⟨fun i hi => ?_, ?_, fun i x H'' d y e => ?_⟩⟩
          · rw [List.length_map] at hi
            show i < (tx z).cps.size
            simpa [tx] using hi
          · show (tx z).cps.size ≤ _
            simp [tx]
          · obtain ⟨rfl, ch, e1, rfl⟩ := y
            rw [List.getElem?_map] at e
            have e3 : z[i]? = some ch := by simpa [tx] using e1
            rw [e3] at e
            cases e
            exact ⟨⟨rfl, rfl⟩, Step.refl, hS'⟩
        cases ha : (tx z).cps.all (· < 128)
        · exact wpAny_pyIter_wide ha (pi_one (tk := s1.toks) I1 _ (turn_str _ (tx z) t "str_iterator" (.inr rfl)) ⟨_, Heap.get?_push_size _ rfl, rfl, rfl⟩ (k _ hi))
        · exact wpAny_pyIter_ascii ha (pi_one (tk := s1.toks) I1 _ (turn_str _ (tx z) t "str_ascii_iterator" (.inl rfl)) ⟨_, Heap.get?_push_size _ rfl, rfl, rfl⟩ (k _ hi))
      | dic kvs =>
        have e2 : (kvs.map fun p => kyD p.1) = ds := by injection e'
        subst e2
        obtain ⟨l, kws, rfl, ⟨o, h1⟩, h2⟩ := rD
        obtain rfl : v = .ref l := rx
        obtain ⟨hs, hgd, hx, es, ep, vs, hdt, hsz, kv, hm⟩ := I1.frzK h1
        have hlen : kvs.length = kws.length := h2.length
        have hle : kws.length ≤ sizeLine := (I1.hok l _ h1).2.1
        have ky : ∀ {kvs : List (Ky × D)} {kws : List (L2.Key × V)} {as : List Addr} {H : Hp}, IsKs κ as H kvs kws → ∀ (i : Nat) (d : D) (k : L2.Key) (v : V), (kvs.map fun p => kyD p.1)[i]? = some d → kws[i]? = some (k, v) → ∀ as' H', IsD κ as' H' d (kV k) := by
          intro kvs
          induction kvs with
          | nil => intro kws as H h i d k v e1 e2; simp at e1
          | cons p r ih =>
            intro kws as H h i d k v e1 e2 as' H'
            obtain ⟨k1, d1⟩ := p
            cases kws with
            | nil => exact h.elim
            | cons q r' =>
              obtain ⟨q1, v1⟩ := q
              obtain ⟨⟨eq, okk⟩, _, hr⟩ := h
              cases i with
              | zero =>
                simp at e1 e2
                obtain ⟨rfl, rfl⟩ := e2
                subst e1
                rw [eq]
                cases k1 with
                | inl n => exact rfl
                | inr x => exact ⟨rfl, okk⟩
              | succ i => exact ih hr i d k v (by simpa using e1) (by simpa using e2) as' H'
        have hi : ItsOk κ (Itk l o kws) as1 H1 [.d (.dic kvs)] S1 (kvs.map fun p => kyD p.1) := by
          refine ⟨by rw [List.length_map, hlen]; exact hle, [], by simp, fun _ => rfl, fun as' H' S' pr im kp hS' g => ?_⟩
          have h1' : H' l = some (.frz o (.dK kws)) := im l _ h1 True.intro
          refine ⟨fun i hi => ⟨h1', by rw [List.length_map, hlen] at hi; exact hi⟩, ⟨h1', by rw [List.length_map, hlen]; exact Nat.le_refl _⟩, fun i x H'' d y e => ?_⟩
          obtain ⟨rfl, kk, vv, e1, rfl⟩ := y
          exact ⟨ky h2 i d kk vv e e1 as' H'', Step.refl, hS'⟩
        refine iter_keys hs hgd hx hdt (pi_one (tk := s1.toks) I1 _ (turn_keys _ hdt) ⟨_, Heap.get?_push_size _ rfl, rfl, ?_⟩ (k _ hi))
        rw [hsz] <;> rfl
      | ref i =>
        obtain ⟨l, el, rfl⟩ := rD
        have hi : i < as1.length := (List.getElem?_eq_some_iff.mp el).1
        rw [hS1.len] at hi
        have q : S1[i]? = some S1[i] := List.getElem?_eq_getElem hi
        have ec : ∃ ys, S1[i] = .lst ys := by
          have e3 : (match (W.d (.ref i)).vw S1 with
            | .lst ds => some ds
            | .tup ds => some ds
            | .scr ns => some (ns.map .int)
            | .str z => some (z.map fun c => D.str [c])
            | _ => none) = some ds := e'
          have e4 : (W.d (.ref i)).vw S1 = S1[i].vw := by simp only [W.vw, Ev.vw, q]
          rw [e4] at e3
          cases hc : S1[i] with
          | lst ys => exact ⟨ys, rfl⟩
          | dct _ => rw [hc] at e3; cases e3
          | obj _ _ => rw [hc] at e3; cases e3
        obtain ⟨ys, ec⟩ := ec
        rw [ec] at q
        have e2 : ys = ds := by
          have e4 : (W.d (.ref i)).vw S1 = .lst ys := by simp only [W.vw, Ev.vw, q]; rfl
          have e3 : (match (W.d (.ref i)).vw S1 with
            | .lst ds => some ds
            | .tup ds => some ds
            | .scr ns => some (ns.map .int)
            | .str z => some (z.map fun c => D.str [c])
            | _ => none) = some ds := e'
          rw [e4] at e3
          injection e3
        subst e2
        obtain ⟨vs, h1, h2⟩ := hS1.cell i l _ el q
        have hq : SqL X.K H1 l vs := .inl (.inl h1)
        refine goL hq rx (its_list (by rw [h2.length]; exact lenL I1 hq) [] (fun a ha => by simp at ha) (fun _ => rfl) fun as' H' S' pr im kp hS' g => ?_)
        have g' := g (.d (.ref i)) List.mem_cons_self
        obtain ⟨vs', h3, h4⟩ := hS'.cell i l _ (pr i l el) (g'.trans q)
        exact ⟨vs', .inl (.inl h3), h4⟩
      | _ => cases e'
end
end Ev
set_option maxHeartbeats 2000000
/-! Ev, part 11: targets, comprehensions, for. -/
namespace Ev
open PySem PySem.Spec PyProof.Rows L2

/-! ### targets: a name, a tuple of names -/
def gConsN : List Nat → TGs
  | [] => gNil
  | i :: is => gCons (gName i) (gConsN is)
def gT (K : PySem.W.Frag) : List Nat → TG
  | [i] => gName i
  | is => gTup K is.length (gConsN is)
section
variable {κ : Kx} {as : List Addr} {H0 H : Hp}
theorem setAll_ok : ∀ {is : List Nat} {ds : List D} {vs : List V} {σ : L2.St} {ρ ρ' : Env} {Q : L2.St → Hp → Prop}, IsDs κ as H ds vs → setAll is ds ρ = some ρ' → RelS κ as H0 H σ ρ → (∀ i ∈ is, i < σ.length) →
    (∀ σ', RelS κ as H0 H σ' ρ' → σ'.length = σ.length → (∀ j, j ∉ is → σ'[j]? = σ[j]?) → Q σ' H) → gConsN is vs σ H Q
  | [], [], [], σ, ρ, ρ', Q, _, e, rs, _, k => by
    cases e
    exact ⟨rfl, k σ rs rfl fun _ _ => rfl⟩
  | [], [], _ :: _, _, _, _, _, h, _, _, _, _ => h.elim
  | [], _ :: _, _, _, _, _, _, _, e, _, _, _ => by cases e
  | _ :: _, [], _, _, _, _, _, _, e, _, _, _ => by cases e
  | i :: is, d :: ds, [], _, _, _, _, h, _, _, _, _ => h.elim
  | i :: is, d :: ds, v :: vs, σ, ρ, ρ', Q, h, e, rs, hl, k => by
    refine ⟨v, vs, rfl, ?_⟩
    show gConsN is vs (σ.set i (some v)) H Q
    refine setAll_ok (ρ := ρ.put i (.d d)) h.2 e (rs.set (hl i List.mem_cons_self) h.1) (fun j hj => by rw [List.length_set]; exact hl j (List.mem_cons_of_mem _ hj)) fun σ' rs' l' n' => ?_
    refine k σ' rs' (by rw [l', List.length_set]) fun j hj => ?_
    rw [n' j fun z => hj (List.mem_cons_of_mem _ z), List.getElem?_set_ne (fun (z : i = j) => hj (by rw [z]; exact List.mem_cons_self))]
theorem setTg_ok {tg : List Nat} {d : D} {v : V} {σ : L2.St} {ρ ρ' : Env} {Q : L2.St → Hp → Prop} (h : IsD κ as H d v) (e : setTg tg d ρ = some ρ') (rs : RelS κ as H0 H σ ρ) (hl : ∀ i ∈ tg, i < σ.length)
    (k : ∀ σ', RelS κ as H0 H σ' ρ' → σ'.length = σ.length → (∀ j, j ∉ tg → σ'[j]? = σ[j]?) → Q σ' H) : gT κ.K tg v σ H Q := by
  have many : ∀ is : List Nat, (∀ i, is ≠ [i]) → setTg is d ρ = some ρ' → (∀ i ∈ is, i < σ.length) → (∀ σ', RelS κ as H0 H σ' ρ' → σ'.length = σ.length → (∀ j, j ∉ is → σ'[j]? = σ[j]?) → Q σ' H) → gTup κ.K is.length (gConsN is) v σ H Q := fun is ni e hl k => by
    cases d with
    | tup ds =>
      obtain ⟨a, vs, rfl, hq, r⟩ := h
      have e' : setAll is ds ρ = some ρ' := by
        cases is with
        | nil => exact e
        | cons i is => cases is with
          | nil => exact absurd rfl (ni i)
          | cons j is => exact e
      refine ⟨a, vs, rfl, hq, ?_, setAll_ok r e' rs hl k⟩
      have ln : ∀ (is : List Nat) (ds : List D) (ρ ρ' : Env), setAll is ds ρ = some ρ' → is.length = ds.length := by
        intro is
        induction is with
        | nil => intro ds ρ ρ' e; cases ds with
          | nil => rfl
          | cons _ _ => cases e
        | cons i is ih => intro ds ρ ρ' e; cases ds with
          | nil => cases e
          | cons d ds => simp only [List.length_cons, ih ds _ _ e]
      rw [← r.length, ln is ds ρ ρ' e']
    | _ =>
      cases is with
      | nil => cases e
      | cons i is => cases is with
        | nil => exact absurd rfl (ni i)
        | cons j is => cases e
  match tg, e, hl, k with
  | [i], e, hl, k =>
    have e' : ρ.put i (.d d) = ρ' := by
      cases d <;> (injection e)
    subst e'
    refine k _ (rs.set (hl i List.mem_cons_self) h) (List.length_set ..) fun j hj => List.getElem?_set_ne (fun (z : i = j) => hj (by rw [z]; exact List.mem_cons_self))
  | [], e, hl, k => exact many [] (fun i z => by cases z) e hl k
  | i :: j :: is, e, hl, k => exact many (i :: j :: is) (fun i z => by cases z) e hl k
theorem wipe_get {σ : L2.St} : ∀ {vs : List Nat} (j : Nat), (wipe σ vs)[j]? = if j ∈ vs ∧ j < σ.length then some none else σ[j]?
  | [], j => by simp [wipe]
  | v :: vs, j => by
    show ((wipe σ vs).set v none)[j]? = _
    by_cases h : v = j
    · subst h
      by_cases hl : v < σ.length
      · rw [List.getElem?_set_self (by rw [wipe_length]; exact hl), if_pos ⟨List.mem_cons_self, hl⟩]
      · rw [List.getElem?_eq_none (by rw [List.length_set, wipe_length]; omega), if_neg (fun z => hl z.2), List.getElem?_eq_none (by omega)]
    · rw [List.getElem?_set_ne h, wipe_get j]
      by_cases hj : j ∈ vs ∧ j < σ.length
      · rw [if_pos hj, if_pos ⟨List.mem_cons_of_mem _ hj.1, hj.2⟩]
      · rw [if_neg hj, if_neg fun z => hj ⟨(List.mem_cons.mp z.1).resolve_left (Ne.symm h), z.2⟩]
theorem wipe_back {σ σ' : L2.St} {vs : List Nat} (hl : σ'.length = (wipe σ vs).length) (h : ∀ j, j ∉ vs → σ'[j]? = (wipe σ vs)[j]?) : wipe σ' vs = wipe σ vs := by
  rw [wipe_length] at hl
  apply List.ext_getElem?
  intro j
  rw [wipe_get, wipe_get]
  by_cases z : j ∈ vs
  · by_cases hj : j < σ.length
    · rw [if_pos ⟨z, by omega⟩, if_pos ⟨z, hj⟩]
    · rw [if_neg (fun q => hj (by omega)), if_neg (fun q => hj q.2), List.getElem?_eq_none (by omega), List.getElem?_eq_none (by omega)]
  · rw [if_neg (fun q => z q.1), if_neg (fun q => z q.1), h j z, wipe_get, if_neg (fun q => z q.1)]
theorem dels_get : ∀ (is : List Nat) (ρ : Env) (j : Nat) (w : W), (ρ.dels is).get j = some w → j ∉ is ∧ ρ.get j = some w
  | [], ρ, j, w, h => ⟨by simp, h⟩
  | i :: is, ρ, j, w, h => by
    obtain ⟨h1, h2⟩ := dels_get is (ρ.del i) j w h
    rw [get_del] at h2
    by_cases z : i = j
    · rw [if_pos z] at h2; cases h2
    · rw [if_neg z] at h2
      exact ⟨by simp only [List.mem_cons, not_or]; exact ⟨fun q => z q.symm, h1⟩, h2⟩
theorem RelS.wipe {σ : L2.St} {ρ : Env} (r : RelS κ as H0 H σ ρ) (vs : List Nat) : RelS κ as H0 H (L2.wipe σ vs) (ρ.dels vs) := by
  have key : ∀ j w, (ρ.dels vs).get j = some w → ρ.get j = some w ∧ (L2.wipe σ vs)[j]? = σ[j]? := fun j w h => by
    obtain ⟨h1, h2⟩ := dels_get vs ρ j w h
    exact ⟨h2, by rw [wipe_get, if_neg fun q => h1 q.1]⟩
  refine ⟨fun i d e => ?_, fun i c e => ?_, fun i j c e a n e1 e2 s1 => ?_⟩
  · obtain ⟨e', q⟩ := key i _ e
    rw [q]
    exact r.val i d e'
  · obtain ⟨e', q⟩ := key i _ e
    rw [q]
    exact r.own i c e'
  · obtain ⟨e1', q1⟩ := key i _ e1
    obtain ⟨e2', q2⟩ := key j _ e2
    rw [q1] at s1
    rw [q2]
    exact r.dis i j c e a n e1' e2' s1
end
theorem noexc_ok {α : Type} {r : R α} {k : α → Sto → Prop} {ke : D → Sto → Prop} (h : Out r.noexc k ke) : ∃ a S, r = .ok a S ∧ k a S := by
  cases r with
  | ok a S => exact ⟨a, S, rfl, h⟩
  | exc e S => exact h.elim
  | bad => exact h.elim
theorem bind_ok {α β : Type} {r : R α} {f : α → Sto → R β} {b : β} {S : Sto} (h : r.bind f = .ok b S) : ∃ a S1, r = .ok a S1 ∧ f a S1 = .ok b S := by
  cases r with
  | ok a S1 => exact ⟨a, S1, rfl, h⟩
  | exc e S1 => cases h
  | bad => cases h
abbrev WF : L2.WX := fun _ _ _ _ => False
section
variable {X : Cx} {sc : SC} {κ : Kx} {Φ : Fn} {Wx : L2.WX} {elt tg iter : Expr} {ifs : List Expr} {scope : Scope} {own : List (Str × Nat)} {pos : Pos}
/-- a turn of a comprehension -/
def lcBody (tgs : List Nat) (mcond : Env → Sto → R Bool) (melt : MW) (ρ : Env) (d : D) (S : Sto) : R (Option D) :=
  (R.of S (setTg tgs d (ρ.dels tgs))).bind fun ρ' S => (mcond ρ' S).bind fun b S1 => if b = true then (melt ρ' S1).d.bind fun x S2 => .ok (some x) S2 else .ok none S1
open Classical in
/-- the reading of a comprehension, in the layer's words -/
theorem lc_rd {k : Sk} {tgs : List Nat} {mws : Env → Sto → R (List W)} {mcond : Env → Sto → R Bool} {melt : MW} {σ : L2.St} {H : Hp} {Q : VK} {N : Nat} (hσ : σ.length = N) (hvs : own.map (·.2) = tgs) (hlt : ∀ i ∈ tgs, i < N)
    (q : rdN κ Wx (fun ρ S => (mws ρ S).bind fun xs S1 => match srcD k xs S1 with
      | none => .bad
      | some ds => (lcGo (lcBody tgs mcond melt ρ) (srcG xs S1) ds S1).noexc.bind fun r S2 => .ok (.lst r) S2) σ H Q) :
    tLc (rdI κ Wx k mws) (gT κ.K tgs) (rdT κ WF mcond) (rdW κ WF melt) (own.map (·.2)) σ H Q := by
  obtain ⟨as, H0, ρ, S, rs, hS, w⟩ := q
  refine ⟨as, H0, ρ, S, rs, hS, w.of_bind.imp (fun ws S1 w1 => ?_) fun _ _ z => z⟩
  cases q : srcD k ws S1 with
  | none => rw [q] at w1; exact w1.elim
  | some ds =>
    rw [q] at w1
    refine ⟨ds, rfl, fun as1 H1 J st1 hS1 io D hD => ?_⟩
    obtain ⟨r, Sf, e0, k0⟩ := noexc_ok w1.of_bind
    rw [hvs]
    obtain ⟨hlen, ad, ad1, _, io⟩ := io
    -- where one stands at a turn
    let St := fun (i : Nat) (H' : Hp) => ∃ as' S' acc accV rest, Step as1 H1 as' H' ∧ RepS κ as' H' S' ∧ srcG ws S1 S' ∧ H' D = some (.lst accV) ∧ D ∉ as' ∧ IsDs κ as' H' acc accV ∧ accV.length ≤ i ∧
      lcGo (lcBody tgs mcond melt ρ) (srcG ws S1) (ds.drop i) S' = .ok rest Sf ∧ acc ++ rest = r
    have nD : D ∉ as1 := fresh hD hS1
    have srcRefl : srcG ws S1 S1 := fun x _ => by
      cases x with
      | d x => cases x <;> trivial
      | own c => trivial
    refine ⟨fun i m H' => m = ds.length - i ∧ i ≤ ds.length ∧ St i H', ⟨_, rfl, Nat.zero_le _, as1, S1, [], [], r, Step.new hD, RepS.new hD hS1, srcRefl, upd_same, nD, True.intro, Nat.le_refl _, e0, rfl⟩, ?_⟩
    rintro i m H' ⟨rfl, hi, as', S', acc, accV, rest, st, hS', sg, hDa, nDa, ra, la, eg, er⟩
    have kp : ∀ a ∈ ad, H' a = H1 a := fun a ha => by
      obtain ⟨n1, n2⟩ := ad1 a ha
      cases z : H1 a with
      | none => exact absurd z n2
      | some o => exact st.keep a o z n1
    obtain ⟨go, stop, yld⟩ := io as' H' S' st.pr st.imm kp hS' sg
    by_cases hlt' : i < ds.length
    · refine .inr ⟨go i hlt', St (i + 1), fun H2 p => ⟨ds.length - (i + 1), by omega, rfl, hlt', p⟩, fun x H2 y => ?_⟩
      obtain ⟨rd, st2, hS2⟩ := yld i x H2 ds[i] y (by simp [hlt'])
      rw [List.drop_eq_getElem_cons hlt'] at eg
      have eg1 : (lcBody tgs mcond melt ρ ds[i] S').bind (fun r S1' => if srcG ws S1 S1' then (lcGo (lcBody tgs mcond melt ρ) (srcG ws S1) (ds.drop (i + 1)) S1').bind fun ys S2 => .ok (r.toList ++ ys) S2 else .bad) = .ok rest Sf := eg
      obtain ⟨o, S3, e3, e4⟩ := bind_ok eg1
      have sg3 : srcG ws S1 S3 := by
        by_cases z : srcG ws S1 S3
        · exact z
        · rw [if_neg z] at e4; cases e4
      rw [if_pos sg3] at e4
      obtain ⟨ys, S4, e5, e6⟩ := bind_ok e4
      have e6' : o.toList ++ ys = rest := by injection e6
      have e6s : S4 = Sf := by injection e6
      subst e6s
      unfold lcBody at e3
      obtain ⟨ρ', S5, e7, e8⟩ := bind_ok e3
      have e9 : setTg tgs ds[i] (ρ.dels tgs) = some ρ' ∧ S' = S5 := by
        unfold R.of at e7
        cases z : setTg tgs ds[i] (ρ.dels tgs) with
        | none => rw [z] at e7; cases e7
        | some ρ2 => rw [z] at e7; injection e7 with a b; exact ⟨by rw [a], b⟩
      obtain ⟨e9, rfl⟩ := e9
      obtain ⟨b, S6, e10, e11⟩ := bind_ok e8
      have st12 := st1.trans (st.trans st2)
      have stt := st.trans st2
      refine setTg_ok rd e9 ((rs.step st12).wipe tgs) (fun j hj => by rw [wipe_length, hσ]; exact hlt j hj) fun σ2 rs2 l2 n2 => ⟨wipe_back l2 n2, ?_⟩
      refine ⟨as', H0, ρ', S', rs2, hS2, ?_⟩
      rw [e10]
      intro as6 H6 st6 hS6
      have hD2 : H2 D = some (.lst accV) := st2.keep D _ hDa nDa
      have hD6 : H6 D = some (.lst accV) := st6.keep D _ hD2 nDa
      have nD6 : D ∉ as6 := st6.notin hD2 nDa
      have st16 := stt.trans st6
      cases b with
      | true =>
        rw [if_pos rfl] at e11 ⊢
        obtain ⟨dx, S7, e12, e13⟩ := bind_ok e11
        obtain ⟨w7, S8, e14, e15⟩ := bind_ok e12
        have e16 : w7 = .d dx ∧ S8 = S7 := by
          cases w7 with
          | d y => injection e15 with a b; exact ⟨by rw [a], b⟩
          | own c => cases e15
        obtain ⟨rfl, rfl⟩ := e16
        have e13' : o = some dx := by injection e13 with a b; exact a.symm
        have e13s : S8 = S3 := by injection e13
        subst e13'
        subst e13s
        refine ⟨as6, H0, ρ', S6, rs2.step st6, hS6, ?_⟩
        rw [e14]
        intro as8 H8 v8 st8 r8 hS8
        have hD8 : H8 D = some (.lst accV) := st8.keep D _ hD6 nD6
        have nD8 : D ∉ as8 := st8.notin hD6 nD6
        have st18 := st16.trans st8
        refine ⟨accV, hD8, by omega, ?_⟩
        have im : Imm H8 (upd H8 D (.lst (accV ++ [v8]))) := Imm.write hD8 fun z => z
        refine ⟨as8, S8, acc ++ [dx], accV ++ [v8], ys, ?_, hS8.off nD8 im, sg3, upd_same, nD8, ?_, by rw [List.length_append]; simp; omega, e5, ?_⟩
        · exact ⟨st18.ext, fun a u h1 h2 => by rw [upd_ne (ne_of_none h1 hD)]; exact st18.imm a u h1 h2, fun a u h1 h2 => by rw [upd_ne (ne_of_none h1 hD)]; exact st18.keep a u h1 h2, fun a h => upd_there a (st18.there a h)⟩
        · exact (IsDs.append (((ra.step st2).step st6).step st8) (IsDs.one r8)).mono (fun _ _ h => h) im
        · rw [List.append_assoc]
          rw [← er, ← e6']
          rfl
      | false =>
        rw [if_neg Bool.false_ne_true] at e11 ⊢
        have e13' : o = none := by injection e11 with a b; exact a.symm
        have e13s : S6 = S3 := by injection e11
        subst e13'
        subst e13s
        exact ⟨as6, S6, acc, accV, ys, st16, hS6, sg3, hD6, nD6, (ra.step st2).step st6, by omega, e5, by rw [← er, ← e6']; rfl⟩
    · have e : i = ds.length := by omega
      subst e
      refine .inl ⟨stop, ?_⟩
      rw [List.drop_length] at eg
      have e1 : rest = [] ∧ S' = Sf := by injection eg with a b; exact ⟨a.symm, b⟩
      obtain ⟨rfl, rfl⟩ := e1
      rw [List.append_nil] at er
      subst er
      have hDH : H D = none := by
        cases z : H D with
        | none => rfl
        | some o => exact absurd hD (st1.there D (by rw [z]; simp))
      exact k0 as' H' D (st1.trans st) hDH nDa ⟨accV, hDa, ra⟩ hS'
open Classical in
theorem pn_comp (ok : CxOk X sc κ Φ) {k : Sk} {tgs : List Nat} {mws : Env → Sto → R (List W)} {mcond : Env → Sto → R Bool} {melt : MW} (hi : PI X tg iter (rdI κ Wx k mws)) (blk : BlkOk X.N X.env.scope scope own) (hvs : own.map (·.2) = tgs) (hlt : ∀ i ∈ tgs, i < X.N.length)
    (hg : ∀ (s : Shared) (H : Hp) (C : Addr) (cl : List (Str × Addr)) (fp : List Addr), PG (X.blk s H scope (compEnvC scope cl C X.env) fp) tg (gT κ.K tgs))
    (ht : ∀ (s : Shared) (H : Hp) (C : Addr) (cl : List (Str × Addr)) (fp : List Addr), PTs (X.blk s H scope (compEnvC scope cl C X.env) fp) ifs (rdT κ WF mcond))
    (he : ∀ (s : Shared) (H : Hp) (C : Addr) (cl : List (Str × Addr)) (fp : List Addr), PE (X.blk s H scope (compEnvC scope cl C X.env) fp) elt (rdW κ WF melt))
    (hs : ∀ x, foldedSetIterable iter X.env x = pure x) :
    PE X (.ListComp elt [⟨tg, iter, ifs, 0⟩] scope pos) (rdN κ Wx fun ρ S => (mws ρ S).bind fun xs S1 => match srcD k xs S1 with
      | none => .bad
      | some ds => (lcGo (lcBody tgs mcond melt ρ) (srcG xs S1) ds S1).noexc.bind fun r S2 => .ok (.lst r) S2) := by
  have base := pe_lc (pos := pos) ok.calm ok.nd hi blk hg ht he hs
  exact ⟨fun pins s σ H Q I q => base.run pins s σ H Q I (lc_rd (I.len) hvs hlt q)⟩
end
end Ev
set_option maxHeartbeats 4000000
/-! Ev, part 10b: zip of lists, tuples, texts; enumerate of a list. -/
namespace Ev
open PySem PySem.Spec PyProof.Rows L2
/-- what zip walks -/
inductive Zi where
  | L (a : Addr) | T (a : Addr) | S (x : Str)
def Zi.val : Zi → V
  | .L a => .ref a
  | .T a => .ref a
  | .S x => .str x
def Zi.ads : Zi → List Addr
  | .L a => [a]
  | .T a => [a]
  | .S _ => []
def Zi.seq (K : PySem.W.Frag) (z : Zi) (H : Hp) (xs : List V) : Prop := match z with
  | .L a => SqL K H a xs
  | .T a => SqT K H a xs
  | .S x => xs = x.cps.toList.map fun c => .str ⟨#[c]⟩
def Zi.at (z : Zi) (h : Heap) (it i : Nat) : Prop := match z with
  | .L a => h.IsListIter it a i
  | .T a => h.IsTupleIter it a i
  | .S x => ∃ t, h.IsStrIter it (strIterType x) x t i
/-- the things walked, as they stand at each turn, the items in new pairs -/
def ItZ (K : PySem.W.Frag) (z1 z2 : Zi) : It :=
  ⟨fun i H => ∃ (xs ys : List V) (x y : V), z1.seq K H xs ∧ z2.seq K H ys ∧ xs[i]? = some x ∧ ys[i]? = some y,
    fun i H v H' => ∃ T x y, v = .ref T ∧ H T = none ∧ H' = upd H T (.tup [x, y]) ∧ (∀ xs, z1.seq K H xs → xs[i]? = some x) ∧ ∀ ys, z2.seq K H ys → ys[i]? = some y,
    fun i H => ∃ xs ys : List V, z1.seq K H xs ∧ z2.seq K H ys ∧ ((xs.length = i ∧ i ≤ ys.length) ∨ (ys.length = i ∧ i ≤ xs.length))⟩
section
variable {X : Cx} {pins : List (Addr × Obj)} {σ : L2.St} {H : Hp} {s : Shared}
theorem Zi.inj (I : Inv X pins σ H s) {z : Zi} {xs ys : List V} (h1 : z.seq X.K H xs) (h2 : z.seq X.K H ys) : xs = ys := by
  cases z with
  | L a => exact I.list_inj h1 h2
  | T a => exact I.tuple_inj h1 h2
  | S x => exact h1.trans h2.symm
theorem Zi.keep {z : Zi} {h h' : Heap} {it i : Nat} (st : z.at h it i) (k : ∀ o, h.get? it = some o → h'.get? it = some o) : z.at h' it i := by
  cases z with
  | L a => exact Heap.IsListIter.at st k
  | T a => exact Heap.IsTupleIter.at st k
  | S x => obtain ⟨t, o, ho, r⟩ := st; exact ⟨t, o, k o ho, r⟩
theorem Zi.obj {z : Zi} {h : Heap} {it i : Nat} (st : z.at h it i) : ∃ o, h.get? it = some o ∧ ∀ v, o.data ≠ .cell v := by
  cases z with
  | L a => obtain ⟨o, e, _, d⟩ := st; exact ⟨o, e, fun v q => by rw [d] at q; cases q⟩
  | T a => obtain ⟨o, e, _, d⟩ := st; exact ⟨o, e, fun v q => by rw [d] at q; cases q⟩
  | S x => obtain ⟨t, o, e, _, d⟩ := st; exact ⟨o, e, fun v q => by rw [d] at q; cases q⟩
/-- what an iterator of these draws -/
theorem Zi.draw (hh : X.A.in1.handled = none) (I : Inv X pins σ H s) {z : Zi} {xs : List V} {it i : Nat} (hs : z.seq X.K H xs) (st : z.at s.heap it i) (hne : it ∉ z.ads) :
    ∃ (P : Nat → Value → Prop) (St : Nat → Heap → Prop), Draws X.prog X.w X.A.in1 it (it :: z.ads) xs.length P St ∧ St i s.heap ∧ (∀ j u, P j u → ∃ x, xs[j]? = some x ∧ RelV x u) ∧ ∀ j h, St j h → z.at h it j := by
  cases z with
  | L a =>
    obtain ⟨its, rv, p, _⟩ := I.list hs
    have hl := rv.length
    have D := Draws.list (prog := X.prog) (w := X.w) (A := X.A.in1) hh it a (fun e => hne (by simp [Zi.ads, e])) its.toArray
    refine ⟨_, _, by rw [hl]; simpa [Zi.ads] using D, ⟨st, p.isList⟩, fun j u hu => ?_, fun j h (x : h.IsListIter it a j ∧ h.IsList a its.toArray) => x.1⟩
    have hu : its[j]? = some u := by simpa using hu
    have hj : j < its.length := (List.getElem?_eq_some_iff.mp hu).1
    have hx : xs[j]? = some xs[j] := List.getElem?_eq_getElem (by omega)
    obtain ⟨u', e1, e2⟩ := rv.get hx
    rw [hu] at e1
    cases e1
    exact ⟨_, hx, e2⟩
  | T a =>
    obtain ⟨its, rv, p, _⟩ := I.tuple hs
    have hl := rv.length
    have D := Draws.tuple (prog := X.prog) (w := X.w) (A := X.A.in1) hh it a (fun e => hne (by simp [Zi.ads, e])) its.toArray
    refine ⟨fun i v => its.toArray[i]? = some v, fun i h => h.IsTupleIter it a i ∧ h.IsTuple a its.toArray, by rw [hl]; simpa [Zi.ads] using D, ⟨st, show s.heap.IsTuple a its.toArray from p⟩, fun j u hu => ?_, fun j h x => x.1⟩
    have hu : its[j]? = some u := by simpa using hu
    have hj : j < its.length := (List.getElem?_eq_some_iff.mp hu).1
    have hx : xs[j]? = some xs[j] := List.getElem?_eq_getElem (by omega)
    obtain ⟨u', e1, e2⟩ := rv.get hx
    rw [hu] at e1
    cases e1
    exact ⟨_, hx, e2⟩
  | S x =>
    obtain ⟨t, st⟩ := st
    have hs : xs = _ := hs
    subst hs
    have D := Draws.text (prog := X.prog) (w := X.w) (A := X.A.in1) hh it x t
    refine ⟨fun i v => ∃ c u, x.cps[i]? = some c ∧ v = .str ⟨#[c]⟩ u, fun i h => h.IsStrIter it (strIterType x) x t i, by simpa [Zi.ads] using D, st, fun j u ⟨c, tk, e, hu⟩ => ?_, fun j h y => ⟨t, y⟩⟩
    subst hu
    have e' : x.cps.toList[j]? = some c := by simpa using e
    exact ⟨.str ⟨#[c]⟩, by rw [List.getElem?_map, e']; rfl, tk, rfl⟩
end
theorem nea {a b : Nat} (h : a < b ∨ b < a) : a ≠ b := by omega
abbrev znT (z1 z2 : Zi) (n : Nat) (i : Nat) (h : Heap) : Prop := IsZip h (n + 4) (n + 2) (n + 3) .none ∧ IsPair h (n + 2) (.ref n) (.ref (n + 1)) ∧ (∃ x y, IsPair h (n + 3) x y) ∧ z1.at h n i ∧ z2.at h (n + 1) i
theorem zsep {z1 z2 : Zi} {n : Nat} (l1 : ∀ a ∈ z1.ads, a < n) (l2 : ∀ a ∈ z2.ads, a < n) : ZipSep2 (n + 4) (n + 2) (n + 3) n (n + 1) (n :: z1.ads) ((n + 1) :: z2.ads) := by
  have k1 : ∀ {j}, n ≤ j → j ∉ z1.ads := fun hj h => absurd hj (Nat.not_le_of_gt (l1 _ h))
  have k2 : ∀ {j}, n ≤ j → j ∉ z2.ads := fun hj h => absurd hj (Nat.not_le_of_gt (l2 _ h))
  constructor <;> simp <;> first | omega | exact k1 (by omega) | exact k2 (by omega) | exact ⟨nea (by omega), k1 (by omega)⟩ | exact ⟨nea (by omega), k2 (by omega)⟩ | exact nea (by omega)
theorem turn_zipZ {P : Program} {w : World} {K : PySem.W.Frag} {elts : List Expr} {kk : Nat} {tpos : Pos} {z1 z2 : Zi} {n : Nat} (l1 : ∀ a ∈ z1.ads, a < n) (l2 : ∀ a ∈ z2.ads, a < n) :
    Turn P w K (.Tuple elts kk tpos) (ItZ K z1 z2) [n + 4, n + 2, n + 3, n, n + 1] (n + 4) (znT z1 z2 n) where
  mem := by simp
  obj := fun i h st c hc => by
    obtain ⟨hz, hTI, ⟨x, y, hTO⟩, h1, h2⟩ := st
    have e' : c = n + 4 ∨ c = n + 2 ∨ c = n + 3 ∨ c = n ∨ c = n + 1 := by simpa using hc
    rcases e' with q | q | q | q | q
    · rw [q]; exact ⟨_, hz, fun v q => nomatch q⟩
    · rw [q]; exact ⟨_, hTI, fun v q => nomatch q⟩
    · rw [q]; exact ⟨_, hTO, fun v q => nomatch q⟩
    · rw [q]; exact Zi.obj (z := z1) h1
    · rw [q]; exact Zi.obj (z := z2) h2
  keep := fun i h h' st k => by
    obtain ⟨hz, hTI, ⟨x, y, hTO⟩, h1, h2⟩ := st
    exact ⟨k _ (by simp) _ hz, k _ (by simp) _ hTI, ⟨x, y, k _ (by simp) _ hTO⟩, Zi.keep (z := z1) h1 fun o q => k n (by simp) o q, Zi.keep (z := z2) h2 fun o q => k (n + 1) (by simp) o q⟩
  item := by
    intro X hP hw hK hc i pins s σ H E I hf st hg
    subst hP hw hK
    obtain ⟨hz, hTI, ⟨x0, y0, hTO⟩, h1, h2⟩ := st
    obtain ⟨xs, ys, x, y, hqx, hqy, hx, hy⟩ := hg
    have hh : X.A.in1.handled = none := I.ok.hd hc
    obtain ⟨P1, St1, D1, st1, r1, b1⟩ := Zi.draw hh I hqx h1 (fun h => Nat.lt_irrefl _ (l1 _ h))
    obtain ⟨P2, St2, D2, st2, r2, b2⟩ := Zi.draw hh I hqy h2 (fun h => Nat.not_le_of_gt (l2 _ h) (Nat.le_succ _))
    have S := zsep (z1 := z1) (z2 := z2) l1 l2
    have hzl : @LT.lt Nat _ (n + 4) s.heap.objs.size := Heap.lt_size hz
    refine wpAny_pyNext_zipD2_item S D1 D2 hz hTI hTO st1 st2 (List.getElem?_eq_some_iff.mp hx).1 (List.getElem?_eq_some_iff.mp hy).1 fun u u2 h' tk p1 p2 z' TO' h1' h2' hT hsz hk => ?_
    obtain ⟨x', ex, ru⟩ := r1 _ _ p1
    rw [hx] at ex
    cases ex
    obtain ⟨y', ey, ru2⟩ := r2 _ _ p2
    rw [hy] at ey
    cases ey
    refine ⟨_, rfl, wpAny_letOwnedTupleGo_zip (s := { s with heap := h', toks := tk }) z' fun h'' z'' sb => ?_⟩
    have hT2 : h''.get? s.heap.objs.size = some { cls := .type "tuple", data := .seq #[u, u2] } := (sb.2 _ (nea (by omega))).trans hT
    have new : ObjOk X.prog X.w (upd H s.heap.objs.size (.tup [x, y])) h'' s.heap.objs.size (.tup [x, y]) :=
      ⟨by show 2 ≤ sizeLine; decide, [u, u2], .cons ru (.cons ru2 .nil), ⟨_, hT2, rfl, _, rfl⟩⟩
    have I1 : Inv X pins σ (upd H s.heap.objs.size (.tup [x, y])) { s with heap := h'', toks := tk } :=
      I.turnedNew (t' := tk) (ch := [n + 4, n + 2, n + 3, n, n + 1]) (fun c o hb q => (sb.2 c (fun q' => hb (by simp [q']))).trans (hk c o (fun q' => hb (by simp [q'])) (fun q' => hb (by simp [q'])) (fun q' => hb (by simp [q'])) (fun q' => hb (by simp [q'])) q)) hf (Nat.le_refl _) new
    refine ⟨.ref s.heap.objs.size, _, I1, rfl, ⟨_, x, y, rfl, I.hok.fresh (Nat.le_refl _), rfl, fun l hl => by rw [Zi.inj I hl hqx]; exact hx, fun l hl => by rw [Zi.inj I hl hqy]; exact hy⟩, ⟨z'', ?_, ⟨u, u2, ?_⟩, ?_, ?_⟩, fun c hcm => ?_⟩
    · exact (sb.2 _ (nea (by omega))).trans (hk _ _ (nea (by omega)) (nea (by omega)) (nea (by omega)) (nea (by omega)) hTI)
    · exact (sb.2 _ (nea (by omega))).trans TO'
    · exact Zi.keep (z := z1) (b1 _ _ h1') fun o q => (sb.2 _ (nea (by omega))).trans q
    · exact Zi.keep (z := z2) (b2 _ _ h2') fun o q => (sb.2 _ (nea (by omega))).trans q
    · have hlt : c < s.heap.objs.size := by
        have e' : @Eq Nat c (n + 4) ∨ @Eq Nat c (n + 2) ∨ @Eq Nat c (n + 3) ∨ @Eq Nat c n ∨ @Eq Nat c (n + 1) := by simpa using hcm
        show @LT.lt Nat _ c _
        omega
      rw [upd_ne (Nat.ne_of_lt hlt)]
      exact (hf c hcm).1
  done := by
    intro X hP hw hK hc i pins s σ H E I hf st hg
    subst hP hw hK
    obtain ⟨hz, hTI, ⟨x0, y0, hTO⟩, h1, h2⟩ := st
    obtain ⟨xs, ys, hqx, hqy, hend⟩ := hg
    have hh : X.A.in1.handled = none := I.ok.hd hc
    obtain ⟨P1, St1, D1, st1, r1, b1⟩ := Zi.draw hh I hqx h1 (fun h => Nat.lt_irrefl _ (l1 _ h))
    obtain ⟨P2, St2, D2, st2, r2, b2⟩ := Zi.draw hh I hqy h2 (fun h => Nat.not_le_of_gt (l2 _ h) (Nat.le_succ _))
    have S := zsep (z1 := z1) (z2 := z2) l1 l2
    exact wpAny_pyNext_zipD2_end S D1 D2 hz hTI hTO st1 st2 (by rcases hend with ⟨a, b⟩ | ⟨a, b⟩ <;> omega) (by rcases hend with ⟨a, b⟩ | ⟨a, b⟩ <;> omega) (by rcases hend with ⟨a, b⟩ | ⟨a, b⟩ <;> simp [a]) fun h' tk hk => ⟨rfl, I.turnedL (t' := tk) (ch := [n + 4, n + 2, n + 3, n, n + 1]) (fun c o hb q =>
      hk c o (fun q' => hb (by simp [q'])) (fun q' => hb (by simp [q'])) (fun q' => hb (by simp [q'])) (fun q' => hb (by simp [q'])) q) hf⟩
  self := fun A i s Q E st h => wpAny_pyIter_zip st.1 h
/-- how the walk of each begins -/
def Zi.new (z : Zi) (u : Value) : Obj := match z with
  | .L a => { cls := .type "list_iterator", data := .fields #[.ref a, .int 0 0] }
  | .T a => { cls := .type "tuple_iterator", data := .fields #[.ref a, .int 0 0] }
  | .S x => { cls := .type (strIterType x), data := .fields #[u, .int 0 0] }
theorem Zi.begins {X : Cx} {pins : List (Addr × Obj)} {σ : L2.St} {H : Hp} {s : Shared} (I : Inv X pins σ H s) {z : Zi} {xs : List V} {u : Value} (hs : z.seq X.K H xs) (hu : RelV z.val u) :
    ∃ Hh, Begins u (z.new u) Hh ∧ Hh s.heap ∧ (∀ a ∈ z.ads, a < s.heap.objs.size) ∧ ∀ (h : Heap) it, h.get? it = some (z.new u) → z.at h it 0 := by
  cases z with
  | L a =>
    obtain rfl : u = .ref a := hu
    obtain ⟨its, rv, p, _⟩ := I.list hs
    refine ⟨_, begins_list a its.toArray, p.isList, fun b hb => ?_, fun h it e => ⟨_, e, rfl, rfl⟩⟩
    rw [List.mem_singleton.mp hb]
    exact p.lt
  | T a =>
    obtain rfl : u = .ref a := hu
    obtain ⟨its, rv, p, _⟩ := I.tuple hs
    refine ⟨_, begins_tuple a its.toArray, show s.heap.IsTuple a its.toArray from p, fun b hb => ?_, fun h it e => ⟨_, e, rfl, rfl⟩⟩
    rw [List.mem_singleton.mp hb]
    obtain ⟨o, ho, _⟩ := id p
    exact Heap.lt_size ho
  | S x =>
    obtain ⟨t, rfl⟩ := hu
    exact ⟨_, begins_text x t, trivial, fun b hb => by simp [Zi.ads] at hb, fun h it e => ⟨t, _, e, rfl, rfl⟩⟩
def iZipZ (K : PySem.W.Frag) (ta : TA) : TI := fun σ H R => ta σ H fun vs H1 => ∃ z1 z2 xs ys, vs = [Zi.val z1, Zi.val z2] ∧ z1.seq K H1 xs ∧ z2.seq K H1 ys ∧ (((∀ x, z1 ≠ .S x) → xs.length ≤ sizeLine) → R (ItZ K z1 z2) H1)
theorem pi_zipZ {X : Cx} {e e2 : Expr} {ta : TA} {p pos tpos : Pos} {elts : List Expr} {kk : Nat} (hg : Gl X "zip") (hm : X.mg "zip" = none) (ha : PA X [e, e2] ta)
    (hs : starEach [e, e2] X.env = (false, eval e X.env) :: starEach [e2] X.env := by rfl) (hpl : (backTo pos (starEach [e2] X.env)).any (·.1) = false := by rfl) :
    PI X (.Tuple elts kk tpos) (.Call (.Name "zip" p) [e, e2] [] pos) (iZipZ X.K ta) := by
  refine ⟨fun pins s σ H R I h => ?_⟩
  refine Call_ (ld_blt I hg hm PyProof.Rows.boot_zip (PyProof.Rows.callWith_type1 (thn (ha.run pos pins s σ H _ I h) fun us s1 ⟨vs, H1, I1, r1, q1⟩ => ?_) hs hpl))
  obtain ⟨z1, z2, xs, ys, ex, hq1, hq2, q⟩ := q1
  subst ex
  cases r1 with
  | cons r rr =>
    cases rr with
    | cons r' rr =>
      cases rr
      obtain ⟨Ha, B1, ha1, l1, n1⟩ := Zi.begins I1 hq1 r
      obtain ⟨Hb, B2, hb1, l2, n2⟩ := Zi.begins I1 hq2 r'
      refine zip_begins2 B1 B2 ha1 hb1 fun h' hz hTI hTO g1 g2 hsz hk => wpAny_pyIter_zip hz ?_
      have I2 : Inv X pins σ H1 { s1 with heap := h' } := I1.kept (t' := s1.toks) hk
      refine ⟨s1.heap.objs.size + 4, [s1.heap.objs.size + 4, s1.heap.objs.size + 2, s1.heap.objs.size + 3, s1.heap.objs.size, s1.heap.objs.size + 1], _, _, H1, rfl, I2, turn_zipZ l1 l2, ⟨hz, hTI, ⟨_, _, hTO⟩, n1 _ _ g1, n2 _ _ g2⟩, fun c hcm => ?_, q fun hz1 => ?_⟩
      rotate_left
      · cases z1 with
        | L a => exact lenL I1 hq1
        | T a => exact lenT I1 hq1
        | S x => exact absurd rfl (hz1 x)
      have e' : @Eq Nat c (s1.heap.objs.size + 4) ∨ @Eq Nat c (s1.heap.objs.size + 2) ∨ @Eq Nat c (s1.heap.objs.size + 3) ∨ @Eq Nat c s1.heap.objs.size ∨ @Eq Nat c (s1.heap.objs.size + 1) := by simpa using hcm
      have hle : @LE.le Nat _ s1.heap.objs.size c := by omega
      exact I1.fpOk hle (I1.hok.fresh hle)
section
variable {X : Cx} {sc : SC} {κ : Kx} {Φ : Fn} {Wx : L2.WX} {pos : Pos}
theorem zi_of {as : List Addr} {H : Hp} {w : W} {v : V} {xs : List D} (r : IsE κ as H w v) (e : zipI w = some xs) : ∃ z : Zi, v = z.val ∧ ((∃ x, z = .S x) → xs.length ≤ sizeLine) ∧ ∃ ad : List Addr, (∀ a ∈ ad, a ∉ as ∧ H a ≠ none) ∧ ((∃ d, w = .d d) → ad = []) ∧
    ∀ as' H', Pre as as' → Imm H H' → (∀ a ∈ ad, H' a = H a) → ∃ vs, z.seq κ.K H' vs ∧ IsDs κ as' H' xs vs := by
  cases w with
  | own c =>
    obtain ⟨l, rfl, nl, rc⟩ := r
    cases c with
    | lst ys =>
      have e2 : ys = xs := by injection e
      subst e2
      obtain ⟨vs, h1, h2⟩ := rc
      refine ⟨.L l, rfl, fun ⟨_, q⟩ => (by cases q), [l], fun a ha => ?_, fun ⟨d, z⟩ => (by cases z), fun as' H' pr im kp => ⟨vs, .inl (.inl ((kp l List.mem_cons_self).trans h1)), h2.mono pr im⟩⟩
      rw [List.mem_singleton.mp ha]
      exact ⟨nl, by rw [h1]; simp⟩
    | _ => cases e
  | d x0 =>
    have rD : IsD κ as H x0 v := r
    cases x0 with
    | lst ys =>
      have e2 : ys = xs := by injection e
      subst e2
      obtain ⟨l, vs, rfl, h1, h2⟩ := rD
      exact ⟨.L l, rfl, fun ⟨_, q⟩ => (by cases q), [], by simp, fun _ => rfl, fun as' H' pr im kp => ⟨vs, .inl (im.frz h1).rd, h2.mono pr im⟩⟩
    | tup ys =>
      have e2 : ys = xs := by injection e
      subst e2
      obtain ⟨l, vs, rfl, h1, h2⟩ := rD
      exact ⟨.T l, rfl, fun ⟨_, q⟩ => (by cases q), [], by simp, fun _ => rfl, fun as' H' pr im kp => ⟨vs, im.sqT h1, h2.mono pr im⟩⟩
    | str z =>
      have e2 : (z.map fun c => D.str [c]) = xs := by injection e
      subst e2
      obtain ⟨rfl, hz⟩ := rD
      refine ⟨.S (tx z), rfl, fun _ => by rw [List.length_map]; exact szOk_of hz, [], by simp, fun _ => rfl, fun as' H' pr im kp => ⟨_, rfl, ?_⟩⟩
      have go : ∀ z : Nm, (∀ c ∈ z, True) → IsDs κ as' H' (z.map fun c => D.str [c]) (z.map fun c => V.str ⟨#[c]⟩) := fun z => by
        induction z with
        | nil => intro _; trivial
        | cons c z ih => intro h; exact ⟨⟨rfl, rfl⟩, ih fun _ _ => trivial⟩
      have := go z fun _ _ => trivial
      simpa [tx] using this
    | _ => cases e
theorem pi_zip (ok : CxOk X sc κ Φ) {e e2 : Expr} {p tpos : Pos} {elts : List Expr} {kk : Nat} {ms : Env → Sto → R (List W)} (hg : glB sc "zip" = true) (he : nostar e = true) (he2 : nostar e2 = true) (ha : PA X [e, e2] (rdWs κ Wx ms)) (h1 : ∀ ρ S ws S', ms ρ S = .ok ws S' → ws.length = 2) :
    PI X (.Tuple elts kk tpos) (.Call (.Name "zip" p) [e, e2] [] pos) (rdI κ Wx .zip ms) := by
  have := pi_zipZ (elts := elts) (kk := kk) (tpos := tpos) (p := p) (pos := pos) (ok.gl hg) (ok.blt "zip" (by decide)) ha (star_cons he) (by rw [star_cons he2]; rfl)
  refine ⟨fun pins s σ H Rr I ⟨as, H0, ρ, S, rs, hS, w⟩ => this.run pins s σ H Rr I ?_⟩
  have w0 : Out (ms ρ S) (fun ws S1 => ws.length = 2 ∧ ∃ ds, srcD .zip ws S1 = some ds ∧ ∀ as1 H1 J, Step as H as1 H1 → RepS κ as1 H1 S1 → ItsOk κ J as1 H1 ws S1 ds → Rr J H1) (kX κ as H σ Wx) := by
    cases q : ms ρ S with
    | ok ds S' => rw [q] at w; exact ⟨h1 ρ S ds S' q, w⟩
    | exc e S' => rw [q] at w; exact w
    | bad => rw [q] at w; exact w
  refine rdWs.mk rs hS w0 fun ws S1 as1 H1 vs ⟨hl, ds, e, k⟩ st1 r1 hS1 => ?_
  match ws, hl with
  | [w, w'], _ =>
    cases vs with
    | nil => exact r1.elim
    | cons v vs =>
      cases vs with
      | nil => exact r1.2.elim
      | cons v' vs => cases vs with
        | cons _ _ => exact r1.2.2.elim
        | nil =>
          have e' : ((zipI w).bind fun xs => (zipI w').map fun ys => List.zipWith (fun a b => D.tup [a, b]) xs ys) = some ds := e
          cases q1 : zipI w with
          | none => rw [q1] at e'; cases e'
          | some xs =>
            cases q2 : zipI w' with
            | none => rw [q1, q2] at e'; cases e'
            | some ys =>
              rw [q1, q2] at e'
              have e' : List.zipWith (fun a b => D.tup [a, b]) xs ys = ds := by injection e'
              subst e'
              obtain ⟨z1, rfl, b1, ad1, n1, o1, g1⟩ := zi_of r1.1 q1
              obtain ⟨z2, rfl, b2, ad2, n2, o2, g2⟩ := zi_of r1.2.1 q2
              obtain ⟨us, hs1, hd1⟩ := g1 as1 H1 (fun _ _ h => h) Imm.refl fun _ _ => rfl
              obtain ⟨ts, hs2, hd2⟩ := g2 as1 H1 (fun _ _ h => h) Imm.refl fun _ _ => rfl
              rw [ok.hκ] at hs1 hs2
              refine ⟨z1, z2, us, ts, rfl, hs1, hs2, fun hb => k as1 H1 _ st1 hS1 ?_⟩
              have hlen : xs.length ≤ sizeLine := by
                cases z1 with
                | L a => rw [hd1.length]; exact hb fun x h => by cases h
                | T a => rw [hd1.length]; exact hb fun x h => by cases h
                | S x => exact b1 ⟨x, rfl⟩
              refine ⟨by rw [List.length_zipWith]; omega, ad1 ++ ad2, fun a ha => (List.mem_append.mp ha).elim (n1 a) (n2 a), fun h => by rw [o1 (h w (by simp)), o2 (h w' (by simp))]; rfl, fun as' H' S' pr im kp hS' g => ?_⟩
              obtain ⟨us, hs1, hd1⟩ := g1 as' H' pr im fun a ha => kp a (List.mem_append_left _ ha)
              obtain ⟨ts, hs2, hd2⟩ := g2 as' H' pr im fun a ha => kp a (List.mem_append_right _ ha)
              rw [ok.hκ] at hs1 hs2
              have l1 := hd1.length
              have l2 := hd2.length
              refine ⟨fun i hi => ?_, ⟨us, ts, hs1, hs2, by rw [List.length_zipWith]; omega⟩, fun i x H'' d y e => ?_⟩
              · rw [List.length_zipWith] at hi
                exact ⟨us, ts, us[i]'(by omega), ts[i]'(by omega), hs1, hs2, List.getElem?_eq_getElem _, List.getElem?_eq_getElem _⟩
              · obtain ⟨T, a, b, rfl, hT, rfl, f1, f2⟩ := y
                have i1 := f1 us hs1
                have i2 := f2 ts hs2
                rw [List.getElem?_zipWith] at e
                cases p1 : xs[i]? with
                | none => rw [p1] at e; cases e
                | some c =>
                  cases p2 : ys[i]? with
                  | none => rw [p1, p2] at e; cases e
                  | some c' =>
                    rw [p1, p2] at e
                    have e : D.tup [c, c'] = d := by injection e
                    subst e
                    obtain ⟨v1, e1, e2⟩ := hd1.get p1
                    obtain ⟨v2, e3, e4⟩ := hd2.get p2
                    rw [i1] at e1
                    cases e1
                    rw [i2] at e3
                    cases e3
                    have im2 : Imm H' (upd H' T (.tup [a, b])) := Imm.new hT
                    exact ⟨⟨T, [a, b], rfl, .inl (.inl upd_same), mono_at (fun _ _ h => h) im2 e2, mono_at (fun _ _ h => h) im2 e4, trivial⟩, Step.new hT, RepS.new hT hS'⟩
theorem li_of {as : List Addr} {H : Hp} {w : W} {v : V} {xs : List D} (r : IsE κ as H w v) (e : enumI w = some xs) : ∃ l : Addr, v = .ref l ∧ ∃ ad : List Addr, (∀ a ∈ ad, a ∉ as ∧ H a ≠ none) ∧ ((∃ d, w = .d d) → ad = []) ∧
    ∀ as' H', Pre as as' → Imm H H' → (∀ a ∈ ad, H' a = H a) → ∃ vs, SqL κ.K H' l vs ∧ IsDs κ as' H' xs vs := by
  cases w with
  | own c =>
    obtain ⟨l, rfl, nl, rc⟩ := r
    cases c with
    | lst ys =>
      have e2 : ys = xs := by injection e
      subst e2
      obtain ⟨vs, h1, h2⟩ := rc
      refine ⟨l, rfl, [l], fun a ha => ?_, fun ⟨d, z⟩ => (by cases z), fun as' H' pr im kp => ⟨vs, .inl (.inl ((kp l List.mem_cons_self).trans h1)), h2.mono pr im⟩⟩
      rw [List.mem_singleton.mp ha]
      exact ⟨nl, by rw [h1]; simp⟩
    | _ => cases e
  | d x0 =>
    have rD : IsD κ as H x0 v := r
    cases x0 with
    | lst ys =>
      have e2 : ys = xs := by injection e
      subst e2
      obtain ⟨l, vs, rfl, h1, h2⟩ := rD
      exact ⟨l, rfl, [], by simp, fun _ => rfl, fun as' H' pr im kp => ⟨vs, .inl (im.frz h1).rd, h2.mono pr im⟩⟩
    | _ => cases e
def iEnumL (K : PySem.W.Frag) (ta : TA) : TI := fun σ H R => ta σ H fun vs H1 => ∃ a xs, vs = [.ref a] ∧ SqL K H1 a xs ∧ (xs.length ≤ sizeLine → R (Ite K a) H1)
theorem pi_enumL {X : Cx} {e : Expr} {ta : TA} {p pos tpos : Pos} {elts : List Expr} {kk : Nat} (hg : Gl X "enumerate") (hm : X.mg "enumerate" = none) (ha : PA X [e] ta) (hs : starEach [e] X.env = [(false, eval e X.env)] := by rfl) :
    PI X (.Tuple elts kk tpos) (.Call (.Name "enumerate" p) [e] [] pos) (iEnumL X.K ta) := by
  refine ⟨fun pins s σ H R I h => ?_⟩
  refine Call_ (ld_blt I hg hm boot_enumerate (PyProof.Rows.callWith_type1 (thn (ha.run pos pins s σ H _ I h) fun us s1 ⟨vs, H1, I1, r1, q1⟩ => ?_) hs rfl))
  obtain ⟨a, xs, ex, hq, q⟩ := q1
  subst ex
  cases r1 with
  | cons r rr =>
    cases rr
    cases r
    obtain ⟨its, rv, p', hz⟩ := I1.list hq
    refine call_enumerate_list p'.isList fun h' he hit hsz hk => wpAny_pyIter_enum he ?_
    have I2 : Inv X pins σ H1 { s1 with heap := h' } := I1.kept (t' := s1.toks) hk
    refine ⟨s1.heap.objs.size + 1, [s1.heap.objs.size + 1, s1.heap.objs.size], _, _, H1, rfl, I2, turn_enum a (s1.heap.objs.size + 1) s1.heap.objs.size, ⟨⟨.none, he⟩, hit, Nat.succ_ne_self _⟩, fun b hb => ?_, q (lenL I1 hq)⟩
    have e' : b = s1.heap.objs.size + 1 ∨ b = s1.heap.objs.size := by simpa using hb
    have hle : s1.heap.objs.size ≤ b := by
      rcases e' with z | z
      · rw [z]; exact Nat.le_add_right _ _
      · rw [z]; exact Nat.le_refl _
    exact I1.fpOk hle (I1.hok.fresh hle)
theorem pi_enumE (ok : CxOk X sc κ Φ) {e : Expr} {p tpos : Pos} {elts : List Expr} {kk : Nat} {ms : Env → Sto → R (List W)} (hg : glB sc "enumerate" = true) (he : nostar e = true) (ha : PA X [e] (rdWs κ Wx ms)) (h1 : ∀ ρ S ws S', ms ρ S = .ok ws S' → ws.length = 1) :
    PI X (.Tuple elts kk tpos) (.Call (.Name "enumerate" p) [e] [] pos) (rdI κ Wx .enum ms) := by
  have := pi_enumL (elts := elts) (kk := kk) (tpos := tpos) (p := p) (pos := pos) (ok.gl hg) (ok.blt "enumerate" (by decide)) ha (star_cons he)
  refine ⟨fun pins s σ H Rr I ⟨as, H0, ρ, S, rs, hS, w⟩ => this.run pins s σ H Rr I ?_⟩
  have w0 : Out (ms ρ S) (fun ws S1 => ws.length = 1 ∧ ∃ ds, srcD .enum ws S1 = some ds ∧ ∀ as1 H1 J, Step as H as1 H1 → RepS κ as1 H1 S1 → ItsOk κ J as1 H1 ws S1 ds → Rr J H1) (kX κ as H σ Wx) := by
    cases q : ms ρ S with
    | ok ds S' => rw [q] at w; exact ⟨h1 ρ S ds S' q, w⟩
    | exc e S' => rw [q] at w; exact w
    | bad => rw [q] at w; exact w
  refine rdWs.mk rs hS w0 fun ws S1 as1 H1 vs ⟨hl, ds, e, k⟩ st1 r1 hS1 => ?_
  match ws, hl with
  | [w], _ =>
    cases vs with
    | nil => exact r1.elim
    | cons v vs =>
      cases vs with
      | cons _ _ => exact r1.2.elim
      | nil =>
        have e' : ((enumI w).map fun xs => xs.zipIdx.map fun p => D.tup [.int p.2, p.1]) = some ds := e
        cases q1 : enumI w with
        | none => rw [q1] at e'; cases e'
        | some xs =>
          rw [q1] at e'
          have e' : (xs.zipIdx.map fun p => D.tup [.int p.2, p.1]) = ds := by injection e'
          subst e'
          obtain ⟨a, rfl, ad1, n1, o1, g1⟩ := li_of r1.1 q1
          obtain ⟨us, hs1, hd1⟩ := g1 as1 H1 (fun _ _ h => h) Imm.refl fun _ _ => rfl
          rw [ok.hκ] at hs1
          refine ⟨a, us, rfl, hs1, fun hb => k as1 H1 _ st1 hS1 ?_⟩
          refine ⟨by rw [List.length_map, List.length_zipIdx, hd1.length]; exact hb, ad1, n1, fun h => o1 (h w (by simp)), fun as' H' S' pr im kp hS' g => ?_⟩
          obtain ⟨us, hs1, hd1⟩ := g1 as' H' pr im kp
          rw [ok.hκ] at hs1
          have l1 := hd1.length
          refine ⟨fun i hi => ?_, ⟨us, hs1, by rw [List.length_map, List.length_zipIdx]; omega⟩, fun i x H'' d y e => ?_⟩
          · rw [List.length_map, List.length_zipIdx] at hi
            exact ⟨us, us[i]'(by omega), hs1, List.getElem?_eq_getElem _⟩
          · obtain ⟨T, a, rfl, hT, rfl, f1⟩ := y
            have i1 := f1 us hs1
            rw [List.getElem?_map, List.getElem?_zipIdx] at e
            cases p1 : xs[i]? with
            | none => rw [p1] at e; cases e
            | some c =>
              rw [p1] at e
              have e : D.tup [.int ((0 + i : Nat) : Int), c] = d := by injection e
              subst e
              obtain ⟨v1, e1, e2⟩ := hd1.get p1
              rw [i1] at e1
              cases e1
              have im2 : Imm H' (upd H' T (.tup [.int (i : Nat), a])) := Imm.new hT
              exact ⟨⟨T, [.int (i : Nat), a], rfl, .inl (.inl upd_same), (by rw [Nat.zero_add]; exact rfl), mono_at (fun _ _ h => h) im2 e2, trivial⟩, Step.new hT, RepS.new hT hS'⟩
end
end Ev
set_option maxHeartbeats 2000000
/-! Ev, part 12: changes. -/
namespace Ev
open PySem PySem.Spec PyProof.Rows L2
theorem hasK_eq {κ : Kx} {as : List Addr} {H : Hp} {q : Ky} : ∀ {kvs : List (Ky × D)} {kws : List (L2.Key × V)}, IsKs κ as H kvs kws → hasK kvs q = kws.any fun kv => decide (kv.1 = kx q)
  | [], [], _ => rfl
  | [], _ :: _, h => h.elim
  | (k, d) :: r, (q', v) :: r', h => by
    obtain ⟨⟨e, _⟩, hv, hr⟩ := h
    have ih := hasK_eq (q := q) hr
    unfold hasK at ih ⊢
    rw [List.any_cons, List.any_cons, ih]
    congr 1
    rw [e]
    by_cases z : k = q
    · rw [z]; simp
    · rw [decide_eq_false z, decide_eq_false fun w => z (kx_inj w)]
  | _ :: _, [], h => h.elim
theorem ks_app {κ : Kx} {as : List Addr} {H : Hp} : ∀ {a b : List (Ky × D)} {x y : List (L2.Key × V)}, IsKs κ as H a x → IsKs κ as H b y → IsKs κ as H (a ++ b) (x ++ y)
  | [], _, [], _, _, h => h
  | [], _, _ :: _, _, h, _ => h.elim
  | (_, _) :: _, _, (_, _) :: _, _, h, h' => ⟨h.1, h.2.1, ks_app h.2.2 h'⟩
  | _ :: _, _, [], _, h, _ => h.elim
theorem ks_put {κ : Kx} {as : List Addr} {H : Hp} {q : Ky} {d : D} {v : V} (hq : kyOk q = true) (hd : IsD κ as H d v) {kvs : List (Ky × D)} {kws : List (L2.Key × V)} (h : IsKs κ as H kvs kws) : IsKs κ as H (putK kvs q d) (L2.putK kws (kx q) v) := by
  unfold putK L2.putK
  rw [← hasK_eq h]
  by_cases z : hasK kvs q = true
  · rw [if_pos z, if_pos z]
    clear z
    induction kvs generalizing kws with
    | nil => cases kws with
      | nil => exact True.intro
      | cons _ _ => exact h.elim
    | cons p r ih =>
      obtain ⟨k, d'⟩ := p
      cases kws with
      | nil => exact h.elim
      | cons p' r' =>
        obtain ⟨q', v'⟩ := p'
        obtain ⟨⟨e, o⟩, hv, hr⟩ := h
        by_cases y : k = q
        · rw [List.map_cons, List.map_cons, if_pos y, if_pos (show q' = kx q by rw [e, y])]
          exact ⟨⟨e, o⟩, hd, ih hr⟩
        · rw [List.map_cons, List.map_cons, if_neg y, if_neg (show ¬ q' = kx q from fun w => y (kx_inj (by rw [← e]; exact w)))]
          exact ⟨⟨e, o⟩, hv, ih hr⟩
  · rw [if_neg z, if_neg z]
    exact ks_app h ⟨⟨rfl, hq⟩, hd, True.intro⟩
theorem ks_del {κ : Kx} {as : List Addr} {H : Hp} {q : Ky} {kvs : List (Ky × D)} {kws : List (L2.Key × V)} (h : IsKs κ as H kvs kws) : IsKs κ as H (delK kvs q) (L2.dropK kws (kx q)) := by
  unfold delK L2.dropK
  induction kvs generalizing kws with
  | nil => cases kws with
    | nil => exact True.intro
    | cons _ _ => exact h.elim
  | cons p r ih =>
    obtain ⟨k, d'⟩ := p
    cases kws with
    | nil => exact h.elim
    | cons p' r' =>
      obtain ⟨q', v'⟩ := p'
      obtain ⟨⟨e, o⟩, hv, hr⟩ := h
      by_cases y : k = q
      · rw [List.filter_cons, List.filter_cons, if_neg (by simp [y]), if_neg (by simp [e, y])]
        exact ih hr
      · rw [List.filter_cons, List.filter_cons, if_pos (by simp [y]), if_pos (by simp only [decide_eq_true_eq]; exact fun w => y (kx_inj (by rw [← e]; exact w)))]
        exact ⟨⟨e, o⟩, hv, ih hr⟩
section
variable {X : Cx} {κ : Kx}
theorem placeI_eq (n : Nat) (i : Int) : placeI n i = ixN n i := by
  unfold placeI ixN
  by_cases h : 0 ≤ i
  · rw [if_pos h, if_pos h]
    by_cases h2 : i < n
    · rw [if_pos h2, if_pos (by omega)]
    · rw [if_neg h2, if_neg (by omega)]
  · rw [if_neg h, if_neg h]
    by_cases h2 : 0 ≤ i + n
    · rw [if_pos h2, if_pos (by omega)]
    · rw [if_neg h2, if_neg (by omega)]
/-- a thing at a is changed: what is wanted then -/
def kMu (κ : Kx) (as : List Addr) (H : Hp) (a : Addr) (c' : Cell) (N : Hp → Prop) : Prop := ∀ o, RepC κ as (upd H a o) a c' → N (upd H a o)
def rSetM (κ : Kx) : TSet := fun o i v H N => ∃ as a c c' dk d u, o = .ref a ∧ RepC κ as H a c ∧ IsD κ as H dk i ∧ IsD κ as H d v ∧ mutC .set c [dk, d] = some (c', u) ∧ kMu κ as H a c' N
theorem set_any (hu : X.A.units + 1 < cLine) : PSet X (rSetM κ) := by
  intro pins s σ H o i v ov iv u Q I ro ri rv h
  obtain ⟨as, a, c, c', dk, d, u', rfl, rc, rk, rd, e, k⟩ := h
  cases c with
  | lst ds =>
    obtain ⟨vs, h1, h2⟩ := rc
    cases dk with
    | int j =>
      have e' : (placeI ds.length j).map (fun n => ((.lst (ds.set n d) : Cell), D.non)) = some (c', u') := e
      obtain ⟨n, en, e2⟩ := Option.map_eq_some_iff.mp e'
      cases e2
      refine set_list pins s σ H (.ref a) i v ov iv u Q I ro ri rv ⟨a, vs, j, n, rfl, rk, h1, by rw [← placeI_eq, ← h2.length]; exact en, k _ ⟨_, upd_same, ?_⟩⟩
      exact (IsDs.set rd n h2).mono (fun _ _ h => h) (Imm.write h1 fun z => z)
    | _ => cases e
  | dct kvs =>
    obtain ⟨kws, h1, h2⟩ := rc
    have go : ∀ q : Ky, kyOk q = true → i = kV (kx q) → (if szOk (kvs.length + 1) = true then some (Cell.dct (putK kvs q d), D.non) else none) = some (c', u') → wpAny (model X.prog X.w) X.A (setItem ov iv u) (fun _ s' => ∃ H', Inv X pins σ H' s' ∧ Q H') X.xe s := fun q oq ei e => by
      by_cases z : szOk (kvs.length + 1) = true
      · rw [if_pos z] at e
        cases e
        have zz := szOk_of z
        have hl := h2.length
        refine set_dict hu pins s σ H (.ref a) i v ov iv u Q I ro ri rv ⟨a, _, rfl, .inl ⟨kws, kx q, h1, ei, by omega, rfl⟩, k _ ⟨_, upd_same, ?_⟩⟩
        exact (ks_put oq rd h2).mono (fun _ _ h => h) (Imm.write h1 fun z => z)
      · rw [if_neg z] at e; cases e
    cases dk with
    | int j => exact go (.inl j) rfl rk e
    | str x => exact go (.inr x) rk.2 rk.1 e
    | _ => cases e
  | obj _ _ => cases dk <;> cases e
/-! methods -/
def rMu (κ : Kx) (m : Mu) : V → List V → Hp → VK → Prop := fun x xs H Q => ∃ as a c c' ds u, x = .ref a ∧ RepC κ as H a c ∧ IsDs κ as H ds xs ∧ mutC m c ds = some (c', u) ∧ ∀ v o, IsD κ as (upd H a o) u v → RepC κ as (upd H a o) a c' → Q v (upd H a o)
theorem mt_app : MtM X "list.append" (rMu κ .append) := by
  intro pins s σ H x xs v us Q I rx rv h
  obtain ⟨as, a, c, c', ds, u, rfl, rc, rd, e, k⟩ := h
  cases c with
  | lst es =>
    obtain ⟨vs, h1, h2⟩ := rc
    match ds, xs, rd, e with
    | [d], [y], rd, e =>
      have e' : (if szOk (es.length + 1) = true then some (Cell.lst (es ++ [d]), D.non) else none) = some (c', u) := e
      by_cases z : szOk (es.length + 1) = true
      · rw [if_pos z] at e'
        cases e'
        have zz := szOk_of z
        have hl := h2.length
        have im : Imm H (upd H a (.lst (vs ++ [y]))) := Imm.write h1 fun z => z
        exact mt_append pins s σ H (.ref a) [y] v us Q I rx rv ⟨a, vs, y, rfl, rfl, h1, by omega, k _ _ rfl ⟨_, upd_same, (h2.append rd).mono (fun _ _ h => h) im⟩⟩
      · rw [if_neg z] at e'; cases e'
    | [_], [], rd, e => exact rd.elim
    | [_], _ :: _ :: _, rd, e => exact rd.2.elim
    | [], _, rd, e => cases e
    | _ :: _ :: _, _, rd, e => cases e
  | _ => cases e
theorem mt_ext : MtM X "list.extend" (fun x xs H Q => ∃ as a c c' d y u, x = .ref a ∧ RepC κ as H a c ∧ xs = [y] ∧ IsV κ as H d y ∧ mutC .extend c [d] = some (c', u) ∧ ∀ v o, IsD κ as (upd H a o) u v → RepC κ as (upd H a o) a c' → Q v (upd H a o)) := by
  intro pins s σ H x xs v us Q I rx rv h
  obtain ⟨as, a, c, c', d, y, u, rfl, rc, rfl, rd, e, k⟩ := h
  cases c with
  | lst es =>
    obtain ⟨vs, hH, h2⟩ := rc
    cases d with
    | lst fs =>
      obtain ⟨b, zs, rfl, hB, h3⟩ := rd
      have e' : (if szOk (es.length + fs.length) = true then some (Cell.lst (es ++ fs), D.non) else none) = some (c', u) := e
      by_cases z : szOk (es.length + fs.length) = true
      · rw [if_pos z] at e'
        cases e'
        have zz := szOk_of z
        have l1 := h2.length
        have l2 := h3.length
        cases rx
        obtain ⟨u', rfl, ru⟩ := rv.one
        cases ru
        obtain ⟨z1, its, n, r, hl, e⟩ := I.lstM hH
        obtain ⟨z2, its2, n2, r2, hl2, e2⟩ := rdM I hB
        have hsz : its.toArray.size + its2.toArray.size ≤ sizeLine := by rw [List.size_toArray, List.size_toArray]; omega
        have hlong : ¬ (!its.toArray.isEmpty && Builtin.List.listTooLong (its.toArray.size + its2.toArray.size)) = true := by
          rw [notLongL hsz, Bool.and_false]
          exact Bool.false_ne_true
        have im : Imm H (upd H a (.lst (vs ++ zs))) := Imm.write hH fun z => z
        refine call_meets PySem.F.slot_list_extend ⟨_, e, rfl⟩ PySem.F.entry_list_extend (PySem.F.args_list_extend_2 _ _)
          (AutoSeq1.list_extend_list_list_0 a its.toArray n b its2.toArray n2 hlong (by rw [List.size_toArray]; omega) (by omega)) ⟨e, e2, ?_⟩
        refine ⟨.non, _, I.lset (its' := its ++ its2) hH e (by simp) (r.append r2) ?_, rfl, k _ _ rfl ⟨_, upd_same, (h2.append h3).mono (fun _ _ h => h) im⟩⟩
        rw [List.length_append]
        omega
      · rw [if_neg z] at e'; cases e'
    | _ => cases e
  | _ => cases e
theorem mt_ins : MtR X "list.insert" (rMu κ .insert) := by
  intro pins s σ H x xs v us Q I rx rv h
  obtain ⟨as, a, c, c', ds, u, rfl, rc, rd, e, k⟩ := h
  cases c with
  | lst es =>
    obtain ⟨vs, h1, h2⟩ := rc
    match ds, xs, rd, e with
    | [di, d], [yi, y], rd, e =>
      cases di with
      | int i =>
        have e' : (if (szOk (es.length + 1) && (decide (0 ≤ i) && decide (i < 1000000))) = true then some (Cell.lst (es.take i.toNat ++ [d] ++ es.drop i.toNat), D.non) else none) = some (c', u) := e
        by_cases z : (szOk (es.length + 1) && (decide (0 ≤ i) && decide (i < 1000000))) = true
        · rw [if_pos z] at e'
          cases e'
          obtain ⟨z, z'⟩ := ba2 z
          obtain ⟨z1, z2⟩ := ba2 z'
          have z1 := of_decide_eq_true z1
          have z2 := of_decide_eq_true z2
          have zz := szOk_of z
          have hl := h2.length
          have ei : yi = .int i := rd.1
          have im : Imm H (upd H a (.lst (vs.take i.toNat ++ [y] ++ vs.drop i.toNat))) := Imm.write h1 fun z => z
          exact mt_insert pins s σ H (.ref a) [yi, y] v us Q I rx rv ⟨a, vs, i, y, rfl, by rw [ei], h1, by omega, z1, by omega, k _ _ rfl ⟨_, upd_same, (((h2.take i.toNat).append (IsDs.one rd.2.1)).append (h2.drop i.toNat)).mono (fun _ _ h => h) im⟩⟩
        · rw [if_neg z] at e'; cases e'
      | _ => cases e
    | [_, _], [], rd, e => exact rd.elim
    | [_, _], [_], rd, e => exact rd.2.elim
    | [_, _], _ :: _ :: _ :: _, rd, e => exact rd.2.2.elim
    | [], _, rd, e => cases e
    | [x1], _, rd, e => cases x1 <;> cases e
    | x1 :: _ :: _ :: _, _, rd, e => cases x1 <;> cases e
  | _ => cases e
theorem dropLast_ok {as : List Addr} {H : Hp} : ∀ {ds : List D} {vs : List V}, IsDs κ as H ds vs → IsDs κ as H ds.dropLast vs.dropLast := fun {ds vs} h => by
  rw [List.dropLast_eq_take, List.dropLast_eq_take, h.length]
  exact h.take _
theorem mt_popL : MtM X "list.pop" (fun x xs H Q => ∃ as a es d u, x = .ref a ∧ RepC κ as H a (.lst es) ∧ xs = [] ∧ mutC .pop (.lst es) [] = some (d, u) ∧ ∀ v o, IsD κ as (upd H a o) u v → RepC κ as (upd H a o) a d → Q v (upd H a o)) := by
  intro pins s σ H x xs v us Q I rx rv h
  obtain ⟨as, a, es, c', u, rfl, ⟨vs, h1, h2⟩, rfl, e, k⟩ := h
  have e' : (match es.getLast? with
    | some d => some (Cell.lst es.dropLast, d)
    | none => none) = some (c', u) := e
  cases q : es.getLast? with
  | none => rw [q] at e'; cases e'
  | some d =>
    rw [q] at e'
    cases e'
    rw [List.getLast?_eq_getElem?] at q
    obtain ⟨y, e1, e2⟩ := h2.get q
    rw [h2.length] at e1
    have im : Imm H (upd H a (.lst vs.dropLast)) := Imm.write h1 fun z => z
    exact mt_pop pins s σ H (.ref a) [] v us Q I rx rv ⟨a, vs, y, rfl, rfl, h1, e1, k _ _ (e2.mono (fun _ _ h => h) im) ⟨_, upd_same, (dropLast_ok h2).mono (fun _ _ h => h) im⟩⟩
end
end Ev
set_option maxHeartbeats 2000000
/-! Ev, part 13: statements. -/
namespace Ev
open PySem PySem.Spec PyProof.Rows L2

/-- what is wanted behind a statement, from the function's entry on -/
def kF (κ : Kx) (as0 : List Addr) (H0 : Hp) (as : List Addr) (H : Hp) (n : Nat) (D : Ends) (Wx : L2.WX) (f : Fl) (S' : Sto) : Prop := ∀ as' H' σ', Step as0 H0 as' H' → Imm H H' → Pre as as' → RepS κ as' H' S' → σ'.length = n → match f with
  | .nx ρ' => RelS κ as' H0 H' σ' ρ' → D.nx σ' H'
  | .bk ρ' => RelS κ as' H0 H' σ' ρ' → D.bk σ' H'
  | .ct ρ' => RelS κ as' H0 H' σ' ρ' → D.ct σ' H'
  | .rt (.d d) => ∀ v, IsD κ as' H' d v → D.rt v H'
  | .rt (.own c) => ∀ a, H0 a = none → a ∉ as' → RepC κ as' H' a c → D.rt (.ref a) H'
  | .ex e ρ' => RelS κ as' H0 H' σ' ρ' → ∀ cls dd, IsX κ as' H' e cls dd → Wx cls dd σ' H'
abbrev FF : D → Sto → Prop := fun _ _ => False
abbrev MS := Env → Sto → R Fl
def rdS (κ : Kx) (Wx : L2.WX) (n : Nat) (m : MS) : TS := fun D σ H => ∃ as0 H0 as ρ S, Step as0 H0 as H ∧ RelS κ as H0 H σ ρ ∧ RepS κ as H S ∧ σ.length = n ∧ Out (m ρ S) (kF κ as0 H0 as H n D Wx) FF
/-- targets: what is wanted behind the store -/
def kG (κ : Kx) (as0 : List Addr) (H0 : Hp) (as : List Addr) (H : Hp) (n : Nat) (N : L2.St → Hp → Prop) (Wx : L2.WX) (f : Fl) (S' : Sto) : Prop := ∀ as' H' σ', Step as0 H0 as' H' → Imm H H' → Pre as as' → RepS κ as' H' S' → σ'.length = n → match f with
  | .nx ρ' => RelS κ as' H0 H' σ' ρ' → N σ' H'
  | .ex e ρ' => RelS κ as' H0 H' σ' ρ' → ∀ cls dd, IsX κ as' H' e cls dd → Wx cls dd σ' H'
  | _ => True
def gR (κ : Kx) (Wx : L2.WX) (n : Nat) (m : D → MS) : TG := fun v σ H N => ∃ as0 H0 as ρ S d, Step as0 H0 as H ∧ RelS κ as H0 H σ ρ ∧ RepS κ as H S ∧ σ.length = n ∧ IsD κ as H d v ∧ Out (m d ρ S) (kG κ as0 H0 as H n N Wx) FF
def gRs (κ : Kx) (Wx : L2.WX) (n : Nat) (m : List D → MS) : TGs := fun vs σ H N => ∃ as0 H0 as ρ S ds, Step as0 H0 as H ∧ RelS κ as H0 H σ ρ ∧ RepS κ as H S ∧ σ.length = n ∧ IsDs κ as H ds vs ∧ Out (m ds ρ S) (kG κ as0 H0 as H n N Wx) FF
theorem Pre.refl {as : List Addr} : Pre as as := fun _ _ h => h
theorem Pre.trans {a b c : List Addr} (h : Pre a b) (h' : Pre b c) : Pre a c := fun i x e => h' i x (h i x e)
theorem Imm.trans {a b c : Hp} (h : Imm a b) (h' : Imm b c) : Imm a c := fun x o e i => h' x o (h x o e i) i
theorem kG.on {κ : Kx} {as0 : List Addr} {H0 : Hp} {as as1 : List Addr} {H H1 : Hp} {n : Nat} {N : L2.St → Hp → Prop} {Wx : L2.WX} {f : Fl} {S : Sto} (im : Imm H H1) (pr : Pre as as1) (k : kG κ as0 H0 as H n N Wx f S) : kG κ as0 H0 as1 H1 n N Wx f S :=
  fun as' H' σ' st i p hS hl => k as' H' σ' st (im.trans i) (pr.trans p) hS hl
section
variable {κ : Kx} {Wx : L2.WX} {as0 as : List Addr} {H0 H : Hp} {n : Nat} {D : Ends} {σ : L2.St} {ρ : Env} {S : Sto}
theorem lift_outG {α : Type} {r : R α} {f : α → Sto → R Fl} {N : L2.St → Hp → Prop} (st0 : Step as0 H0 as H) (rs : RelS κ as H0 H σ ρ) (hl : σ.length = n) (w : Out (R.lift ρ r f) (kG κ as0 H0 as H n N Wx) FF) : Out r (fun a S1 => Out (f a S1) (kG κ as0 H0 as H n N Wx) FF) (kX κ as H σ Wx) := by
  cases r with
  | ok a S1 => exact w
  | exc e S1 => exact fun as' H' cls dd st x hS => w as' H' σ (st0.trans st) st.imm st.pr hS hl (rs.step st) cls dd x
  | bad => exact w
theorem lift_out {α : Type} {r : R α} {f : α → Sto → R Fl} (st0 : Step as0 H0 as H) (rs : RelS κ as H0 H σ ρ) (hl : σ.length = n) (w : Out (R.lift ρ r f) (kF κ as0 H0 as H n D Wx) FF) : Out r (fun a S1 => Out (f a S1) (kF κ as0 H0 as H n D Wx) FF) (kX κ as H σ Wx) := by
  cases r with
  | ok a S1 => exact w
  | exc e S1 => exact fun as' H' cls dd st x hS => w as' H' σ (st0.trans st) st.imm st.pr hS hl (rs.step st) cls dd x
  | bad => exact w
end
theorem kF.on {κ : Kx} {as0 : List Addr} {H0 : Hp} {as as1 : List Addr} {H H1 : Hp} {n : Nat} {D : Ends} {Wx : L2.WX} {f : Fl} {S : Sto} (im : Imm H H1) (pr : Pre as as1) (k : kF κ as0 H0 as H n D Wx f S) : kF κ as0 H0 as1 H1 n D Wx f S :=
  fun as' H' σ' st i p hS hl => k as' H' σ' st (im.trans i) (pr.trans p) hS hl
theorem kF.out {κ : Kx} {as0 : List Addr} {H0 : Hp} {as as1 : List Addr} {H H1 : Hp} {n : Nat} {D : Ends} {Wx : L2.WX} {r : R Fl} (im : Imm H H1) (pr : Pre as as1) (k : Out r (kF κ as0 H0 as H n D Wx) FF) : Out r (kF κ as0 H0 as1 H1 n D Wx) FF :=
  k.imp (fun _ _ z => kF.on im pr z) fun _ _ z => z
section
variable {X : Cx} {sc : SC} {κ : Kx} {Φ : Fn} {Wx : L2.WX} {n : Nat} {e tg : Expr} {st : Stmt} {sts : List Stmt} {m : MW} {pos : Pos}
theorem ss_nil : PSs X [] (rdS κ Wx n fun ρ S => .ok (.nx ρ) S) :=
  PSs.imp pss_nil fun D σ H ⟨as0, H0, as, ρ, S, st0, rs, hS, hl, w⟩ => w as H σ st0 Imm.refl Pre.refl hS hl rs
theorem ss_cons {m1 m2 : MS} (h1 : PS X st (rdS κ Wx n m1)) (h2 : PSs X sts (rdS κ Wx n m2)) : PSs X (st :: sts) (rdS κ Wx n fun ρ S => (m1 ρ S).nx fun ρ1 S1 => m2 ρ1 S1) := by
  refine PSs.imp (pss_cons h1 h2) fun D σ H ⟨as0, H0, as, ρ, S, st0, rs, hS, hl, w⟩ => ?_
  refine ⟨as0, H0, as, ρ, S, st0, rs, hS, hl, ?_⟩
  have w : Out ((m1 ρ S).nx fun ρ1 S1 => m2 ρ1 S1) (kF κ as0 H0 as H n D Wx) FF := w
  cases q : m1 ρ S with
  | bad => rw [q] at w; exact w
  | exc e S1 => rw [q] at w; exact w
  | ok f S1 =>
    rw [q] at w
    cases f with
    | nx ρ1 => exact fun as' H' σ' st' im pr hS' hl' rs' => ⟨as0, H0, as', ρ1, S1, st', rs', hS', hl', kF.out im pr w⟩
    | bk ρ1 => exact w
    | ct ρ1 => exact w
    | rt x => cases x <;> exact w
    | ex e ρ1 => exact w
/-- what only concerns what is known -/
theorem ss_skip {m2 : MS} {f : Env → Env} (hf : ∀ as H0 H σ ρ, RelS κ as H0 H σ ρ → RelS κ as H0 H σ (f ρ)) (h2 : PSs X sts (rdS κ Wx n m2)) : PSs X sts (rdS κ Wx n fun ρ S => (R.ok (Fl.nx (f ρ)) S).nx fun ρ1 S1 => m2 ρ1 S1) :=
  PSs.imp h2 fun D σ H ⟨as0, H0, as, ρ, S, st0, rs, hS, hl, w⟩ => ⟨as0, H0, as, f ρ, S, st0, hf _ _ _ _ _ rs, hS, hl, w⟩
theorem PSs.frz {t : TS} (h : PSs X sts t) : PSs X sts (fun D σ H => t D σ H ∨ ∃ p u, H p = some u ∧ soft u ∧ ∀ o, t D σ (upd H p (.frz o u))) := by
  refine ⟨fun pins s σ H D I q => ?_⟩
  rcases q with q | ⟨p, u, e, hu, q⟩
  · exact h.run pins s σ H D I q
  · obtain ⟨o, I'⟩ := freeze I e hu
    exact h.run pins s σ _ D I' (q o)
theorem Imm.frzAt {H : Hp} {a : Addr} {u : HO} {o : Obj} (e : H a = some u) (hu : ¬ imm u) : Imm H (upd H a (.frz o u)) := Imm.write e hu
theorem ss_fz {m2 : MS} {i : Nat} (h2 : PSs X sts (rdS κ Wx n m2)) : PSs X sts (rdS κ Wx n fun ρ S => (match ρ.get i with
    | some (.own c) => R.ok (Fl.nx (ρ.put i (.d c.vw))) S
    | some (.d _) => .ok (Fl.nx ρ) S
    | none => .bad).nx fun ρ1 S1 => m2 ρ1 S1) := by
  refine PSs.imp (PSs.frz h2) fun D σ H ⟨as0, H0, as, ρ, S, st0, rs, hS, hl, w⟩ => ?_
  cases q : ρ.get i with
  | none => simp only [q] at w; exact w.elim
  | some x =>
    cases x with
    | d x => simp only [q] at w; exact .inl ⟨as0, H0, as, ρ, S, st0, rs, hS, hl, w⟩
    | own c =>
      simp only [q] at w
      obtain ⟨a, e1, na, n0, rc⟩ := rs.own i c q
      obtain ⟨u, eu, hu, nu⟩ := soft_of rc
      refine .inr ⟨a, u, eu, hu, fun o => ⟨as0, H0, as, ρ.put i (.d c.vw), S, st0.frz n0 eu nu, ?_, hS.off na (Imm.write eu nu), hl, kF.out (Imm.write eu nu) Pre.refl w⟩⟩
      have im : Imm H (upd H a (.frz o u)) := Imm.write eu nu
      have fd := frozen (o := o) rc eu
      have key : ∀ j w, (ρ.put i (.d c.vw)).get j = some w → (j = i ∧ w = .d c.vw) ∨ (j ≠ i ∧ ρ.get j = some w) := fun j w e => by
        rw [get_put] at e
        by_cases z : i = j ∧ i < ρ.length
        · rw [if_pos z] at e
          cases e
          exact .inl ⟨z.1.symm, rfl⟩
        · rw [if_neg z] at e
          refine .inr ⟨fun q => ?_, e⟩
          subst q
          rw [get_none ρ j fun q => z ⟨rfl, q⟩] at e
          cases e
      refine ⟨fun j x e => ?_, fun j c1 e => ?_, fun j k c1 c2 b nn e1 e2 s1 => ?_⟩
      · rcases key j _ e with ⟨rfl, z⟩ | ⟨_, z⟩
        · cases z
          exact ⟨_, e1, fd⟩
        · obtain ⟨v, h1, h2⟩ := rs.val j x z
          exact ⟨v, h1, h2.mono (fun _ _ h => h) im⟩
      · rcases key j _ e with ⟨rfl, z⟩ | ⟨nj, z⟩
        · cases z
        · obtain ⟨b, h1, h2, h3, h4⟩ := rs.own j c1 z
          exact ⟨b, h1, h2, h3, h4.at (fun _ _ h => h) im (upd_ne fun y => rs.dis i j c c1 a (Ne.symm nj) q z e1 (by rw [← y]; exact h1))⟩
      · rcases key j _ e1 with ⟨rfl, z⟩ | ⟨_, z⟩
        · cases z
        · rcases key k _ e2 with ⟨rfl, z'⟩ | ⟨_, z'⟩
          · cases z'
          · exact rs.dis j k c1 c2 b nn z z' s1
/-! targets -/
theorem pg_nm (ok : CxOk X sc κ Φ) {i : Nat} {x : Str} (hn : X.N.length = n) (hi : sc.N[i]? = some x) (hx : locB sc x = true) : PG X (.Name x pos) (gR κ Wx n fun d ρ S => .ok (.nx (ρ.put i (.d d))) S) := by
  have := pg_name (pos := pos) ok.nd (by rw [ok.N]; exact hi) (ok.loc hx) (ok.fn x hx)
  refine ⟨fun pins s σ H v u Q I r ⟨as0, H0, as, ρ, S, d, st0, rs, hS, hl, hd, w⟩ => this.run pins s σ H v u Q I r ?_⟩
  have hlt : i < σ.length := by
    rw [I.len, ok.N]
    exact (List.getElem?_eq_some_iff.mp hi).1
  exact w as H (σ.set i (some v)) st0 Imm.refl Pre.refl hS (by rw [List.length_set]; exact hl) (rs.set hlt hd)
theorem gs_nil : PGs X [] (gRs κ Wx n fun ds ρ S => match ds with
    | [] => .ok (.nx ρ) S
    | _ => .bad) := by
  refine ⟨fun pins s σ H vs us Q I r ⟨as0, H0, as, ρ, S, ds, st0, rs, hS, hl, hd, w⟩ => pgs_nil.run pins s σ H vs us Q I r ?_⟩
  cases ds with
  | nil => cases vs with
    | nil => exact ⟨rfl, w as H σ st0 Imm.refl Pre.refl hS hl rs⟩
    | cons _ _ => exact hd.elim
  | cons _ _ => exact w.elim
theorem gs_cons {es : List Expr} {m1 : D → MS} {m2 : List D → MS} (h1 : PG X e (gR κ Wx n m1)) (h2 : PGs X es (gRs κ Wx n m2)) (hs : (assignEach (e :: es) X.env).map (·.2) = assign e X.env :: (assignEach es X.env).map (·.2)) :
    PGs X (e :: es) (gRs κ Wx n fun ds ρ S => match ds with
      | d :: ds => (m1 d ρ S).nx fun ρ1 S1 => m2 ds ρ1 S1
      | [] => .bad) := by
  refine ⟨fun pins s σ H vs us Q I r ⟨as0, H0, as, ρ, S, ds, st0, rs, hS, hl, hd, w⟩ => (pgs_cons h1 h2 hs).run pins s σ H vs us Q I r ?_⟩
  cases ds with
  | nil => exact w.elim
  | cons d ds =>
    cases vs with
    | nil => exact hd.elim
    | cons v vs =>
      refine ⟨v, vs, rfl, as0, H0, as, ρ, S, d, st0, rs, hS, hl, hd.1, ?_⟩
      have w : Out ((m1 d ρ S).nx fun ρ1 S1 => m2 ds ρ1 S1) (kG κ as0 H0 as H n Q Wx) FF := w
      cases q : m1 d ρ S with
      | bad => rw [q] at w; exact w
      | exc e S1 => rw [q] at w; exact w
      | ok f S1 =>
        rw [q] at w
        cases f with
        | nx ρ1 => exact fun as' H' σ' st' im pr hS' hl' rs' => ⟨as0, H0, as', ρ1, S1, ds, st', rs', hS', hl', hd.2.mono pr im, Out.imp w (fun f S2 z => kG.on im pr z) fun _ _ z => z⟩
        | bk ρ1 => exact w
        | ct ρ1 => exact w
        | rt x => cases x <;> exact w
        | ex e ρ1 => exact w
theorem rdW.run {H0 : Hp} {as : List Addr} {H : Hp} {σ : L2.St} {ρ : Env} {S : Sto} {Q : VK} (rs : RelS κ as H0 H σ ρ) (hS : RepS κ as H S) {k : W → Sto → Prop} (o : Out (m ρ S) k (kX κ as H σ Wx)) (h : ∀ w S1 as1 H1 v, k w S1 → Step as H as1 H1 → IsE κ as1 H1 w v → RepS κ as1 H1 S1 → Q v H1) : rdW κ Wx m σ H Q := rdW.mk rs hS o h
theorem assign_sub {o i : Expr} {env : PySem.Env} (h : plainIx i = true) : ∀ v, assign (.Subscript o i pos) env v = (do
      let ov ← holding [v] (eval o env)
      let iv ← holding [v, ov] (eval i env)
      standAt pos
      holding [v, ov, iv] (setItem ov iv v)
      release [v, ov, iv] []) := fun v => by
  cases i <;> first | rfl | cases h
/-- o[i] = .., a cell's -/
theorem pg_subC (ok : CxOk X sc κ Φ) {o i : Expr} {mo mi : MW} (hpl : plainIx i = true) (ho : PE X o (rdW κ Wx mo)) (hi : PE X i (rdW κ Wx mi)) : PG X (.Subscript o i pos) (gR κ Wx n fun d ρ S => ((mo ρ S).d).lift ρ fun x S1 => ((mi ρ S1).d).lift ρ fun y S2 => (mutS .set x [y, d] S2).lift ρ fun _ S3 => .ok (.nx ρ) S3) := by
  have hu : X.A.units + 1 < cLine := by have := ok.un; omega
  refine ⟨fun pins s σ H v u N I r ⟨as0, H0, as, ρ, S, d, st0, rs, hS, hl, hd, w⟩ => (pg_sub (pos := pos) ho hi (set_any (κ := κ) hu) (assign_sub hpl)).run pins s σ H v u N I r ?_⟩
  refine rdW.mk rs hS (lift_outG st0 rs hl w).of_d fun x S1 as1 H1 v1 w1 st1 r1 hS1 => ?_
  obtain ⟨dx, rfl, w1⟩ := w1
  refine rdW.mk (rs.step st1) hS1 (lift_outG (as := as1) (H := H1) (st0.trans st1) (rs.step st1) hl (w1.imp (fun _ _ z => kG.on st1.imm st1.pr z) fun _ _ z => z)).of_d fun y S2 as2 H2 v2 w2 st2 r2 hS2 => ?_
  obtain ⟨dy, rfl, w2⟩ := w2
  have rs2 := (rs.step st1).step st2
  have st02 := (st0.trans st1).trans st2
  have r1' : IsD κ as2 H2 dx v1 := IsD.step st2 r1
  have hd2 : IsD κ as2 H2 d v := (hd.step st1).step st2
  have w3 : Out (R.lift ρ (mutS .set dx [dy, d] S2) fun _ S3 => .ok (.nx ρ) S3) (kG κ as0 H0 as1 H1 n N Wx) FF := w2
  cases dx with
  | ref j =>
    obtain ⟨a, ea, rfl⟩ := r1'
    cases q : S2[j]? with
    | none =>
      have : mutS .set (.ref j) [dy, d] S2 = .bad := by simp only [mutS, q]
      rw [this] at w3; exact w3.elim
    | some c =>
      have rc := hS2.cell j a c ea q
      cases qm : mutC .set c [dy, d] with
      | none =>
        have : mutS .set (.ref j) [dy, d] S2 = .bad := by simp only [mutS, q]; simp [qm]
        rw [this] at w3; exact w3.elim
      | some p =>
        obtain ⟨c', u'⟩ := p
        have e3 : mutS .set (.ref j) [dy, d] S2 = .ok u' (S2.set j c') := by simp only [mutS, q]; simp [qm]
        rw [e3] at w3
        refine ⟨as2, a, c, c', dy, d, u', rfl, rc, r2, hd2, qm, fun o rc' => ?_⟩
        obtain ⟨u2, hu2, nu⟩ := rc.some
        have ma : a ∈ as2 := List.mem_of_getElem? ea
        have stw : Step as2 H2 as2 (upd H2 a o) := Step.write ma hu2 nu
        exact w3 as2 (upd H2 a o) σ (st02.trans stw) (st2.imm.trans stw.imm) (st2.pr.trans stw.pr) (hS2.put ea hu2 nu rc') hl (rs2.step stw)
  | _ => exact w3.elim
/-- x[i] = .., x a thing of one's own -/
theorem pg_subO (ok : CxOk X sc κ Φ) {j : Nat} {x : Str} {i : Expr} {p : Pos} {mi : MW} (hpl : plainIx i = true) (hj : sc.N[j]? = some x) (hv : visB sc x = true) (hodd : odd x = false) (hi : PE X i (rdW κ Wx mi)) : PG X (.Subscript (.Name x p) i pos) (gR κ Wx n fun d ρ S => match ρ.get j with
    | some (.own c) => ((mi ρ S).d).lift ρ fun y S1 => match mutC .set c [y, d] with
      | some (c', _) => .ok (.nx (ρ.put j (.own c'))) S1
      | none => .bad
    | _ => .bad) := by
  have hu : X.A.units + 1 < cLine := by have := ok.un; omega
  have ho := pe_var (X := X) (i := j) (pos := p) (by rw [ok.N]; exact hj) (ok.vis hv) (odd_db hodd) (odd_cd hodd)
  refine ⟨fun pins s σ H v u N I r ⟨as0, H0, as, ρ, S, d, st0, rs, hS, hl, hd, w⟩ => (pg_sub (pos := pos) ho hi (set_any (κ := κ) hu) (assign_sub hpl)).run pins s σ H v u N I r ?_⟩
  cases q : ρ.get j with
  | none => simp only [q] at w; exact w.elim
  | some wv => cases wv with
    | d x => simp only [q] at w; exact w.elim
    | own c =>
      simp only [q] at w
      obtain ⟨a, e1, na, n0, rc⟩ := rs.own j c q
      refine ⟨_, e1, ?_⟩
      refine rdW.mk rs hS (lift_outG st0 rs hl w).of_d fun y S2 as2 H2 v2 w2 st2 r2 hS2 => ?_
      obtain ⟨dy, rfl, w2⟩ := w2
      have rs2 := rs.step st2
      obtain ⟨a', e1', na', n0', rc'⟩ := rs2.own j c q
      rw [e1] at e1'
      cases e1'
      cases qm : mutC .set c [dy, d] with
      | none => simp only [qm] at w2; exact w2.elim
      | some pp =>
        obtain ⟨c', u'⟩ := pp
        simp only [qm] at w2
        refine ⟨as2, a, c, c', dy, d, u', rfl, rc', r2, hd.step st2, qm, fun o rc2 => ?_⟩
        obtain ⟨u2, hu2, nu⟩ := rc'.some
        have im : Imm H2 (upd H2 a o) := Imm.write hu2 nu
        have st3 := st0.trans st2
        have stw : Step as0 H0 as2 (upd H2 a o) := ⟨st3.ext, fun b z h i => by rw [upd_ne (ne_of_none h n0)]; exact st3.imm b z h i, fun b z h i => by rw [upd_ne (ne_of_none h n0)]; exact st3.keep b z h i, fun b h => upd_there b (st3.there b h)⟩
        exact w2 as2 (upd H2 a o) σ stw (st2.imm.trans im) st2.pr (hS2.off na' im) hl (rs2.mut q e1 hu2 nu rc2)
/-! statements -/
def isComp : Expr → Bool
  | .ListComp _ _ _ _ => true
  | .SetComp _ _ _ _ => true
  | .DictComp _ _ _ _ _ => true
  | _ => false
theorem noswap {t : Option Expr} {l : Nat} {env : PySem.Env} (h : isComp e = false) : swapsWith e t l env = pure false := by
  cases e <;> first | rfl | cases h
theorem noswapS {t : Expr} {l : Nat} {env : PySem.Env} (h : isComp e = false) : swapsWithSole [t] e l env = pure false := noswap h
def isTupT : Expr → Bool
  | .Tuple _ _ _ => true
  | .List _ _ => true
  | _ => false
theorem noswapped {t : Expr} {env : PySem.Env} (h : isTupT t = false ∨ isTupT e = false) : swappedStores [t] e env = pure none := by
  rcases h with h | h
  · cases t <;> first | rfl | cases h
  · cases e <;> first | (cases t <;> rfl) | cases h
theorem ps_asgn {m : MW} {mset : D → MS} (he : PE X e (rdW κ Wx m)) (hg : PG X tg (gR κ Wx n mset)) (hc : isComp e = false) (ht : isTupT tg = false) (h1 : (assignEach [tg] X.env).map (·.2) = [assign tg X.env]) :
    PS X (.Assign [tg] e pos) (rdS κ Wx n fun ρ S => ((m ρ S).d).lift ρ fun d S1 => mset d ρ S1) := by
  refine PS.imp (ps_asg he hg (noswapS hc) (noswapped (.inl ht)) h1) fun D σ H ⟨as0, H0, as, ρ, S, st0, rs, hS, hl, w⟩ => ?_
  refine rdW.mk rs hS (lift_out st0 rs hl w).of_d fun x S1 as1 H1 v w1 st1 r1 hS1 => ?_
  obtain ⟨d, rfl, w1⟩ := w1
  exact ⟨as0, H0, as1, ρ, S1, d, st0.trans st1, rs.step st1, hS1, hl, r1, w1.imp (fun f S2 z => fun as' H' σ' st im pr hS' hl' => by
    have z' := z as' H' σ' st (st1.imm.trans im) (st1.pr.trans pr) hS' hl'
    cases f with
    | nx ρ1 => exact z'
    | ex e ρ1 => exact z'
    | _ => trivial) fun _ _ z => z⟩
theorem kG_of {as0 as : List Addr} {H0 H : Hp} {D : Ends} {r : R Fl} (w : Out r (kF κ as0 H0 as H n D Wx) FF) : Out r (kG κ as0 H0 as H n D.nx Wx) FF := w.imp (fun f S2 z => fun as' H' σ' st im pr hS' hl' => by
    have z' := z as' H' σ' st im pr hS' hl'
    cases f with
    | nx ρ1 => exact z'
    | ex e ρ1 => exact z'
    | _ => trivial) fun _ _ z => z
theorem PG.or {e : Expr} {t1 t2 : TG} (h1 : PG X e t1) (h2 : PG X e t2) : PG X e fun v σ H Q => t1 v σ H Q ∨ t2 v σ H Q := by
  refine ⟨fun pins s σ H v u Q I r h => ?_⟩
  rcases h with h | h
  · exact h1.run pins s σ H v u Q I r h
  · exact h2.run pins s σ H v u Q I r h
/-- a, b = e -/
theorem ps_unp (ok : CxOk X sc κ Φ) {es : List Expr} {k : Nat} {tp : Pos} {m : MW} {mset : List D → MS} (he : PE X e (rdW κ Wx m)) (hg : PGs X es (gRs κ Wx n mset)) (hc : isComp e = false) (hsw : swappedStores [.Tuple es k tp] e X.env = pure none)
    (hn : ∀ ds ρ S, ds.length ≠ es.length → mset ds ρ S = .bad) (ha : (assignEach es X.env).length = es.length) (hst : (assignEach es X.env).findIdx? (·.1) = none) (h1 : (assignEach [Expr.Tuple es k tp] X.env).map (·.2) = [assign (.Tuple es k tp) X.env]) :
    PS X (.Assign [.Tuple es k tp] e pos) (rdS κ Wx n fun ρ S => ((m ρ S).d).lift ρ fun d S1 => match d with
      | .tup ds => mset ds ρ S1
      | .lst ds => mset ds ρ S1
      | _ => .bad) := by
  refine PS.imp (ps_asg he (PG.or (pg_tup (k := k) (pos := tp) ok.calm hg ha hst) (pg_unl (k := k) (pos := tp) ok.calm hg ha hst)) (noswapS hc) hsw h1) fun D σ H ⟨as0, H0, as, ρ, S, st0, rs, hS, hl, w⟩ => ?_
  refine rdW.mk rs hS (lift_out st0 rs hl w).of_d fun x S1 as1 H1 v w1 st1 r1 hS1 => ?_
  obtain ⟨d, rfl, w1⟩ := w1
  cases d with
  | tup ds =>
    obtain ⟨a, vs, rfl, hq, hd⟩ := r1
    rw [ok.hκ] at hq
    have w1 : Out (mset ds ρ S1) (kF κ as0 H0 as H n D Wx) FF := w1
    refine .inl ⟨a, vs, rfl, hq, ?_, as0, H0, as1, ρ, S1, ds, st0.trans st1, rs.step st1, hS1, hl, hd, kG_of (kF.out st1.imm st1.pr w1)⟩
    rw [← hd.length]
    by_cases z : ds.length = es.length
    · exact z
    · rw [hn ds ρ S1 z] at w1; exact w1.elim
  | lst ds =>
    obtain ⟨a, vs, rfl, hq, hd⟩ := r1
    have w1 : Out (mset ds ρ S1) (kF κ as0 H0 as H n D Wx) FF := w1
    refine .inr ⟨a, vs, rfl, .inl hq.rd, ?_, as0, H0, as1, ρ, S1, ds, st0.trans st1, rs.step st1, hS1, hl, hd, kG_of (kF.out st1.imm st1.pr w1)⟩
    rw [← hd.length]
    by_cases z : ds.length = es.length
    · exact z
    · rw [hn ds ρ S1 z] at w1; exact w1.elim
  | _ => exact w1.elim
theorem own_step {as0 as : List Addr} {H0 H : Hp} {σ : L2.St} {ρ : Env} {S : Sto} {D : Ends} {i : Nat} {mn : Env → Sto → R Cell} (st0 : Step as0 H0 as H) (rs : RelS κ as H0 H σ ρ) (hS : RepS κ as H S) (hl : σ.length = n) (hlt : i < σ.length) (w : Out ((mn ρ S).lift ρ fun c S1 => .ok (.nx (ρ.put i (.own c))) S1) (kF κ as0 H0 as H n D Wx) FF) :
    rdN κ Wx mn σ H fun x H1 => gName i x σ H1 D.nx := by
  refine rdN.mk rs hS (lift_out st0 rs hl w) fun c S1 as1 H1 a w1 st1 na n1 rc hS1 => ?_
  have na0 : H0 a = none := by
    cases z : H0 a with
    | none => rfl
    | some o => exact absurd na (st0.there a (by rw [z]; simp))
  refine w1 as1 H1 (σ.set i (some (.ref a))) (st0.trans st1) st1.imm st1.pr hS1 (by rw [List.length_set]; exact hl) ((rs.step st1).setO hlt n1 na0 rc fun j e hj ne q => ?_)
  obtain ⟨b, h1, h2, h3, h4⟩ := rs.own j e hj
  obtain ⟨o, ho, _⟩ := h4.some
  rw [h1] at q
  cases q
  rw [na] at ho
  cases ho
/-- a thing of one's own to a name -/
theorem ps_own (ok : CxOk X sc κ Φ) {i : Nat} {x : Str} {p : Pos} {mn : Env → Sto → R Cell} (hi : sc.N[i]? = some x) (hx : locB sc x = true) (he : PE X e (rdN κ Wx mn)) (hsw : swapsWith e (some (.Name x p)) pos.line X.env = pure false) :
    PS X (.Assign [.Name x p] e pos) (rdS κ Wx n fun ρ S => (mn ρ S).lift ρ fun c S1 => .ok (.nx (ρ.put i (.own c))) S1) := by
  have base := ps_set (pos := pos) (pos' := p) ok.nd (by rw [ok.N]; exact hi) (ok.loc hx) he hsw (ok.fn x hx)
  refine ⟨fun pins s σ H D I ⟨as0, H0, as, ρ, S, st0, rs, hS, hl, w⟩ => base.run pins s σ H D I ?_⟩
  have hlt : i < σ.length := by
    rw [I.len, ok.N]
    exact (List.getElem?_eq_some_iff.mp hi).1
  exact own_step st0 rs hS hl hlt w
theorem ps_exp {m : MW} (he : PE X e (rdW κ Wx m)) (hc : isComp e = false) : PS X (.Expr e pos) (rdS κ Wx n fun ρ S => ((m ρ S).d).lift ρ fun _ S1 => .ok (.nx ρ) S1) := by
  refine PS.imp (ps_expr he (noswap hc)) fun D σ H ⟨as0, H0, as, ρ, S, st0, rs, hS, hl, w⟩ => ?_
  refine rdW.mk rs hS (lift_out st0 rs hl w).of_d fun x S1 as1 H1 v w1 st1 r1 hS1 => ?_
  obtain ⟨d, rfl, w1⟩ := w1
  exact w1 as1 H1 σ (st0.trans st1) st1.imm st1.pr hS1 hl (rs.step st1)
theorem ps_rete {m : MW} (he : PE X e (rdW κ Wx m)) : PS X (.Return (some e) pos) (rdS κ Wx n fun ρ S => ((m ρ S).d).lift ρ fun d S1 => .ok (.rt (.d d)) S1) := by
  refine PS.imp (ps_ret he) fun D σ H ⟨as0, H0, as, ρ, S, st0, rs, hS, hl, w⟩ => ?_
  refine rdW.mk rs hS (lift_out st0 rs hl w).of_d fun x S1 as1 H1 v w1 st1 r1 hS1 => ?_
  obtain ⟨d, rfl, w1⟩ := w1
  exact w1 as1 H1 σ (st0.trans st1) st1.imm st1.pr hS1 hl v r1
theorem ps_retw {mn : Env → Sto → R Cell} (he : PE X e (rdN κ Wx mn)) : PS X (.Return (some e) pos) (rdS κ Wx n fun ρ S => (mn ρ S).lift ρ fun c S1 => .ok (.rt (.own c)) S1) := by
  refine PS.imp (ps_ret he) fun D σ H ⟨as0, H0, as, ρ, S, st0, rs, hS, hl, w⟩ => ?_
  refine rdN.mk rs hS (lift_out st0 rs hl w) fun c S1 as1 H1 a w1 st1 na n1 rc hS1 => ?_
  have na0 : H0 a = none := by
    cases z : H0 a with
    | none => rfl
    | some o => exact absurd na (st0.there a (by rw [z]; simp))
  exact w1 as1 H1 σ (st0.trans st1) st1.imm st1.pr hS1 hl a na0 n1 rc
theorem ps_retn : PS X (.Return none pos) (rdS κ Wx n fun _ S => .ok (.rt (.d .non)) S) :=
  PS.imp ps_retN fun D σ H ⟨as0, H0, as, ρ, S, st0, rs, hS, hl, w⟩ => w as H σ st0 Imm.refl Pre.refl hS hl .non rfl
/-- return x, x a thing of one's own -/
theorem ps_reto (ok : CxOk X sc κ Φ) {i : Nat} {x : Str} {p : Pos} (hi : sc.N[i]? = some x) (hv : visB sc x = true) (ho : odd x = false) : PS X (.Return (some (.Name x p)) pos) (rdS κ Wx n fun ρ S => match ρ.get i with
    | some (.own c) => .ok (.rt (.own c)) S
    | _ => .bad) := by
  refine PS.imp (ps_ret (pe_var (i := i) (pos := p) (by rw [ok.N]; exact hi) (ok.vis hv) (odd_db ho) (odd_cd ho))) fun D σ H ⟨as0, H0, as, ρ, S, st0, rs, hS, hl, w⟩ => ?_
  cases q : ρ.get i with
  | none => simp only [q] at w; exact w.elim
  | some wv => cases wv with
    | d x => simp only [q] at w; exact w.elim
    | own c =>
      simp only [q] at w
      obtain ⟨a, e1, na, n0, rc⟩ := rs.own i c q
      exact ⟨_, e1, w as H σ st0 Imm.refl Pre.refl hS hl a n0 na rc⟩
/-- .. frozen -/
theorem ps_retf (ok : CxOk X sc κ Φ) {i : Nat} {x : Str} {p : Pos} (hi : sc.N[i]? = some x) (hv : visB sc x = true) (ho : odd x = false) : PS X (.Return (some (.Name x p)) pos) (rdS κ Wx n fun ρ S => match ρ.get i with
    | some (.own c) => .ok (.rt (.d c.vw)) S
    | some (.d x) => .ok (.rt (.d x)) S
    | none => .bad) := by
  refine PS.imp (ps_ret (PE.frz (pe_var (i := i) (pos := p) (by rw [ok.N]; exact hi) (ok.vis hv) (odd_db ho) (odd_cd ho)))) fun D σ H ⟨as0, H0, as, ρ, S, st0, rs, hS, hl, w⟩ => ?_
  cases q : ρ.get i with
  | none => simp only [q] at w; exact w.elim
  | some wv => cases wv with
    | d x =>
      simp only [q] at w
      obtain ⟨v, e1, r⟩ := rs.val i x q
      exact ⟨v, e1, .inl (w as H σ st0 Imm.refl Pre.refl hS hl v r)⟩
    | own c =>
      simp only [q] at w
      obtain ⟨a, e1, na, n0, rc⟩ := rs.own i c q
      obtain ⟨u, eu, hu, nu⟩ := soft_of rc
      exact ⟨_, e1, .inr ⟨a, u, rfl, eu, hu, fun o => w as _ σ (st0.frz n0 eu nu) (Imm.write eu nu) Pre.refl (hS.off na (Imm.write eu nu)) hl _ (frozen rc eu)⟩⟩
theorem ps_ifs {c : Expr} {a b : List Stmt} {mc : Env → Sto → R Bool} {m1 m2 : MS} (hc : PT X c (rdT κ Wx mc)) (ha : PSs X a (rdS κ Wx n m1)) (hb : PSs X b (rdS κ Wx n m2)) : PS X (.If c a b pos) (rdS κ Wx n fun ρ S => (mc ρ S).lift ρ fun r S1 => if r = true then m1 ρ S1 else m2 ρ S1) := by
  refine PS.imp (ps_if hc ha hb) fun D σ H ⟨as0, H0, as, ρ, S, st0, rs, hS, hl, w⟩ => ?_
  refine rdT.mk rs hS (lift_out st0 rs hl w) fun r S1 as1 H1 w1 st1 hS1 => ?_
  cases r with
  | true => rw [if_pos rfl] at w1 ⊢; exact ⟨as0, H0, as1, ρ, S1, st0.trans st1, rs.step st1, hS1, hl, kF.out st1.imm st1.pr w1⟩
  | false => rw [if_neg Bool.false_ne_true] at w1 ⊢; exact ⟨as0, H0, as1, ρ, S1, st0.trans st1, rs.step st1, hS1, hl, kF.out st1.imm st1.pr w1⟩
theorem ps_pas : PS X (.Pass pos) (rdS κ Wx n fun ρ S => .ok (.nx ρ) S) :=
  PS.imp ps_pass fun D σ H ⟨as0, H0, as, ρ, S, st0, rs, hS, hl, w⟩ => w as H σ st0 Imm.refl Pre.refl hS hl rs
theorem ps_brk : PS X (.Break pos) (rdS κ Wx n fun ρ S => .ok (.bk ρ) S) :=
  PS.imp ps_break fun D σ H ⟨as0, H0, as, ρ, S, st0, rs, hS, hl, w⟩ => w as H σ st0 Imm.refl Pre.refl hS hl rs
theorem ps_cnt : PS X (.Continue pos) (rdS κ Wx n fun ρ S => .ok (.ct ρ) S) :=
  PS.imp ps_continue fun D σ H ⟨as0, H0, as, ρ, S, st0, rs, hS, hl, w⟩ => w as H σ st0 Imm.refl Pre.refl hS hl rs
/-! loops -/
theorem whlN_mono {test : Env → Sto → R Bool} {body : MS} : ∀ (k : Nat) (ρ : Env) (S : Sto), whlN test body k ρ S ≠ .bad → whlN test body (k + 1) ρ S = whlN test body k ρ S
  | 0, ρ, S, h => absurd rfl h
  | k + 1, ρ, S, h => by
    unfold whlN at h ⊢
    cases q : test ρ S with
    | bad => rfl
    | exc e S1 => rfl
    | ok b S1 =>
      rw [q] at h
      show (if b = true then (body ρ S1).loop (whlN test body (k + 1)) else .ok (.nx ρ) S1) = (if b = true then (body ρ S1).loop (whlN test body k) else .ok (.nx ρ) S1)
      have h : (if b = true then (body ρ S1).loop (whlN test body k) else .ok (.nx ρ) S1) ≠ .bad := h
      cases b with
      | false => rfl
      | true =>
        rw [if_pos rfl] at h ⊢
        rw [if_pos rfl]
        cases r : body ρ S1 with
        | bad => rfl
        | exc e S2 => rfl
        | ok f S2 =>
          rw [r] at h
          cases f with
          | nx ρ2 => exact whlN_mono k ρ2 S2 h
          | ct ρ2 => exact whlN_mono k ρ2 S2 h
          | bk ρ2 => rfl
          | rt w => rfl
          | ex e ρ2 => rfl
theorem whl_some {test : Env → Sto → R Bool} {body : MS} {ρ : Env} {S : Sto} {k : Fl → Sto → Prop} {ke : D → Sto → Prop} (h : Out (whl test body ρ S) k ke) : ∃ j, Out (whlN test body j ρ S) k ke := by
  unfold whl at h
  by_cases z : ∃ n, whlN test body n ρ S ≠ .bad
  · rw [dif_pos z] at h
    exact ⟨_, h⟩
  · rw [dif_neg z] at h
    exact h.elim
theorem ps_whl {c : Expr} {a : List Stmt} {mc : Env → Sto → R Bool} {mb : MS} (hp : PassesOwn (model X.prog X.w) X.A X.env X.xe) (hc : PT X c (rdT κ Wx mc)) (ha : PSs X a (rdS κ Wx n mb)) : PS X (.While c a [] pos) (rdS κ Wx n fun ρ S => whl mc mb ρ S) := by
  refine PS.imp (ps_while hp hc ha) fun D σ H ⟨as0, H0, as, ρ, S, st0, rs, hS, hl, w⟩ => ?_
  obtain ⟨j, w⟩ := whl_some w
  refine ⟨fun m σ H => ∃ as ρ S, Step as0 H0 as H ∧ RelS κ as H0 H σ ρ ∧ RepS κ as H S ∧ σ.length = n ∧ Out (whlN mc mb m ρ S) (kF κ as0 H0 as H n D Wx) FF, ⟨j, as, ρ, S, st0, rs, hS, hl, w⟩, ?_⟩
  rintro m σ H ⟨as, ρ, S, st0, rs, hS, hl, w⟩
  cases m with
  | zero => exact w.elim
  | succ m =>
    refine rdT.mk rs hS (lift_out st0 rs hl w) fun b S1 as1 H1 w1 st1 hS1 => ?_
    cases b with
    | false =>
      rw [if_neg Bool.false_ne_true] at w1 ⊢
      exact w1 as1 H1 σ (st0.trans st1) st1.imm st1.pr hS1 hl (rs.step st1)
    | true =>
      rw [if_pos rfl] at w1 ⊢
      refine ⟨fun σ H => ∃ as ρ S, Step as0 H0 as H ∧ RelS κ as H0 H σ ρ ∧ RepS κ as H S ∧ σ.length = n ∧ Out (whlN mc mb m ρ S) (kF κ as0 H0 as H n D Wx) FF, fun σ' H' p => ⟨m, Nat.lt_succ_self _, p⟩, as0, H0, as1, ρ, S1, st0.trans st1, rs.step st1, hS1, hl, ?_⟩
      have w1 := w1
      cases q : mb ρ S1 with
      | bad => rw [q] at w1; exact w1
      | exc e S2 => rw [q] at w1; exact w1
      | ok f S2 =>
        rw [q] at w1
        cases f with
        | nx ρ2 => exact fun as' H' σ' st' im pr hS' hl' rs' => ⟨as', ρ2, S2, st', rs', hS', hl', kF.out (st1.imm.trans im) (st1.pr.trans pr) w1⟩
        | ct ρ2 => exact fun as' H' σ' st' im pr hS' hl' rs' => ⟨as', ρ2, S2, st', rs', hS', hl', kF.out (st1.imm.trans im) (st1.pr.trans pr) w1⟩
        | bk ρ2 => exact fun as' H' σ' st' im pr hS' hl' rs' => w1 as' H' σ' st' (st1.imm.trans im) (st1.pr.trans pr) hS' hl' rs'
        | rt x => cases x <;> exact fun as' H' σ' st' im pr hS' hl' => w1 as' H' σ' st' (st1.imm.trans im) (st1.pr.trans pr) hS' hl'
        | ex e ρ2 => exact fun as' H' σ' st' im pr hS' hl' => w1 as' H' σ' st' (st1.imm.trans im) (st1.pr.trans pr) hS' hl'
end
end Ev
set_option maxHeartbeats 2000000
/-! Ev, part 14: for; changes of one's own things; raise, try. -/
namespace Ev
open PySem PySem.Spec PyProof.Rows L2
theorem allD_of : ∀ {ws : List W}, allD ws = true → ∀ w ∈ ws, ∃ d, w = .d d
  | [], _, w, h => nomatch h
  | .d x :: r, e, w, h => by
    rcases List.mem_cons.mp h with rfl | h
    · exact ⟨x, rfl⟩
    · exact allD_of (ws := r) e w h
  | .own _ :: _, e, _, _ => by cases e
section
variable {X : Cx} {sc : SC} {κ : Kx} {Φ : Fn} {Wx : L2.WX} {n : Nat} {e tg iter : Expr} {st : Stmt} {sts : List Stmt} {m : MW} {pos : Pos}
open Classical in
theorem ps_forr (ok : CxOk X sc κ Φ) {k : Sk} {tgs : List Nat} {mws : Env → Sto → R (List W)} {mb : MS} {a : List Stmt} (hn : X.N.length = n) (hp : PassesOwn (model X.prog X.w) X.A X.env X.xe) (hi : PI X tg iter (rdI κ Wx k mws)) (hlt : ∀ i ∈ tgs, i < n)
    (hg : PG X tg (gT κ.K tgs)) (hs : ∀ x, foldedSetIterable iter X.env x = pure x) (ha : PSs X a (rdS κ Wx n mb)) :
    PS X (.For tg iter a [] pos) (rdS κ Wx n fun ρ S => (mws ρ S).lift ρ fun ws S1 => if allD ws = true then (match srcD k ws S1 with
      | none => .bad
      | some ds => forGo (fun d ρ => setTg tgs d ρ) mb (srcG ws S1) ds ρ S1) else .bad) := by
  refine PS.imp (ps_for hp ok.calm hi hg ha hs) fun D σ H ⟨as0, H0, as, ρ, S, st0, rs, hS, hl, w⟩ => ?_
  refine ⟨as, H0, ρ, S, rs, hS, (lift_out st0 rs hl w).imp (fun ws S1 w1 => ?_) fun _ _ z => z⟩
  by_cases al : allD ws = true
  · rw [if_pos al] at w1
    cases q : srcD k ws S1 with
    | none => simp only [q] at w1; exact w1.elim
    | some ds =>
      simp only [q] at w1
      refine ⟨ds, rfl, fun as1 H1 J st1 hS1 io => ?_⟩
      obtain ⟨hlen, ad, ad1, ad2, io⟩ := io
      have ad0 := ad2 (allD_of al)
      subst ad0
      have srcRefl : srcG ws S1 S1 := fun x _ => by
        cases x with
        | d x => cases x <;> trivial
        | own c => trivial
      let St := fun (i : Nat) (σ' : L2.St) (H' : Hp) => ∃ as' ρ' S', Step as0 H0 as' H' ∧ Imm H1 H' ∧ Pre as1 as' ∧ RelS κ as' H0 H' σ' ρ' ∧ RepS κ as' H' S' ∧ σ'.length = n ∧ srcG ws S1 S' ∧ Out (forGo (fun d ρ => setTg tgs d ρ) mb (srcG ws S1) (ds.drop i) ρ' S') (kF κ as0 H0 as' H' n D Wx) FF
      refine ⟨fun i m σ' H' => m = ds.length - i ∧ i ≤ ds.length ∧ St i σ' H', ⟨_, rfl, Nat.zero_le _, as1, ρ, S1, st0.trans st1, Imm.refl, Pre.refl, rs.step st1, hS1, hl, srcRefl, kF.out st1.imm st1.pr w1⟩, ?_⟩
      rintro i m σ' H' ⟨rfl, hi', as', ρ', S', st', im', pr', rs', hS', hl', sg, w'⟩
      obtain ⟨go, stop, yld⟩ := io as' H' S' pr' im' (fun a ha => nomatch ha) hS' sg
      by_cases hlt' : i < ds.length
      · refine .inr ⟨go i hlt', St (i + 1), fun σ2 H2 p => ⟨ds.length - (i + 1), by omega, rfl, hlt', p⟩, fun x H2 y => ?_⟩
        obtain ⟨rd, st2, hS2⟩ := yld i x H2 ds[i] y (by simp [hlt'])
        rw [List.drop_eq_getElem_cons hlt'] at w'
        have w'' : Out (match setTg tgs ds[i] ρ' with
          | none => R.bad
          | some ρ1 => (mb ρ1 S').loop fun ρ2 S2 => if srcG ws S1 S2 then forGo (fun d ρ => setTg tgs d ρ) mb (srcG ws S1) (ds.drop (i + 1)) ρ2 S2 else .bad) (kF κ as0 H0 as' H' n D Wx) FF := w'
        cases qs : setTg tgs ds[i] ρ' with
        | none => simp only [qs] at w''; exact w''.elim
        | some ρ1 =>
          simp only [qs] at w''
          refine setTg_ok rd qs (rs'.step st2) (fun j hj => by rw [hl']; exact hlt j hj) fun σ2 rs2 l2 _ => ?_
          refine ⟨as0, H0, as', ρ1, S', st'.trans st2, rs2, hS2, by rw [l2]; exact hl', ?_⟩
          have w3 := kF.out st2.imm st2.pr w''
          clear w'' w'
          cases qb : mb ρ1 S' with
          | bad => rw [qb] at w3; exact w3
          | exc e S3 => rw [qb] at w3; exact w3
          | ok f S3 =>
            rw [qb] at w3
            have nxt : ∀ ρ2, Out (if srcG ws S1 S3 then forGo (fun d ρ => setTg tgs d ρ) mb (srcG ws S1) (ds.drop (i + 1)) ρ2 S3 else .bad) (kF κ as0 H0 as' H2 n D Wx) FF → ∀ as3 H3 σ3, Step as0 H0 as3 H3 → Imm H2 H3 → Pre as' as3 → RepS κ as3 H3 S3 → σ3.length = n → RelS κ as3 H0 H3 σ3 ρ2 → St (i + 1) σ3 H3 := fun ρ2 w4 as3 H3 σ3 st3 im3 pr3 hS3 hl3 rs3 => by
              by_cases g : srcG ws S1 S3
              · rw [if_pos g] at w4
                exact ⟨as3, ρ2, S3, st3, im'.trans (st2.imm.trans im3), pr'.trans (st2.pr.trans pr3), rs3, hS3, hl3, g, kF.out im3 pr3 w4⟩
              · rw [if_neg g] at w4; exact w4.elim
            cases f with
            | nx ρ2 => exact fun as3 H3 σ3 st3 im3 pr3 hS3 hl3 rs3 => nxt ρ2 w3 as3 H3 σ3 st3 im3 pr3 hS3 hl3 rs3
            | ct ρ2 => exact fun as3 H3 σ3 st3 im3 pr3 hS3 hl3 rs3 => nxt ρ2 w3 as3 H3 σ3 st3 im3 pr3 hS3 hl3 rs3
            | bk ρ2 => exact w3
            | rt x => cases x <;> exact w3
            | ex e ρ2 => exact w3
      · have e : i = ds.length := by omega
        subst e
        rw [List.drop_length] at w'
        exact .inl ⟨stop, w' as' H' σ' st' Imm.refl Pre.refl hS' hl' rs'⟩
  · rw [if_neg al] at w1
    exact w1.elim
/-! a change of a thing of one's own, as a statement -/
theorem own_write {as0 as : List Addr} {H0 H : Hp} {σ : L2.St} {ρ : Env} {S : Sto} {D : Ends} {i : Nat} {c c' : Cell} {a : Addr} {o : HO} (st : Step as0 H0 as H) (rs : RelS κ as H0 H σ ρ) (hS : RepS κ as H S) (hl : σ.length = n) (q : ρ.get i = some (.own c)) (e1 : σ[i]? = some (some (.ref a)))
    (na : a ∉ as) (n0 : H0 a = none) (rc : RepC κ as H a c) (rc2 : RepC κ as (upd H a o) a c') (w : Out (R.ok (Fl.nx (ρ.put i (.own c'))) S) (kF κ as0 H0 as H n D Wx) FF) : D.nx σ (upd H a o) := by
  obtain ⟨u2, hu2, nu⟩ := rc.some
  have im : Imm H (upd H a o) := Imm.write hu2 nu
  exact w as (upd H a o) σ ⟨st.ext, fun b z h i => by rw [upd_ne (ne_of_none h n0)]; exact st.imm b z h i, fun b z h i => by rw [upd_ne (ne_of_none h n0)]; exact st.keep b z h i, fun b h => upd_there b (st.there b h)⟩ im Pre.refl (hS.off na im) hl (rs.mut q e1 hu2 nu rc2)
theorem attrBase {x : Str} {p : Pos} {f : Str} {env : PySem.Env} : attributeBase (.Name x p) f env (eval (.Name x p) env) = eval (.Name x p) env := rfl
theorem fewArgs {a : Expr} {as : List Expr} {cpos : Pos} {env : PySem.Env} (hs : ∀ e ∈ a :: as, nostar e = true) (h : (a :: as).length < 20) : ((backTo cpos (starEach (a :: as) env)).all (fun x => !x.1) && (backToKw cpos (keywordEach [] env)).all (fun x => x.1.isSome)
      && decide ((a :: as).length + ([] : List Keyword).length + (if ([] : List Keyword).isEmpty then 0 else 1) < 30)) = true := by
  have h1 := star_back (pos := cpos) (env := env) hs
  have h2 : (backTo cpos (starEach (a :: as) env)).all (fun x => !x.1) = true := by
    rw [List.all_eq_true]
    intro y hy
    have := List.any_eq_false.mp h1 y hy
    simpa using this
  rw [h2]
  have h3 : (backToKw cpos (keywordEach [] env)).all (fun x => x.1.isSome) = true := rfl
  rw [h3]
  have h4 : (if ([] : List Keyword).isEmpty then 0 else 1) = 0 := rfl
  rw [h4]
  simp only [Bool.true_and, decide_eq_true_eq, List.length_nil]
  omega
/-- x.append(a), x.insert(a, b), x a list of one's own -/
theorem ps_omut (ok : CxOk X sc κ Φ) {mu : Mu} {id : String} {nm : Str} {i : Nat} {x : Str} {p apos cpos : Pos} {a : Expr} {es : List Expr} {ms : Env → Sto → R (List D)} (slot : Slot "list" nm id) (hty : typeOf (.builtin id) = pure (.type "method_descriptor")) (hm : MtR X id (rMu κ mu))
    (hi : sc.N[i]? = some x) (hv : visB sc x = true) (ho : odd x = false) (hs : ∀ e ∈ a :: es, nostar e = true) (hfew : (a :: es).length < 20) (hline : (apos.endLine == cpos.line) = true) (ha : PA X (a :: es) (rdDs κ Wx ms)) :
    PS X (.Expr (.Call (.Attribute (.Name x p) nm apos) (a :: es) [] cpos) pos) (rdS κ Wx n fun ρ S => match ρ.get i with
      | some (.own (.lst xs)) => (ms ρ S).lift ρ fun ds S1 => match mutC mu (.lst xs) ds with
        | some (c', _) => .ok (.nx (ρ.put i (.own c'))) S1
        | none => .bad
      | _ => .bad) := by
  have hr := pe_var (X := X) (i := i) (pos := p) (by rw [ok.N]; exact hi) (ok.vis hv) (odd_db ho) (odd_cd ho)
  have base := ps_expr (pos := pos) (pe_bm (apos := apos) (cpos := cpos) PySem.F.plainAttrs_list slot hty hm hr ha attrBase (fewArgs hs hfew) hline (star_cons (hs a List.mem_cons_self)) (star_back fun e he => hs e (List.mem_cons_of_mem _ he))) rfl
  refine PS.imp base fun D σ H ⟨as0, H0, as, ρ, S, st0, rs, hS, hl, w⟩ => ?_
  cases q : ρ.get i with
  | none => simp only [q] at w; exact w.elim
  | some wv => cases wv with
    | d x => simp only [q] at w; exact w.elim
    | own c => cases c with
      | dct _ => simp only [q] at w; exact w.elim
      | obj _ _ => simp only [q] at w; exact w.elim
      | lst xs =>
        simp only [q] at w
        obtain ⟨b, e1, na, n0, rc⟩ := rs.own i _ q
        refine ⟨_, e1, by obtain ⟨vs, h1, _⟩ := rc; exact .inl ⟨rfl, vs, .inl (.inl h1)⟩, ?_⟩
        refine rdDs.mk rs hS (lift_out st0 rs hl w) fun ds S1 as1 H1 vs w1 st1 r1 hS1 => ?_
        obtain ⟨b', e1', na', n0', rc'⟩ := (rs.step st1).own i _ q
        rw [e1] at e1'
        cases e1'
        cases qm : mutC mu (.lst xs) ds with
        | none => simp only [qm] at w1; exact w1.elim
        | some pp =>
          obtain ⟨c', u'⟩ := pp
          simp only [qm] at w1
          exact ⟨as1, b, _, c', ds, u', rfl, rc', r1, qm, fun v o _ rc2 => own_write (st0.trans st1) (rs.step st1) hS1 hl q e1 na' n0' rc' rc2 (kF.out st1.imm st1.pr w1)⟩
/-- x.extend(a) -/
theorem ps_oext (ok : CxOk X sc κ Φ) {i : Nat} {x : Str} {p apos cpos : Pos} {a : Expr} {ma : MW} (hi : sc.N[i]? = some x) (hv : visB sc x = true) (ho : odd x = false) (hs : nostar a = true) (hline : (apos.endLine == cpos.line) = true) (ha : PE X a (rdW κ Wx ma)) :
    PS X (.Expr (.Call (.Attribute (.Name x p) "extend" apos) [a] [] cpos) pos) (rdS κ Wx n fun ρ S => match ρ.get i with
      | some (.own (.lst xs)) => ((ma ρ S).d.bind fun d S1 => (R.ok (α := List D) [] S1).bind fun ds S2 => .ok (d :: ds) S2).lift ρ fun ds S1 => match mutC .extend (.lst xs) (ds.map (vw S1)) with
        | some (c', _) => .ok (.nx (ρ.put i (.own c'))) S1
        | none => .bad
      | _ => .bad) := by
  have hr := pe_var (X := X) (i := i) (pos := p) (by rw [ok.N]; exact hi) (ok.vis hv) (odd_db ho) (odd_cd ho)
  have hs' : ∀ e ∈ [a], nostar e = true := fun e he => by rw [List.mem_singleton.mp he]; exact hs
  have base := ps_expr (pos := pos) (pe_bm (apos := apos) (cpos := cpos) PySem.F.plainAttrs_list PySem.F.slot_list_extend PySem.F.type_list_extend (mt_ext (X := X) (κ := κ)) hr (pa_cons ha pa_nil (star_cons hs)) attrBase (fewArgs hs' (by simp)) hline (star_cons hs) (star_back fun e he => nomatch he)) rfl
  refine PS.imp base fun D σ H ⟨as0, H0, as, ρ, S, st0, rs, hS, hl, w⟩ => ?_
  cases q : ρ.get i with
  | none => simp only [q] at w; exact w.elim
  | some wv => cases wv with
    | d x => simp only [q] at w; exact w.elim
    | own c => cases c with
      | dct _ => simp only [q] at w; exact w.elim
      | obj _ _ => simp only [q] at w; exact w.elim
      | lst xs =>
        simp only [q] at w
        obtain ⟨b, e1, na, n0, rc⟩ := rs.own i _ q
        refine ⟨_, e1, by obtain ⟨vs, h1, _⟩ := rc; exact .inl ⟨rfl, vs, .inl (.inl h1)⟩, ?_⟩
        refine rdW.mk rs hS (lift_out st0 rs hl w).of_bind.of_d fun y S1 as1 H1 v w1 st1 r1 hS1 => ?_
        obtain ⟨d, rfl, w1⟩ := w1
        obtain ⟨b', e1', na', n0', rc'⟩ := (rs.step st1).own i _ q
        rw [e1] at e1'
        cases e1'
        have w2 : Out (match mutC .extend (.lst xs) ([d].map (vw S1)) with
          | some (c', _) => R.ok (Fl.nx (ρ.put i (.own c'))) S1
          | none => .bad) (kF κ as0 H0 as H n D Wx) FF := w1
        cases qm : mutC .extend (.lst xs) ([d].map (vw S1)) with
        | none => simp only [qm] at w2; exact w2.elim
        | some pp =>
          obtain ⟨c', u'⟩ := pp
          simp only [qm] at w2
          exact ⟨as1, b, _, c', vw S1 d, v, u', rfl, rc', rfl, IsD.vw hS1 r1, qm, fun v o _ rc2 => own_write (st0.trans st1) (rs.step st1) hS1 hl q e1 na' n0' rc' rc2 (kF.out st1.imm st1.pr w2)⟩
end
end Ev
set_option maxHeartbeats 2000000
/-! Ev, part 15: slices, isinstance, methods of texts, tuples, dicts; list(..), dicts. -/
namespace Ev
open PySem PySem.Spec PyProof.Rows L2
/-! ### slices -/
theorem slcI_eq (n d : Nat) (o : Option Int) : slcI n d o = HT.sIx n d o := by
  cases o with
  | none => rfl
  | some i => rfl
section
variable {κ : Kx} {as : List Addr} {H : Hp}
theorem IsDs.cut {ds : List D} {vs : List V} (h : IsDs κ as H ds vs) (lo hi : Option Int) : IsDs κ as H (cutL ds lo hi) (cutV vs lo hi) := by
  unfold cutL cutV
  rw [slcI_eq, slcI_eq, h.length]
  exact (h.drop _).take _
theorem cut_str (z : Nm) (lo hi : Option Int) : cutS (tx z) lo hi = tx (cutL z lo hi) := by
  unfold cutS cutL
  rw [slcI_eq, slcI_eq, tx_len, tx_list]
  rfl
theorem cut_len {α : Type} (xs : List α) (lo hi : Option Int) : (cutL xs lo hi).length ≤ xs.length := by
  unfold cutL
  rw [List.length_take, List.length_drop]
  omega
theorem cut_all {α : Type} {xs : List α} {lo hi : Option Int} (h : HT.sIx xs.length 0 lo = 0 ∧ HT.sIx xs.length xs.length hi = xs.length) : cutL xs lo hi = xs := by
  unfold cutL
  rw [slcI_eq, slcI_eq, h.1, h.2]
  simp
theorem szOk_le {a b : Nat} (h : szOk b = true) (le : a ≤ b) : szOk a = true := by
  have := szOk_of h
  rw [sizeLine_eq] at this
  exact decide_eq_true (by omega)
end
section
variable {X : Cx} {sc : SC} {κ : Kx} {Φ : Fn} {Wx : L2.WX} {a b c : Expr} {ma mb mc : MW} {pos : Pos}
def partE (lo : Option Expr) (e : List Ex) : Prop := match lo, e with
  | none, [] => True
  | some _, [_] => True
  | _, _ => False
/-- a part's reading -/
def rdO (κ : Kx) (Wx : L2.WX) (m : Env → Sto → R (Option Int)) : TO := fun σ H Q => ∃ as H0 ρ S, RelS κ as H0 H σ ρ ∧ RepS κ as H S ∧ Out (m ρ S) (fun o S' => ∀ as' H', Step as H as' H' → RepS κ as' H' S' → Q o H') (kX κ as H σ Wx)
theorem po_non : PO X none (rdO κ Wx fun _ S => (R.ok (α := List D) [] S).bind fun l S2 => R.of S2 (partD l)) := ⟨fun pins s σ H Q I ⟨as, H0, ρ, S, rs, hS, w⟩ => po_none.run pins s σ H Q I (w as H Step.refl hS)⟩
theorem po_one (ha : PE X a (rdW κ Wx ma)) : PO X (some a) (rdO κ Wx fun ρ S => ((ma ρ S).d.bind fun d S1 => (R.ok (α := List D) [] S1).bind fun ds S2 => .ok (d :: ds) S2).bind fun l S2 => R.of S2 (partD l)) := ⟨fun pins s σ H Q I ⟨as, H0, ρ, S, rs, hS, w⟩ => by
  refine (po_some ha).run pins s σ H Q I (rdW.mk rs hS w.of_bind.of_bind.of_d fun x S1 as1 H1 v w1 st1 r1 hS1 => ?_)
  obtain ⟨d, rfl, w1⟩ := w1
  have w2 : Out (R.of S1 (partD [d])) (fun o S' => ∀ as' H', Step as H as' H' → RepS κ as' H' S' → Q o H') (kX κ as H σ Wx) := w1
  cases d with
  | int i => exact ⟨i, r1, w2 as1 H1 st1 hS1⟩
  | _ => exact w2.elim⟩
theorem pd_slc (ok : CxOk X sc κ Φ) {lo hi : Option Expr} {p2 : Pos} {ml mu : Env → Sto → R (Option Int)} (ha : PE X a (rdW κ Wx ma)) (hl : PO X lo (rdO κ Wx ml)) (hu : PO X hi (rdO κ Wx mu)) :
    PE X (.Subscript a (.Slice lo hi none p2) pos) (rdW κ Wx fun ρ S => (ma ρ S).bind fun x S1 => (ml ρ S1).bind fun l S2 => (mu ρ S2).bind fun u S3 => (slcD (x.vw S3) l u S3).w) := by
  have hr : SlR X (fun x lo hi H Q => rSlA X.K x lo hi H Q ∨ rSlS x lo hi H Q) := SlR.or sl_tupA sl_str
  refine PE.imp (pe_slice hr ha hl hu) fun σ H Q ⟨as, H0, ρ, S, rs, hS, w⟩ => ?_
  refine rdW.mk rs hS w.of_bind fun x S1 as1 H1 v w1 st1 r1 hS1 => ?_
  refine ⟨as1, H0, ρ, S1, rs.step st1, hS1, w1.of_bind.imp (fun l S2 w2 as2 H2 st2 hS2 => ?_) fun _ _ z => kX.on st1 z⟩
  refine ⟨as2, H0, ρ, S2, (rs.step st1).step st2, hS2, w2.of_bind.imp (fun u S3 w3 as3 H3 st3 hS3 => ?_) fun _ _ z => kX.on (st1.trans st2) z⟩
  have w4 := w3.of_w
  have rv := ((r1.step st2).step st3).vw hS3
  have st := (st1.trans st2).trans st3
  cases q : x.vw S3 with
  | tup xs =>
    rw [q] at rv
    obtain ⟨p, vs, rfl, hT, hd⟩ := rv
    rw [ok.hκ] at hT
    have w5 : kW κ as H Q (.d (.tup (cutL xs l u))) S3 := by simp only [q] at w4; exact w4
    refine .inl ⟨p, vs, rfl, hT, fun z => ?_, fun _ p' hp => ?_⟩
    · rw [cut_all (by rw [hd.length]; exact z)] at w5
      exact kW.here (w := .d (.tup xs)) (kW.on st w5) ⟨p, vs, rfl, by rw [ok.hκ]; exact hT, hd⟩ hS3
    · exact kD.tup (kW.d (kW.on st w5)) hS3 (hd.cut l u) p' hp
  | str z =>
    rw [q] at rv
    have w5 : kW κ as H Q (.d (.str (cutL z l u))) S3 := by simp only [q] at w4; exact w4
    refine .inr ⟨tx z, rv.1, by rw [tx_len]; exact szOk_of rv.2, ?_⟩
    rw [cut_str]
    exact kW.here (w := .d (.str (cutL z l u))) (kW.on st w5) ⟨rfl, szOk_le rv.2 (cut_len _ _ _)⟩ hS3
  | _ => simp only [q] at w4; exact w4.elim
theorem pn_slc (ok : CxOk X sc κ Φ) {lo hi : Option Expr} {p2 : Pos} {ml mu : Env → Sto → R (Option Int)} (ha : PE X a (rdW κ Wx ma)) (hl : PO X lo (rdO κ Wx ml)) (hu : PO X hi (rdO κ Wx mu)) :
    PE X (.Subscript a (.Slice lo hi none p2) pos) (rdN κ Wx fun ρ S => (ma ρ S).bind fun x S1 => (ml ρ S1).bind fun l S2 => (mu ρ S2).bind fun u S3 => match x.vw S3 with
      | .lst xs => .ok (.lst (cutL xs l u)) S3
      | .scr ns => .ok (.lst ((cutL ns l u).map .int)) S3
      | _ => .bad) := by
  refine PE.imp (pe_slice sl_list ha hl hu) fun σ H Q ⟨as, H0, ρ, S, rs, hS, w⟩ => ?_
  refine rdW.mk rs hS w.of_bind fun x S1 as1 H1 v w1 st1 r1 hS1 => ?_
  refine ⟨as1, H0, ρ, S1, rs.step st1, hS1, w1.of_bind.imp (fun l S2 w2 as2 H2 st2 hS2 => ?_) fun _ _ z => kX.on st1 z⟩
  refine ⟨as2, H0, ρ, S2, (rs.step st1).step st2, hS2, w2.of_bind.imp (fun u S3 w4 as3 H3 st3 hS3 => ?_) fun _ _ z => kX.on (st1.trans st2) z⟩
  have rv := ((r1.step st2).step st3).vw hS3
  have st := (st1.trans st2).trans st3
  cases q : x.vw S3 with
  | lst xs =>
    rw [q] at rv
    obtain ⟨p, vs, rfl, hT, hd⟩ := rv
    have w5 : kN κ as H Q (.lst (cutL xs l u)) S3 := by simp only [q] at w4; exact w4
    exact ⟨p, vs, rfl, .inl hT, kN.lst (kN.on st w5) hS3 (hd.cut l u)⟩
  | scr ns =>
    rw [q] at rv
    obtain ⟨p, rfl, hT⟩ := rv
    rw [ok.hκ] at hT
    have w5 : kN κ as H Q (.lst ((cutL ns l u).map .int)) S3 := by simp only [q] at w4; exact w4
    have e : (cutL ns l u).map D.int = cutL (ns.map D.int) l u := by
      unfold cutL
      rw [List.map_take, List.map_drop, List.length_map]
    rw [e] at w5
    exact ⟨p, _, rfl, hT, kN.lst (kN.on st w5) hS3 ((scr_ds (ns := ns)).cut l u)⟩
  | _ => simp only [q] at w4; exact w4.elim
/-! ### isinstance -/
def tyN : D → Option String
  | .non => some "NoneType"
  | .bl _ => some "bool"
  | .int _ => some "int"
  | .str _ => some "str"
  | .tup _ => some "tuple"
  | .lst _ => some "list"
  | .scr _ => some "list"
  | .dic _ => some "dict"
  | .kdic _ => some "dict"
  | _ => none
def tyNames : List String := ["bool", "int", "str", "tuple", "list", "dict"]
theorem kit_tab : (["NoneType", "bool", "int", "str", "tuple", "list", "dict"].all fun a => tyNames.all fun b => decide (kitB a b = some (b == a || (a == "bool" && b == "int")))) = true := by decide +kernel
theorem tyN_isi {d : D} {t b : String} (h : tyN d = some t) (hb : b ∈ tyNames) : isiD d b = (b == t || (t == "bool" && b == "int")) ∧ kitB t b = some (isiD d b) := by
  have k := List.all_eq_true.mp kit_tab
  have e : t ∈ ["NoneType", "bool", "int", "str", "tuple", "list", "dict"] ∧ isiD d b = (b == t || (t == "bool" && b == "int")) := by
    cases d <;> cases h <;> refine ⟨by simp, ?_⟩ <;> (simp only [tyNames, List.mem_cons, List.mem_nil_iff, or_false] at hb; rcases hb with rfl | rfl | rfl | rfl | rfl | rfl <;> rfl)
  refine ⟨e.2, ?_⟩
  rw [e.2]
  exact of_decide_eq_true (List.all_eq_true.mp (k t e.1) b hb)
theorem tyX_of (hκ : κ.K = X.K) (hw : κ.w = X.w) {as : List Addr} {H : Hp} {d : D} {v : V} {t : String} (h : IsV κ as H d v) (e : tyN d = some t) : TyX X.K H v (.type t) := by
  cases d with
  | non => cases e; cases h; exact .base (.non)
  | bl b => cases e; cases h; exact .base (.bl b)
  | int i => cases e; cases h; exact .base (.int i)
  | str x => cases e; cases h.1; exact .base (.str _)
  | tup ds =>
    cases e
    obtain ⟨a, vs, rfl, hq, _⟩ := h
    rw [hκ] at hq
    rcases hq with (hq | ⟨o, hq⟩) | ⟨o, its, n, h1, h2, _⟩
    · exact .base (.tup hq)
    · exact .fTuple hq
    · exact .kTuple h1 h2
  | lst ds =>
    cases e
    obtain ⟨a, vs, rfl, hq, _⟩ := h
    rcases hq with hq | ⟨o, hq⟩
    · exact .base (.lst hq)
    · exact .base (.frz hq)
  | scr ns =>
    cases e
    obtain ⟨a, rfl, hq⟩ := h
    rw [hκ] at hq
    rcases hq with (hq | ⟨o, hq⟩) | ⟨o, its, n, h1, h2, _⟩
    · exact .base (.lst hq)
    · exact .base (.frz hq)
    · exact .kList h1 h2
  | dic kvs =>
    cases e
    obtain ⟨a, vs, rfl, hq, _⟩ := h
    rcases hq with hq | ⟨o, hq⟩
    · exact .base (.dK hq)
    · exact .fDict hq
  | kdic kvs =>
    cases e
    obtain ⟨a, rfl, kd, _⟩ := h
    obtain ⟨es, n, kk⟩ := kd.lit
    rw [hκ, hw] at kk
    exact .kDict kk.at_ rfl
  | _ => cases e
theorem tyN_ok {d : D} (z : isiOk d = true) : ∃ t, tyN d = some t := by
  cases d <;> first | exact ⟨_, rfl⟩ | cases z
theorem boot_ty {T : String} (h : T ∈ tyNames) : bootBuiltins (Str.ofString T) = some (.type T) ∧ Str.ofString T ≠ "__name__" ∧ (Str.ofString T == ("__debug__" : Str)) = false := by
  simp only [tyNames, List.mem_cons, List.mem_nil_iff, or_false] at h
  rcases h with rfl | rfl | rfl | rfl | rfl | rfl <;> exact ⟨by decide +kernel, by decide +kernel, by decide +kernel⟩
theorem pd_isi (ok : CxOk X sc κ Φ) {T : String} {p p' : Pos} (hT : T ∈ tyNames) (hg : glB sc "isinstance" = true) (hgT : glB sc (Str.ofString T) = true) (hs : nostar a = true) (ha : PE X a (rdW κ Wx ma)) :
    PE X (.Call (.Name "isinstance" p) [a, .Name (Str.ofString T) p'] [] pos) (rdW κ Wx fun ρ S => (ma ρ S).bind fun x S1 => R.chk (isiOk (x.vw S1)) (.ok (.d (.bl ([T].any (isiD (x.vw S1))))) S1)) := by
  obtain ⟨b1, b2, b3⟩ := boot_ty hT
  have hTy : PE X (.Name (Str.ofString T) p') (tC (.ty T)) := pe_bltn (ok.gl hgT) (ok.blt T (by simp only [tyNames, List.mem_cons, List.mem_nil_iff, or_false] at hT; rcases hT with rfl | rfl | rfl | rfl | rfl | rfl <;> decide)) b1 rfl b2 b3
  refine PE.imp (pe_callB (id := "isinstance") call_isi (ok.gl hg) (ok.blt "isinstance" (by decide)) (by decide +kernel) (pa_cons ha (pa_cons hTy pa_nil) (star_cons hs)) (by decide +kernel) (by decide +kernel) (star_cons hs) rfl) fun σ H Q ⟨as, H0, ρ, S, rs, hS, w⟩ => ?_
  refine rdW.mk rs hS w.of_bind fun x S1 as1 H1 v w1 st1 r1 hS1 => ?_
  obtain ⟨z, w2⟩ := w1.of_chk
  obtain ⟨t, e⟩ := tyN_ok z
  have rv := r1.vw hS1
  obtain ⟨_, k⟩ := tyN_isi e hT
  have w3 : kW κ as H Q (.d (.bl (isiD (x.vw S1) T))) S1 := by
    have : ([T].any (isiD (x.vw S1))) = isiD (x.vw S1) T := by simp
    rw [this] at w2
    exact w2
  exact ⟨v, .ty T, .type t, .type T, _, rfl, .ty T, tyX_of ok.hκ ok.hw rv e, kit_ty k, kW.here (w := .d (.bl _)) (kW.on st1 w3) rfl hS1⟩
/-! ### methods -/
def attrOk : Expr → Bool
  | .Call (.Name _ _) [] [] _ => false
  | _ => true
theorem attrBase' {o : Expr} {f : Str} {env : PySem.Env} (h : attrOk o = true) : attributeBase o f env (eval o env) = eval o env := by
  cases o with
  | Call g as ks p =>
    cases g with
    | Name x q =>
      cases as with
      | nil => cases ks with
        | nil => cases h
        | cons _ _ => rfl
      | cons _ _ => rfl
    | _ => rfl
  | _ => rfl

theorem strs_of {as : List Addr} {H : Hp} : ∀ {ds : List D} {vs : List V} {zs : List Nm}, toStrs ds = some zs → IsDs κ as H ds vs → vs = (zs.map tx).map V.str
  | [], [], zs, e, _ => by cases e; rfl
  | [], _ :: _, _, _, h => h.elim
  | d :: r, [], _, _, h => h.elim
  | d :: r, v :: vs, zs, e, h => by
    cases d with
    | str z =>
      have e' : (toStrs r).map (z :: ·) = some zs := e
      obtain ⟨ys, e1, e2⟩ := Option.map_eq_some_iff.mp e'
      subst e2
      rw [strs_of e1 h.2]
      have := h.1.1
      subst this
      rfl
    | _ => cases e
theorem join_eq (a : Nm) : ∀ zs : List Nm, Txt.join (tx a) (zs.map tx) = tx (joinS a zs) := fun zs => by
  rw [show Txt.join (tx a) (zs.map tx) = Str.join (tx a) (zs.map tx) from by first | exact TL.join_eq _ _ | exact glued_eq_join _ _]
  induction zs with
  | nil => rfl
  | cons z r ih =>
    cases r with
    | nil => rfl
    | cons z2 r2 =>
      show tx z ++ tx a ++ Str.join (tx a) ((z2 :: r2).map tx) = tx (z ++ a ++ joinS a (z2 :: r2))
      rw [ih, tx_app, tx_app]
theorem joinS_len (a : Nm) : ∀ zs : List Nm, (joinS a zs).length ≤ (zs.map (·.length)).sum + zs.length * a.length
  | [] => by simp [joinS]
  | [z] => by simp [joinS]
  | z :: z2 :: r => by
    have ih := joinS_len a (z2 :: r)
    show (z ++ a ++ joinS a (z2 :: r)).length ≤ _
    rw [List.length_append, List.length_append, List.map_cons, List.sum_cons, List.length_cons (a := z), Nat.add_mul]
    omega
theorem pd_join (ok : CxOk X sc κ Φ) {apos : Pos} (hs : nostar b = true) (hbase : attributeBase a "join" X.env (eval a X.env) = eval a X.env) (hline : (apos.endLine == pos.line) = true) (ha : PE X a (rdW κ Wx ma)) (hb : PE X b (rdW κ Wx mb)) :
    PE X (.Call (.Attribute a "join" apos) [b] [] pos) (rdW κ Wx fun ρ S => (ma ρ S).d.bind fun x S1 => match x with
      | .str s => (mb ρ S1).bind fun y S2 => (joinD s (y.vw S2) S2).w
      | _ => .bad) := by
  refine PE.imp (pe_join ha hb (star_cons hs) hbase hline) fun σ H Q ⟨as, H0, ρ, S, rs, hS, w⟩ => ?_
  refine rdW.mk rs hS w.of_bind.of_d fun x S1 as1 H1 v w1 st1 r1 hS1 => ?_
  obtain ⟨d, rfl, w1⟩ := w1
  cases d with
  | str s =>
    have w1 : Out ((mb ρ S1).bind fun y S2 => (joinD s (y.vw S2) S2).w) (kW κ as H Q) (kX κ as H σ Wx) := w1
    have rv : v = .str (tx s) := r1.1
    refine ⟨⟨tx s, rv⟩, rdW.mk (rs.step st1) hS1 (w1.onW st1).of_bind fun y S2 as2 H2 v2 w2 st2 r2 hS2 => ?_⟩
    obtain ⟨d2, e, k⟩ := Out.of_of w2.of_w
    obtain ⟨zs, e1, e2⟩ := Option.bind_eq_some_iff.mp e
    obtain ⟨ds, e3, e4⟩ := Option.bind_eq_some_iff.mp e1
    by_cases z : szOk ((zs.map (·.length)).sum + zs.length * s.length) = true
    · rw [if_pos z] at e2
      cases e2
      obtain ⟨p, vs, rfl, hq, hd⟩ := items_of ok.hκ (r2.vw hS2) e3
      have ev := strs_of e4 hd
      subst ev
      have el : ((zs.map tx).map (·.length)).sum + (zs.map tx).length * (tx s).length = (zs.map (·.length)).sum + zs.length * s.length := by
        have : ((·.length) ∘ tx : Nm → Nat) = (·.length) := funext tx_len
        rw [List.length_map, tx_len, List.map_map, this]
      refine ⟨tx s, p, zs.map tx, rv, rfl, hq, by rw [el]; have := szOk_of z; rw [sizeLine_eq] at this; exact this, ?_⟩
      rw [join_eq]
      exact kW.here (w := .d (.str (joinS s zs))) (kW.on st2 k) ⟨rfl, szOk_le z (joinS_len s zs)⟩ hS2
    · rw [if_neg z] at e2; cases e2
  | _ => exact w1.elim
theorem upper_eq {z : Nm} (h : z.all (fun c => decide (c < 128)) = true) : Txt.upper (tx z) = tx (upS z) := by
  have tab : ((List.range 128).all fun c => decide (Unicode.upperOf c = [if 97 ≤ c ∧ c ≤ 122 then c - 32 else c])) = true := by decide +kernel
  have one : ∀ c < 128, Unicode.upperOf c = [if 97 ≤ c ∧ c ≤ 122 then c - 32 else c] := fun c hc => of_decide_eq_true (List.all_eq_true.mp tab c (List.mem_range.mpr hc))
  have h' : ∀ c ∈ z, c < 128 := fun c hc => of_decide_eq_true (List.all_eq_true.mp h c hc)
  have e : ((tx z).cps.mapIdx fun i c => (Unicode.upperOf c).toArray).flatten = (upS z).toArray := by
    apply Array.toList_inj.mp
    have e1 : ((tx z).cps.mapIdx fun i c => (Unicode.upperOf c).toArray) = ((tx z).cps.map fun c => (Unicode.upperOf c).toArray) := by
      apply Array.toList_inj.mp
      simp [List.mapIdx_eq_zipIdx_map, tx]
      apply List.ext_getElem?
      intro i
      simp only [List.getElem?_map, List.getElem?_zipIdx, Option.map_map]
      rfl
    rw [e1, Array.toList_flatten]
    simp only [tx, upS, List.map_toArray, List.map_map]
    clear e1 h
    induction z with
    | nil => rfl
    | cons c r ih =>
      have ih := ih fun x hx => h' x (List.mem_cons_of_mem _ hx)
      simp only [List.map_cons, List.flatten_cons, Function.comp, one c (h' c List.mem_cons_self)] at ih ⊢
      rw [ih]
      rfl
  show (⟨((tx z).cps.mapIdx fun i c => (Unicode.upperOf c).toArray).flatten⟩ : Str) = _
  rw [e]
  rfl
theorem pd_upper (ok : CxOk X sc κ Φ) {apos : Pos} (hbase : attributeBase a "upper" X.env (eval a X.env) = eval a X.env) (hline : (apos.endLine == pos.line) = true) (ha : PE X a (rdW κ Wx ma)) :
    PE X (.Call (.Attribute a "upper" apos) [] [] pos) (rdW κ Wx fun ρ S => (ma ρ S).bind fun x S1 => R.chk (rcv .upper (x.vw S1)) ((R.ok (α := List D) [] S1).bind fun ds S2 => (mthD .upper (x.vw S2) ds S2).w)) := by
  refine PE.imp (pe_upper ha hbase hline) fun σ H Q ⟨as, H0, ρ, S, rs, hS, w⟩ => ?_
  refine rdW.mk rs hS w.of_bind fun x S1 as1 H1 v w1 st1 r1 hS1 => ?_
  obtain ⟨z, w2⟩ := w1.of_chk
  have rv := r1.vw hS1
  cases q : x.vw S1 with
  | str s =>
    rw [q] at rv
    have w3 := w2.of_bind.of_w
    have w3 : Out (mthD .upper (x.vw S1) [] S1) (fun d S => kW κ as H Q (.d d) S) (kX κ as H σ Wx) := w3
    rw [q] at w3
    obtain ⟨z, w4⟩ := Out.of_chk w3
    obtain ⟨z1, z2⟩ := ba2 z
    refine ⟨⟨tx s, rv.1⟩, tx s, rv.1, rfl, by rw [tx_len]; exact of_decide_eq_true z2, ?_⟩
    rw [upper_eq z1]
    exact kW.here (w := .d (.str (upS s))) (kW.on st1 w4) ⟨rfl, by unfold upS; rw [List.length_map]; exact rv.2⟩ hS1
  | _ => rw [q] at z; cases z
/-! dicts -/
theorem isd_of {as : List Addr} {H : Hp} {kvs : List (Ky × D)} {v : V} (h : IsV κ as H (.dic kvs) v) : ∃ a kws, v = .ref a ∧ L2.IsD H a ∧ Rd H a (.dK kws) ∧ IsKs κ as H kvs kws := by
  obtain ⟨a, kws, e, r, k⟩ := h
  exact ⟨a, kws, e, .inl ⟨kws, r⟩, r, k⟩
theorem getD_of {as : List Addr} {H : Hp} {kvs : List (Ky × D)} {kws : List (L2.Key × V)} {q : Ky} {d : D} {v : V} (k : IsKs κ as H kvs kws) (h : IsD κ as H d v) : IsD κ as H ((lookK kvs q).getD d) ((valV kws (kx q)).getD v) := by
  cases e : lookK kvs q with
  | none => rw [look_none k e]; exact h
  | some x =>
    obtain ⟨u, h1, h2⟩ := look_val k e
    rw [h1]; exact h2
theorem kd_get {pins : List (Addr × Obj)} {σ : L2.St} {H : Hp} {s : Shared} {A : Around} {d : Addr} {es : Array DictEntry} {n : Nat} {z : Str} {u : Value} {r : Option Value} {Q : Value → Shared → Prop} (D : KDict X.K X.w d es n) (I : Inv X pins σ H s) (ry : RelV (.str z) u) (e : PySem.W.nsIn X.K d z = some r)
    (h : ∀ s', Inv X pins σ H s' → Q (r.getD .none) s') : wpAny (model X.prog X.w) A (PySem.call (.builtin "dict.get") [.ref d, u]) Q E s := by
  obtain ⟨t, rfl⟩ := ry
  have hm := PySem.W.mapOf_K (prog := X.prog) (w := X.w) I.kIn D.at_ D.lit
  refine call_meetsIn PySem.F.slot_dict_get (kd_type D I) PySem.F.entry_dict_get (PySem.F.args_dict_get_2 _ _) (meets_dict_get (knd := strKind X.prog X.w) (hkey := strKind_is X.prog X.w z t) (hd := D.low)) ⟨_, hm, ?_⟩
  rw [PySem.W.find_K D.at_ e]
  exact h _ (I.tok _)
/-- o.get(e), o a dict or a written dict -/
def tGetA (X : Cx) (td ty : TE) : TE := fun σ H Q => td σ H fun x H1 => ∃ a, x = .ref a ∧ (L2.IsD H1 a ∨ ∃ es n, KDict X.K X.w a es n) ∧ ty σ H1 fun y H2 => (∃ o, DGet H2 a y o ∧ Q (o.getD .non) H2) ∨ ∃ es n z r, KDict X.K X.w a es n ∧ y = .str z ∧ PySem.W.nsIn X.K a z = some r ∧ ∃ v, RelV v (r.getD .none) ∧ Q v H2
theorem pe_getA {o e : Expr} {apos cpos : Pos} {td ty : TE} (hu : X.A.units + 1 < cLine) (ho : PE X o td) (he : PE X e ty) (m : M1 X o "get" apos e cpos) : PE X (.Call (.Attribute o "get" apos) [e] [] cpos) (tGetA X td ty) := by
  refine ⟨fun pins s σ H Q I h => ?_⟩
  refine wpAny_Call_method m.base m.few m.line PySem.F.plainAttrs_dict PySem.F.slot_dict_get PySem.F.type_dict_get (thn (ho.run pins s σ H _ I h) fun u s1 ⟨x, H1, I1, rx, a, ex, d, q1⟩ => ?_)
  subst ex
  obtain rfl : u = Value.ref a := rx
  have tt : s1.TypeIs (.ref a) "dict" ∧ (∀ b, Value.ref a = .ref b → ∃ ob, s1.heap.get? b = some ob ∧ ob.dict = none) := by
    rcases d with d | ⟨es, n, D⟩
    · obtain ⟨t1, t2, _⟩ := isD_at I1 d
      exact ⟨t1, t2⟩
    · refine ⟨kd_type D I1, fun b q => ?_⟩
      cases q
      exact ⟨_, I1.kIn _ _ D.at_, rfl⟩
  refine ⟨tt.1, tt.2, ?_⟩
  rw [m.trees]
  refine Calls.callWith_builtin rfl (Calls.evalArgs_plain (Calls.spliced_cons (thn (he.run pins s1 σ H1 _ I1 q1) fun iv s2 ⟨y, H2, I2, ry, q2⟩ => Calls.spliced_nil ?_)))
  rcases q2 with ⟨ov, g, q2⟩ | ⟨es, n, z, r, D, rfl, e, v, rv, q2⟩
  · exact d_get1 hu I2 g ry fun w' s3 I3 rw' => ⟨_, H2, I3, rw', q2⟩
  · exact kd_get D I2 ry e fun s3 I3 => ⟨v, H2, I3, rv, q2⟩
theorem kd_get2 {pins : List (Addr × Obj)} {σ : L2.St} {H : Hp} {s : Shared} {A : Around} {d : Addr} {es : Array DictEntry} {n : Nat} {z : Str} {u f : Value} {r : Option Value} {Q : Value → Shared → Prop} (D : KDict X.K X.w d es n) (I : Inv X pins σ H s) (ry : RelV (.str z) u) (e : PySem.W.nsIn X.K d z = some r)
    (h : ∀ s', Inv X pins σ H s' → Q (r.getD f) s') : wpAny (model X.prog X.w) A (PySem.call (.builtin "dict.get") [.ref d, u, f]) Q E s := by
  obtain ⟨t, rfl⟩ := ry
  have hm := PySem.W.mapOf_K (prog := X.prog) (w := X.w) I.kIn D.at_ D.lit
  refine call_meetsIn PySem.F.slot_dict_get (kd_type D I) PySem.F.entry_dict_get (PySem.F.args_dict_get_3 _ _ _) (meets_dict_get_default (knd := strKind X.prog X.w) (hkey := strKind_is X.prog X.w z t) (hd := D.low) (dflt := f)) ⟨_, hm, ?_⟩
  rw [PySem.W.find_K D.at_ e]
  exact h _ (I.tok _)
def tGetA2 (X : Cx) (td ty tz : TE) : TE := fun σ H Q => td σ H fun x H1 => ∃ a, x = .ref a ∧ (L2.IsD H1 a ∨ ∃ es n, KDict X.K X.w a es n) ∧ ty σ H1 fun y H2 => tz σ H2 fun z H3 => (∃ o, DGet H3 a y o ∧ Q (o.getD z) H3) ∨ ∃ es n q r, KDict X.K X.w a es n ∧ y = .str q ∧ PySem.W.nsIn X.K a q = some r ∧ ((r = none ∧ Q z H3) ∨ ∃ v u, r = some u ∧ RelV v u ∧ Q v H3)
theorem pe_getA2 {o e f : Expr} {apos cpos : Pos} {td ty tz : TE} (hu : X.A.units + 1 < cLine) (ho : PE X o td) (he : PE X e ty) (hf : PE X f tz) (m : M2 X o "get" apos e f cpos) : PE X (.Call (.Attribute o "get" apos) [e, f] [] cpos) (tGetA2 X td ty tz) := by
  refine ⟨fun pins s σ H Q I h => ?_⟩
  refine wpAny_Call_method m.base m.few m.line PySem.F.plainAttrs_dict PySem.F.slot_dict_get PySem.F.type_dict_get (thn (ho.run pins s σ H _ I h) fun u s1 ⟨x, H1, I1, rx, a, ex, d, q1⟩ => ?_)
  subst ex
  obtain rfl : u = Value.ref a := rx
  have tt : s1.TypeIs (.ref a) "dict" ∧ (∀ b, Value.ref a = .ref b → ∃ ob, s1.heap.get? b = some ob ∧ ob.dict = none) := by
    rcases d with d | ⟨es, n, D⟩
    · obtain ⟨t1, t2, _⟩ := isD_at I1 d
      exact ⟨t1, t2⟩
    · refine ⟨kd_type D I1, fun b q => ?_⟩
      cases q
      exact ⟨_, I1.kIn _ _ D.at_, rfl⟩
  refine ⟨tt.1, tt.2, ?_⟩
  rw [m.trees]
  refine Calls.callWith_builtin rfl (Calls.evalArgs_plain (Calls.spliced_cons (thn (he.run pins s1 σ H1 _ I1 q1) fun iv s2 ⟨y, H2, I2, ry, q2⟩ =>
    Calls.spliced_cons (thn (hf.run pins s2 σ H2 _ I2 q2) fun fv s3 ⟨z, H3, I3, rz, q3⟩ => Calls.spliced_nil ?_))))
  rcases q3 with ⟨ov, g, q3⟩ | ⟨es, n, q, r, D, rfl, e, q3⟩
  · exact d_get2 hu I3 g ry rz fun w' s4 I4 rw' => ⟨_, H3, I4, rw', q3⟩
  · refine kd_get2 D I3 ry e fun s4 I4 => ?_
    rcases q3 with ⟨rfl, q3⟩ | ⟨v, u, rfl, rv, q3⟩
    · exact ⟨z, H3, I4, rz, q3⟩
    · exact ⟨v, H3, I4, rv, q3⟩
theorem vw_kd {x : W} {S S' : Sto} {kvs : List (Nm × D)} (h : x.vw S = .kdic kvs) : x.vw S' = .kdic kvs := by
  cases x with
  | own c => cases c <;> cases h
  | d y =>
    cases y with
    | ref a =>
      have h : (match S[a]? with
        | some c => c.vw
        | none => D.ref a) = .kdic kvs := h
      cases e : S[a]? with
      | none => rw [e] at h; cases h
      | some c => rw [e] at h; cases c <;> cases h
    | _ => exact h
theorem pd_get1 (ok : CxOk X sc κ Φ) {apos : Pos} (hs : nostar b = true) (hbase : attributeBase a "get" X.env (eval a X.env) = eval a X.env) (hline : (apos.endLine == pos.line) = true) (ha : PE X a (rdW κ Wx ma)) (hb : PE X b (rdW κ Wx mb)) :
    PE X (.Call (.Attribute a "get" apos) [b] [] pos) (rdW κ Wx fun ρ S => (ma ρ S).bind fun x S1 => R.chk (rcv .get (x.vw S1)) (((mb ρ S1).d.bind fun d S1 => (R.ok (α := List D) [] S1).bind fun ds S2 => .ok (d :: ds) S2).bind fun ds S2 => (mthD .get (x.vw S2) ds S2).w)) := by
  have hu : X.A.units + 1 < cLine := by have := ok.un; omega
  refine PE.imp (pe_getA (apos := apos) (cpos := pos) hu ha hb ⟨hbase, fewArgs (fun e he => by rw [List.mem_singleton.mp he]; exact hs) (by simp), hline, by rw [star_cons hs]; rfl⟩) fun σ H Q ⟨as, H0, ρ, S, rs, hS, w⟩ => ?_
  refine rdW.mk rs hS w.of_bind fun x S1 as1 H1 v w1 st1 r1 hS1 => ?_
  obtain ⟨z, w2⟩ := w1.of_chk
  have rv := r1.vw hS1
  cases q : x.vw S1 with
  | dic kvs =>
    rw [q] at rv
    obtain ⟨a, kws, rfl, i1, _, _⟩ := isd_of rv
    refine ⟨a, rfl, .inl i1, rdW.mk (rs.step st1) hS1 (w2.onW st1).of_bind.of_bind.of_d fun y S2 as2 H2 v2 w3 st2 r2 hS2 => ?_⟩
    obtain ⟨d, rfl, w3⟩ := w3
    have w4 : Out (mthD .get (x.vw S2) [d] S2) (fun d S => kW κ as1 H1 Q (.d d) S) (kX κ as1 H1 σ Wx) := Out.of_w w3
    have rv2 := (r1.step st2).vw hS2
    cases q2 : x.vw S2 with
    | dic kvs2 =>
      rw [q2] at rv2 w4
      obtain ⟨a', kws2, e, _, r3, k3⟩ := isd_of rv2
      cases e
      have nn : IsD κ as2 H2 .non .non := rfl
      cases d with
      | int i =>
        cases (show v2 = .int i from r2)
        exact .inl ⟨_, .inl ⟨kws2, .inl i, r3, rfl, rfl⟩, kW.here (w := .d ((lookK kvs2 (.inl i)).getD .non)) (kW.on st2 w4) (getD_of (q := .inl i) k3 nn) hS2⟩
      | str i =>
        cases r2.1
        exact .inl ⟨_, .inl ⟨kws2, .inr (tx i), r3, rfl, rfl⟩, kW.here (w := .d ((lookK kvs2 (.inr i)).getD .non)) (kW.on st2 w4) (getD_of (q := .inr i) k3 nn) hS2⟩
      | _ => exact w4.elim
    | kdic kvs2 =>
      rw [vw_kd (S' := S1) q2] at q
      cases q
    | _ => rw [q2] at w4; cases d <;> exact w4.elim
  | kdic kvs =>
    rw [q] at rv
    obtain ⟨a, rfl, kd, hz⟩ := rv
    obtain ⟨es, n, kd'⟩ := kd.lit
    rw [ok.hκ, ok.hw] at kd'
    refine ⟨a, rfl, .inr ⟨es, n, kd'⟩, rdW.mk (rs.step st1) hS1 (w2.onW st1).of_bind.of_bind.of_d fun y S2 as2 H2 v2 w3 st2 r2 hS2 => ?_⟩
    obtain ⟨d, rfl, w3⟩ := w3
    have w4 : Out (mthD .get (x.vw S2) [d] S2) (fun d S => kW κ as1 H1 Q (.d d) S) (kX κ as1 H1 σ Wx) := Out.of_w w3
    have eq2 : x.vw S2 = .kdic kvs := vw_kd q
    rw [eq2] at w4
    cases d with
    | str i =>
      cases r2.1
      obtain ⟨r, e1, e2⟩ := lookz_some kd hz (q := i)
      rw [ok.hκ] at e1
      cases e3 : lookN kvs i with
      | none =>
        have w5 : Out (.ok .non S2) (fun d S => kW κ as1 H1 Q (.d d) S) (kX κ as1 H1 σ Wx) := by
          have : mthD .get (.kdic kvs) [.str i] S2 = .ok ((lookN kvs i).getD .non) S2 := id rfl
          rw [this, e3] at w4
          exact w4
        rw [e3] at e2
        cases r with
        | some _ => cases e2
        | none => exact .inr ⟨es, n, tx i, none, kd', rfl, e1, .non, rfl, kW.here (w := .d .non) (kW.on st2 w5) (show IsD κ as2 H2 .non .non from rfl) hS2⟩
      | some dd =>
        have w5 : Out (.ok dd S2) (fun d S => kW κ as1 H1 Q (.d d) S) (kX κ as1 H1 σ Wx) := by
          have : mthD .get (.kdic kvs) [.str i] S2 = .ok ((lookN kvs i).getD .non) S2 := id rfl
          rw [this, e3] at w4
          exact w4
        obtain ⟨u0, v0, f1, f2, f3⟩ := lookz_val (hz.mono st2.pr st2.imm) e3
        rw [ok.hκ, e1] at f1
        cases f1
        exact .inr ⟨es, n, tx i, some u0, kd', rfl, e1, v0, f2, kW.here (w := .d dd) (kW.on st2 w5) f3 hS2⟩
    | _ => exact w4.elim
  | _ => rw [q] at z; cases z
theorem pd_get2 (ok : CxOk X sc κ Φ) {apos : Pos} (hs : nostar b = true) (hs2 : nostar c = true) (hbase : attributeBase a "get" X.env (eval a X.env) = eval a X.env) (hline : (apos.endLine == pos.line) = true) (ha : PE X a (rdW κ Wx ma)) (hb : PE X b (rdW κ Wx mb)) (hc : PE X c (rdW κ Wx mc)) :
    PE X (.Call (.Attribute a "get" apos) [b, c] [] pos) (rdW κ Wx fun ρ S => (ma ρ S).bind fun x S1 => R.chk (rcv .get (x.vw S1)) (((mb ρ S1).d.bind fun d S1 => ((mc ρ S1).d.bind fun d S1 => (R.ok (α := List D) [] S1).bind fun ds S2 => .ok (d :: ds) S2).bind fun ds S2 => .ok (d :: ds) S2).bind fun ds S2 => (mthD .get (x.vw S2) ds S2).w)) := by
  have hu : X.A.units + 1 < cLine := by have := ok.un; omega
  refine PE.imp (pe_getA2 (apos := apos) (cpos := pos) hu ha hb hc ⟨hbase, fewArgs (fun e he => by rcases List.mem_cons.mp he with rfl | he; exact hs; rw [List.mem_singleton.mp he]; exact hs2) (by simp), hline, by rw [star_cons hs, star_cons hs2]; rfl⟩) fun σ H Q ⟨as, H0, ρ, S, rs, hS, w⟩ => ?_
  refine rdW.mk rs hS w.of_bind fun x S1 as1 H1 v w1 st1 r1 hS1 => ?_
  obtain ⟨z, w2⟩ := w1.of_chk
  have rv := r1.vw hS1
  cases q : x.vw S1 with
  | dic kvs =>
    rw [q] at rv
    obtain ⟨a, kws, rfl, i1, _, _⟩ := isd_of rv
    refine ⟨a, rfl, .inl i1, rdW.mk (rs.step st1) hS1 (w2.onW st1).of_bind.of_bind.of_d fun y S2 as2 H2 v2 w3 st2 r2 hS2 => ?_⟩
    obtain ⟨d, rfl, w3⟩ := w3
    refine rdW.mk ((rs.step st1).step st2) hS2 (w3.of_bind.of_bind.of_d.imp (fun _ _ z => z) fun _ _ z => kX.on st2 z) fun y S3 as3 H3 v3 w5 st3 r3 hS3 => ?_
    obtain ⟨d', rfl, w5⟩ := w5
    have w4 : Out (mthD .get (x.vw S3) [d, d'] S3) (fun d S => kW κ as1 H1 Q (.d d) S) (kX κ as1 H1 σ Wx) := Out.of_w (show Out (mthD .get (x.vw S3) [d, d'] S3).w (kW κ as1 H1 Q) (kX κ as1 H1 σ Wx) from w5)
    have rv2 := ((r1.step st2).step st3).vw hS3
    have r2' : IsD κ as3 H3 d v2 := IsD.step st3 r2
    cases q2 : x.vw S3 with
    | dic kvs2 =>
      rw [q2] at rv2 w4
      obtain ⟨a', kws2, e, _, r4, k3⟩ := isd_of rv2
      cases e
      have nn : IsD κ as3 H3 d' v3 := r3
      cases d with
      | int i =>
        cases (show v2 = .int i from r2')
        exact .inl ⟨_, .inl ⟨kws2, .inl i, r4, rfl, rfl⟩, kW.here (w := .d ((lookK kvs2 (.inl i)).getD d')) (kW.on (st2.trans st3) w4) (getD_of (q := .inl i) k3 nn) hS3⟩
      | str i =>
        cases r2'.1
        exact .inl ⟨_, .inl ⟨kws2, .inr (tx i), r4, rfl, rfl⟩, kW.here (w := .d ((lookK kvs2 (.inr i)).getD d')) (kW.on (st2.trans st3) w4) (getD_of (q := .inr i) k3 nn) hS3⟩
      | _ => exact w4.elim
    | kdic kvs2 =>
      rw [vw_kd (S' := S1) q2] at q
      cases q
    | _ => rw [q2] at w4; cases d <;> exact w4.elim
  | kdic kvs =>
    rw [q] at rv
    obtain ⟨a, rfl, kd, hz⟩ := rv
    obtain ⟨es, n, kd'⟩ := kd.lit
    rw [ok.hκ, ok.hw] at kd'
    refine ⟨a, rfl, .inr ⟨es, n, kd'⟩, rdW.mk (rs.step st1) hS1 (w2.onW st1).of_bind.of_bind.of_d fun y S2 as2 H2 v2 w3 st2 r2 hS2 => ?_⟩
    obtain ⟨d, rfl, w3⟩ := w3
    refine rdW.mk ((rs.step st1).step st2) hS2 (w3.of_bind.of_bind.of_d.imp (fun _ _ z => z) fun _ _ z => kX.on st2 z) fun y S3 as3 H3 v3 w5 st3 r3 hS3 => ?_
    obtain ⟨d', rfl, w5⟩ := w5
    have w4 : Out (mthD .get (x.vw S3) [d, d'] S3) (fun d S => kW κ as1 H1 Q (.d d) S) (kX κ as1 H1 σ Wx) := Out.of_w (show Out (mthD .get (x.vw S3) [d, d'] S3).w (kW κ as1 H1 Q) (kX κ as1 H1 σ Wx) from w5)
    have r2' : IsD κ as3 H3 d v2 := IsD.step st3 r2
    rw [vw_kd (S' := S3) q] at w4
    cases d with
    | str i =>
      cases r2'.1
      obtain ⟨r, e1, e2⟩ := lookz_some kd hz (q := i)
      rw [ok.hκ] at e1
      have w4 : Out (.ok ((lookN kvs i).getD d') S3) (fun d S => kW κ as1 H1 Q (.d d) S) (kX κ as1 H1 σ Wx) := w4
      cases e3 : lookN kvs i with
      | none =>
        rw [e3] at e2 w4
        cases r with
        | some _ => cases e2
        | none => exact .inr ⟨es, n, tx i, none, kd', rfl, e1, .inl ⟨rfl, kW.here (w := .d d') (kW.on (st2.trans st3) w4) r3 hS3⟩⟩
      | some dd =>
        rw [e3] at w4
        obtain ⟨u0, v0, f1, f2, f3⟩ := lookz_val (hz.mono (st2.trans st3).pr (st2.trans st3).imm) e3
        rw [ok.hκ, e1] at f1
        cases f1
        exact .inr ⟨es, n, tx i, some u0, kd', rfl, e1, .inr ⟨v0, u0, rfl, f2, kW.here (w := .d dd) (kW.on (st2.trans st3) w4) f3 hS3⟩⟩
    | _ => exact w4.elim
  | _ => rw [q] at z; cases z
theorem pn_dic0 : PE X (.Dict [] [] pos) (rdN κ Wx fun _ S => (R.ok (α := List D) [] S).bind fun ds S1 => match pairUp ds with
    | some kvs => .ok (.dct (mergeK [] kvs)) S1
    | none => .bad) := by
  refine PE.imp pe_dnewK fun σ H Q ⟨as, H0, ρ, S, rs, hS, w⟩ d hd => ?_
  have w1 : kN κ as H Q (.dct []) S := w
  exact kN.dct w1 hS (kws := []) True.intro d hd
theorem pn_list (ok : CxOk X sc κ Φ) {p : Pos} (hg : glB sc "list" = true) (hs : nostar a = true) (ha : PE X a (rdW κ Wx ma)) :
    PE X (.Call (.Name "list" p) [a] [] pos) (rdN κ Wx fun ρ S => (ma ρ S).bind fun x S1 => (R.of S1 (itemsD (x.vw S1))).bind fun xs S1 => .ok (.lst xs) S1) := by
  refine PE.imp (pe_callTy (T := "list") call_list_of (ok.gl hg) (ok.blt "list" (by decide)) (by decide +kernel) (pa_cons ha pa_nil (star_cons hs)) (by decide +kernel) (by decide +kernel) (star_cons hs) rfl) fun σ H Q ⟨as, H0, ρ, S, rs, hS, w⟩ => ?_
  refine rdW.mk rs hS w.of_bind fun x S1 as1 H1 v w1 st1 r1 hS1 => ?_
  obtain ⟨xs, e, k⟩ := Out.of_of w1.of_bind
  obtain ⟨p, vs, rfl, hq, hd⟩ := items_of ok.hκ (r1.vw hS1) e
  exact ⟨p, vs, rfl, hq, kN.lst (kN.on st1 k) hS1 hd⟩
end
end Ev
set_option maxHeartbeats 2000000
/-! Ev, part 15b: dict displays; a, b = x, y. -/
namespace Ev
open PySem PySem.Spec PyProof.Rows L2
/-- the pairs of a display, as readings -/
def trsOf (κ : Kx) (Wx : L2.WX) : List (MW × MW) → List (TE × TE)
  | [] => []
  | (a, b) :: r => (rdW κ Wx a, rdW κ Wx b) :: trsOf κ Wx r
def evP : List (MW × MW) → Env → Sto → R (List D)
  | [], _, S => .ok [] S
  | (a, b) :: r, ρ, S => (a ρ S).d.bind fun x S1 => ((b ρ S1).d.bind fun y S2 => (evP r ρ S2).bind fun ds S3 => .ok (y :: ds) S3).bind fun ds S2 => .ok (x :: ds) S2
def pairV : List V → List (V × V)
  | x :: y :: r => (x, y) :: pairV r
  | _ => []
section
variable {κ : Kx} {Wx : L2.WX}
theorem rd_pairs : ∀ {ps : List (MW × MW)} {as : List Addr} {H0 H : Hp} {σ : L2.St} {ρ : Env} {S : Sto} {Q : List (V × V) → Hp → Prop} {k : List D → Sto → Prop}, RelS κ as H0 H σ ρ → RepS κ as H S → Out (evP ps ρ S) k (kX κ as H σ Wx) →
    (∀ ds S1 as1 H1 vs, k ds S1 → Step as H as1 H1 → IsDs κ as1 H1 ds vs → ds.length = 2 * ps.length → RepS κ as1 H1 S1 → Q (pairV vs) H1) → tPairs (trsOf κ Wx ps) σ H Q
  | [], as, H0, H, σ, ρ, S, Q, k, rs, hS, w, h => h [] S as H [] w Step.refl True.intro rfl hS
  | (a, b) :: r, as, H0, H, σ, ρ, S, Q, k, rs, hS, w, h => by
    have w : Out ((a ρ S).d.bind fun x S1 => ((b ρ S1).d.bind fun y S2 => (evP r ρ S2).bind fun ds S3 => .ok (y :: ds) S3).bind fun ds S2 => .ok (x :: ds) S2) k (kX κ as H σ Wx) := w
    refine rdW.mk rs hS w.of_bind.of_d fun x S1 as1 H1 v w1 st1 r1 hS1 => ?_
    obtain ⟨d, rfl, w1⟩ := w1
    refine rdW.mk (rs.step st1) hS1 (Out.onX st1 w1).of_bind.of_bind.of_d fun y S2 as2 H2 v2 w2 st2 r2 hS2 => ?_
    obtain ⟨d2, rfl, w2⟩ := w2
    refine rd_pairs ((rs.step st1).step st2) hS2 (Out.onX st2 w2).of_bind fun ds S3 as3 H3 vs w3 st3 r3 l3 hS3 => ?_
    have w3 : k (d :: d2 :: ds) S3 := w3
    refine h (d :: d2 :: ds) S3 as3 H3 (v :: v2 :: vs) w3 ((st1.trans st2).trans st3) ⟨?_, ?_, r3⟩ (by simp only [List.length_cons, l3]; omega) hS3
    · exact IsD.step st3 (IsD.step st2 r1)
    · exact IsD.step st3 r2
theorem ks_of {as : List Addr} {H : Hp} : ∀ {ds : List D} {vs : List V} {kvs : List (Ky × D)}, pairUp ds = some kvs → IsDs κ as H ds vs → ∃ kws, pairV vs = kws.map (fun kv => (kV kv.1, kv.2)) ∧ IsKs κ as H kvs kws
  | [], [], kvs, e, _ => by cases e; exact ⟨[], rfl, True.intro⟩
  | [], _ :: _, _, _, h => h.elim
  | [_], _, _, e, _ => by cases e
  | k :: d :: r, [], _, _, h => h.elim
  | k :: d :: r, [_], _, _, h => h.2.elim
  | k :: d :: r, v :: w :: vs, kvs, e, h => by
    have e : ((dKy k).bind fun k => (pairUp r).map ((k, d) :: ·)) = some kvs := e
    obtain ⟨q, e1, e2⟩ := Option.bind_eq_some_iff.mp e
    obtain ⟨l, e3, e4⟩ := Option.map_eq_some_iff.mp e2
    subst e4
    obtain ⟨kws, h1, h2⟩ := ks_of e3 h.2.2
    have hk : v = kV (kx q) ∧ kyOk q = true := by
      cases k with
      | int i => cases e1; exact ⟨h.1, rfl⟩
      | str i => cases e1; exact ⟨h.1.1, h.1.2⟩
      | _ => cases e1
    refine ⟨(kx q, w) :: kws, ?_, ⟨rfl, hk.2⟩, h.2.1, h2⟩
    show (v, w) :: pairV vs = _
    rw [h1, hk.1]
    rfl
theorem IsKs.len {as : List Addr} {H : Hp} : ∀ {kvs : List (Ky × D)} {kws : List (L2.Key × V)}, IsKs κ as H kvs kws → kvs.length = kws.length
  | [], [], _ => rfl
  | (_, _) :: _, (_, _) :: _, h => by simp only [List.length_cons, IsKs.len h.2.2]
  | [], _ :: _, h => h.elim
  | _ :: _, [], h => h.elim
theorem pairV_len : ∀ {vs : List V} {n : Nat}, vs.length = 2 * n → (pairV vs).length = n
  | [], 0, _ => rfl
  | [], n + 1, h => by simp at h
  | [_], n, h => by simp at h; omega
  | x :: y :: r, 0, h => by simp at h
  | x :: y :: r, n + 1, h => by
    show (pairV r).length + 1 = _
    rw [pairV_len (vs := r) (n := n) (by simp only [List.length_cons] at h; omega)]
theorem ks_merge {as : List Addr} {H : Hp} : ∀ {ps : List (Ky × D)} {pws : List (L2.Key × V)} {kvs : List (Ky × D)} {kws : List (L2.Key × V)}, IsKs κ as H ps pws → IsKs κ as H kvs kws → IsKs κ as H (mergeK kvs ps) (L2.mergeK kws pws)
  | [], [], _, _, _, h => h
  | (k, d) :: r, (q, v) :: r', kvs, kws, hp, h => by
    obtain ⟨⟨rfl, ok⟩, hd, hr⟩ := hp
    exact ks_merge (ps := r) (pws := r') hr (ks_put ok hd h)
  | [], _ :: _, _, _, hp, _ => hp.elim
  | _ :: _, [], _, _, hp, _ => hp.elim
theorem pn_dic {X : Cx} {pos : Pos} {ps : List (MW × MW)} {keys : List (Option Expr)} {vals : List Expr} (hp : PPs X pos keys vals (trsOf κ Wx ps)) (hall : keys.all (·.isSome) = true) (hl : keys.length = vals.length) (h0 : keys ≠ []) (h15 : keys.length ≤ 15) (hn : ps.length = keys.length) :
    PE X (.Dict keys vals pos) (rdN κ Wx fun ρ S => (evP ps ρ S).bind fun ds S1 => match pairUp ds with
      | some kvs => .ok (.dct (mergeK [] kvs)) S1
      | none => .bad) := by
  refine PE.imp (pe_disp hp hall hl h0 h15) fun σ H Q ⟨as, H0, ρ, S, rs, hS, w⟩ p hp0 => ?_
  have st0 : Step as H as (upd H p (.dK [])) := Step.new hp0
  refine rd_pairs (rs.step st0) (RepS.new hp0 hS) (Out.onX st0 w).of_bind fun ds S1 as1 H1 vs w1 st1 r1 l1 hS1 => ?_
  have np := fresh hp0 hS
  have hp1 : H1 p = some (.dK []) := st1.keep p _ upd_same np
  have np1 : p ∉ as1 := st1.notin upd_same np
  refine ⟨hp1, ?_⟩
  cases e : pairUp ds with
  | none => rw [e] at w1; exact w1.elim
  | some kvs =>
    rw [e] at w1
    obtain ⟨kws, e1, hk⟩ := ks_of e r1
    have hlen : kws.length = ps.length := by
      have h1 := pairV_len (vs := vs) (n := ps.length) (by rw [← r1.length]; exact l1)
      rw [e1, List.length_map] at h1
      exact h1
    refine ⟨kws, e1, by omega, ?_⟩
    have im : Imm H1 (upd H1 p (.dK (L2.mergeK [] kws))) := Imm.write hp1 fun z => z
    have st : Step as H as1 (upd H1 p (.dK (L2.mergeK [] kws))) := by
      have s := st0.trans st1
      exact ⟨s.ext, fun a u h i => by rw [upd_ne (ne_of_none h hp0)]; exact s.imm a u h i, fun a u h i => by rw [upd_ne (ne_of_none h hp0)]; exact s.keep a u h i, fun a h => upd_there a (s.there a h)⟩
    exact w1 as1 _ p st hp0 np1 ⟨_, upd_same, (ks_merge (kvs := []) (kws := []) hk True.intro).mono (fun _ _ h => h) im⟩ (hS1.off np1 im)
end
end Ev
set_option maxHeartbeats 4000000
/-! Ev, part 15b: x[::-1]. -/
namespace Ev
open PySem PySem.Spec PyProof.Rows L2
section
variable {prog : Program} {w : World} {A : Around} {E : Value → Shared → Prop} {s : Shared}
theorem pick_rev (xs : Array Value) : ((List.range xs.size).filterMap fun (m : Nat) => xs[(((xs.size : Int) - 1) + (m : Int) * (-1)).toNat]?).toArray = xs.toList.reverse.toArray := by
  congr 1
  have e : ∀ m ∈ List.range xs.size, xs[(((xs.size : Int) - 1) + (m : Int) * (-1)).toNat]? = some (xs.toList.reverse.getD m .none) := fun m hm => by
    have hm := List.mem_range.mp hm
    have e1 : (((xs.size : Int) - 1) + (m : Int) * (-1)).toNat = xs.size - 1 - m := by omega
    rw [e1, Array.getElem?_eq_getElem (by omega)]
    congr 1
    rw [List.getD_eq_getElem?_getD, List.getElem?_reverse (by rw [Array.length_toList]; exact hm), Array.length_toList, List.getElem?_eq_getElem (by rw [Array.length_toList]; omega)]
    simp
  have e2 : ∀ (l : List Nat) (f : Nat → Option Value) (g : Nat → Value), (∀ m ∈ l, f m = some (g m)) → l.filterMap f = l.map g := by
    intro l f g
    induction l with
    | nil => intro _; rfl
    | cons a l ih =>
      intro h
      rw [List.filterMap_cons, h a List.mem_cons_self, List.map_cons, ih fun m hm => h m (List.mem_cons_of_mem _ hm)]
  rw [e2 _ _ _ e]
  apply List.ext_getElem?
  intro i
  rw [List.getElem?_map]
  by_cases h : i < xs.size
  · rw [List.getElem?_range h, Option.map_some, List.getElem?_eq_getElem (by simpa using h), List.getD_eq_getElem?_getD, List.getElem?_eq_getElem (by simpa using h)]
    rfl
  · rw [List.getElem?_eq_none (by simpa using h), List.getElem?_eq_none (by simpa using h)]
    rfl
theorem sliceApplied_rev {sl : Addr} {vs : Value} {n : Nat} {Q : Int × Int × Nat → Shared → Prop} {vl vu : Value} (hs : s.heap.IsSliceOf sl vl vu vs) (pl : IsPart vl none) (pu : IsPart vu none) (ps : IsPart vs (some (-1)))
    (h : Q ((n : Int) - 1, -1, n) s) : wpAny (model prog w) A (Builtin.Slice.sliceApplied (.ref sl) (pure (n : Int))) Q E s := by
  obtain ⟨os, hos, hcs, hds⟩ := id hs
  unfold Builtin.Slice.sliceApplied Builtin.Slice.sliceFields
  refine wpAny_bind (wpAny_bind (wpAny_field hos hds (x := vl) rfl (wpAny_bind (wpAny_field hos hds (x := vu) rfl (wpAny_bind (wpAny_field hos hds (x := vs) rfl (wpAny_pure ?_)))))))
  refine wpAny_bind (HT.slicePart_ ps ?_)
  show wpAny _ _ (if ((-1 : Int) == 0) = true then _ else _) _ _ s
  rw [if_neg (by decide)]
  refine wpAny_bind (HT.slicePart_ pl (wpAny_bind (HT.slicePart_ pu (wpAny_bind (wpAny_pure ?_)))))
  have e : Builtin.Slice.slicePlaces ((n : Int) - 1) (-1) (-1) = n := by
    unfold Builtin.Slice.slicePlaces
    by_cases z : (n : Int) - 1 > -1
    · rw [if_neg (by decide), if_pos z]
      simp only [Int.neg_neg, Int.ediv_one]
      omega
    · rw [if_neg (by decide), if_neg z]
      show 0 = n
      omega
  show wpAny _ _ (pure ((n : Int) - 1, (-1 : Int), Builtin.Slice.slicePlaces ((n : Int) - 1) (-1) (-1))) _ _ s
  rw [e]
  exact wpAny_pure h
theorem getItem_tuple_rev {t sl : Addr} {items : Array Value} {vs : Value} {Q : Value → Shared → Prop} (ht : IsTup s.heap t items) {vl vu : Value} (hs : s.heap.IsSliceOf sl vl vu vs) (pl : IsPart vl none) (pu : IsPart vu none) (ps : IsPart vs (some (-1)))
    (h : Q (.ref s.heap.objs.size) { s with heap := s.heap.push { cls := .type "tuple", data := .seq items.toList.reverse.toArray } })
    (hsz : items.size ≤ sizeLine) : wpAny (model prog w) A (getItem (.ref t) (.ref sl)) Q E s := by
  have htake : sizeOk (.seq items.toList.reverse.toArray) := by
    show items.toList.reverse.toArray.size ≤ sizeLine
    simpa using hsz
  obtain ⟨os, hos, hcs, hds⟩ := id hs
  have hTs : s.TypeIs (.ref sl) "slice" := ⟨os, hos, hcs⟩
  unfold getItem
  try with_reducible refine wpAny_holding ?_
  first | refine wpAny_bind (wpAny_pure ?_) | skip
  refine wpAny_bind (wpAny_sequenceKey ht.typeIs (by decide) ?_)
  refine wpAny_bind (wpAny_callSpecial?_slot (name := Str.ofString "__getitem__") ht.typeIs PyProof.Rows.slot_tuple_getitem
    (wpAny_call_entry PyProof.Rows.slot_tuple_getitem ht.typeIs entry_tuple_getitem ?_ (args_tuple_getitem _ _)))
  show wpAny _ _ (Builtin.Tuple.tupleItemsOf (.ref t) >>= _) _ _ s
  refine wpAny_bind (tupleItemsOf_ ht ?_)
  refine wpAny_bind (wpAny_typeOf hTs ?_)
  rw [if_pos (by decide)]
  refine wpAny_bind (sliceApplied_rev hs pl pu ps ?_)
  show wpAny _ _ (if (((items.size : Int) - 1) == 0 && (-1 : Int) == 1 && items.size == items.size) = true then _ else _) _ _ s
  have hno : ¬ ((((items.size : Int) - 1) == 0 && (-1 : Int) == 1 && items.size == items.size) = true) := by
    have : ((-1 : Int) == 1) = false := by decide
    rw [this, Bool.and_false, Bool.false_and]
    exact Bool.false_ne_true
  rw [if_neg hno, pick_rev]
  first
    | exact wpAny_bind (m := Builtin.Tuple.tupleExact _) (wpAny_newObj_type (wpAny_pure ⟨_, rfl, wpAny_pure h⟩) htake)
    | exact wpAny_bind (m := Builtin.Tuple.tupleExact _) (wpAny_newObj_type (wpAny_bind (wpAny_pure (wpAny_pure ⟨_, rfl, wpAny_pure h⟩))) htake)
    | exact wpAny_bind (wpAny_bind (m := Builtin.Tuple.tupleExact _) (wpAny_newObj_type (wpAny_pure (wpAny_pure ⟨_, rfl, wpAny_pure h⟩)) htake))
    | exact wpAny_bind (wpAny_bind (m := Builtin.Tuple.tupleExact _) (wpAny_newObj_type (wpAny_pure ⟨_, rfl, wpAny_pure h⟩) htake))
end
def tRevT (K : PySem.W.Frag) (te : TE) : TE := fun σ H Q => te σ H fun x H1 => ∃ a xs, x = .ref a ∧ SqT K H1 a xs ∧ ∀ p, H1 p = none → Q (.ref p) (upd H1 p (.tup xs.reverse))
theorem pe_revT {X : Cx} {te : TE} {e : Expr} {k : Nat} {p1 p2 p3 pos : Pos} (he : PE X e te) : PE X (.Subscript e (.Slice none none (some (.UnaryOp .USub (.Constant (.int 1) k p1) p2)) p3) pos) (tRevT X.K te) := by
  refine ⟨fun pins s σ H Q I h => ?_⟩
  refine Subscript_ (thn (he.run pins s σ H _ I h) fun v s1 ⟨x, H1, I1, r1, q1⟩ => ?_)
  obtain ⟨a, xs, ex, hx, q⟩ := q1
  subst ex
  cases r1
  have hst : PO X (some (.UnaryOp .USub (.Constant (.int 1) k p1) p2)) (tPart (tUn (rU fun i => .int (-i)) (tC (.int 1)))) := po_some (pe_un un_neg pe_int)
  refine wpAny_Slice (thn (po_none.run pins s1 σ H1 (fun o H2 => o = none ∧ H2 = H1) I1 ⟨rfl, rfl⟩) fun vl s2 ⟨l, H2, I2, pl, el, e2⟩ => ?_)
  subst el e2
  refine thn (po_none.run pins s2 σ H2 (fun o H3 => o = none ∧ H3 = H2) I2 ⟨rfl, rfl⟩) fun vu s3 ⟨u, H3, I3, pu, eu, e3⟩ => ?_
  subst eu e3
  refine thn (hst.run pins s3 σ H3 (fun o H4 => o = some (-1) ∧ H4 = H3) I3 ⟨1, rfl, -1, rfl, rfl, rfl⟩) fun vs s4 ⟨o, H4, I4, ps, eo, e4⟩ => ?_
  subst eo e4
  have I5 : Inv X pins σ H4 { s4 with heap := s4.heap.push { cls := .type "slice", data := .fields #[vl, vu, vs] } } := I4.kept (t' := s4.toks) fun b ob q => Heap.get?_push_of_some _ q
  obtain ⟨its, r, ht, hz⟩ := I5.tuple hx
  show wpAny (model X.prog X.w) X.A (subscriptTail e (.Slice none none (some (.UnaryOp .USub (.Constant (.int 1) k p1) p2)) p3) (.ref a) (.ref s4.heap.objs.size)) (EP X pins σ Q) X.xe { s4 with heap := s4.heap.push { cls := .type "slice", data := .fields #[vl, vu, vs] } }
  refine tail_any (ops := [.ref a, .ref s4.heap.objs.size]) ht.typeIs (PyProof.Rows.slot_tuple_getitem.lookup) ?_ (by with_unfolding_all rfl)
  refine getItem_tuple_rev ht (Heap.IsSliceOf.new _ vl vu vs) pl pu ps ?_ (by rw [List.size_toArray, ← r.length]; exact hz)
  refine ⟨.ref _, _, I5.laid (t' := s4.toks) (o := .tup xs.reverse) (fun b ob q => Heap.get?_push_of_some _ q) (Nat.le_refl _) ?_, rfl, q _ (I5.hok.fresh (Nat.le_refl _))⟩
  exact ⟨by rw [List.length_reverse]; exact hz, _, r.reverse, IsTup.new _ _⟩
section
variable {X : Cx} {sc : SC} {κ : Kx} {Φ : Fn} {Wx : L2.WX} {a : Expr} {ma : MW} {pos : Pos}
theorem pd_rev (ok : CxOk X sc κ Φ) {k : Nat} {p1 p2 p3 : Pos} (ha : PE X a (rdW κ Wx ma)) :
    PE X (.Subscript a (.Slice none none (some (.UnaryOp .USub (.Constant (.int 1) k p1) p2)) p3) pos) (rdW κ Wx fun ρ S => (ma ρ S).bind fun x S1 => match x.vw S1 with
    | .tup xs => .ok (.d (.tup xs.reverse)) S1
    | _ => .bad) := by
  refine PE.imp (pe_revT ha) fun σ H Q ⟨as, H0, ρ, S, rs, hS, w⟩ => ?_
  refine rdW.mk rs hS w.of_bind fun x S1 as1 H1 v w1 st1 r1 hS1 => ?_
  have rv := r1.vw hS1
  cases q : x.vw S1 with
  | tup xs =>
    rw [q] at rv
    obtain ⟨p, vs, rfl, hT, hd⟩ := rv
    rw [ok.hκ] at hT
    have w5 : kW κ as H Q (.d (.tup xs.reverse)) S1 := by simp only [q] at w1; exact w1
    exact ⟨p, vs, rfl, hT, fun p' hp => kD.tup (kW.d (kW.on st1 w5)) hS1 hd.reverse p' hp⟩
  | _ => simp only [q] at w1; exact w1.elim
theorem pn_rev (ok : CxOk X sc κ Φ) {k : Nat} {p1 p2 p3 : Pos} (ha : PE X a (rdW κ Wx ma)) :
    PE X (.Subscript a (.Slice none none (some (.UnaryOp .USub (.Constant (.int 1) k p1) p2)) p3) pos) (rdN κ Wx fun ρ S => (ma ρ S).bind fun x S1 => match x.vw S1 with
    | .lst xs => .ok (.lst xs.reverse) S1
    | _ => .bad) := by
  refine PE.imp (pe_revL ha) fun σ H Q ⟨as, H0, ρ, S, rs, hS, w⟩ => ?_
  refine rdW.mk rs hS w.of_bind fun x S1 as1 H1 v w1 st1 r1 hS1 => ?_
  have rv := r1.vw hS1
  cases q : x.vw S1 with
  | lst xs =>
    rw [q] at rv
    obtain ⟨p, vs, rfl, hT, hd⟩ := rv
    have w5 : kN κ as H Q (.lst xs.reverse) S1 := by simp only [q] at w1; exact w1
    exact ⟨p, vs, rfl, .inl hT, kN.lst (kN.on st1 w5) hS1 hd.reverse⟩
  | _ => simp only [q] at w1; exact w1.elim
end
end Ev
set_option maxHeartbeats 4000000
/-! Ev, part 15c: sorted. -/
namespace Ev
open PySem PySem.Spec PyProof.Rows L2 PySem.W
theorem pdDs_map : ∀ xs : List D, pdD.pdDs xs = xs.map pdD
  | [] => rfl
  | x :: xs => by rw [pdD.pdDs, pdDs_map xs]; rfl
mutual
theorem reads_of {h : Heap} : ∀ {d : D} {n : Nat} {u : Value}, okD d n = true → RdV h d u → ∃ as, Reads h u (pdD d) as
  | .non, n, u, ok, r => by cases r; exact ⟨[], .none⟩
  | .bl b, n, u, ok, r => by cases r; exact ⟨[], .bool b⟩
  | .int i, n, u, ok, r => by obtain ⟨t, rfl⟩ := r; exact ⟨[], .int i t⟩
  | .str x, n, u, ok, r => by obtain ⟨t, rfl⟩ := r; exact ⟨[], .str _ t⟩
  | .tup ds, n, u, ok, r => by
    obtain ⟨l, its, rfl, ⟨o, ho, hc, k, hd⟩, rs⟩ := r
    have ok' : (decide (0 < n) && okDs ds (n - 1)) = true := by rw [okD] at ok; exact ok
    obtain ⟨as, ra⟩ := readsAll_of (Bool.and_eq_true_iff.mp ok').2 rs
    exact ⟨as, .tuple ho hc hd (by simpa using ra)⟩
  | .lst ds, n, u, ok, r => by
    obtain ⟨l, its, rfl, ⟨o, ho, hc, k, hd⟩, rs⟩ := r
    have ok' : (decide (0 < n) && okDs ds (n - 1)) = true := by rw [okD] at ok; exact ok
    obtain ⟨as, ra⟩ := readsAll_of (Bool.and_eq_true_iff.mp ok').2 rs
    exact ⟨l :: as, .list ho hc hd (by simpa using ra)⟩
  | .ref _, _, _, ok, _ => by simp [okD] at ok
  | .scr _, _, _, ok, _ => by simp [okD] at ok
  | .dic _, _, _, ok, _ => by simp [okD] at ok
  | .kdic _, _, _, ok, _ => by simp [okD] at ok
  | .exc _ _, _, _, ok, _ => by simp [okD] at ok
  | .obj _ _, _, _, ok, _ => by simp [okD] at ok
  | .fn _, _, _, ok, _ => by simp [okD] at ok
theorem readsAll_of {h : Heap} : ∀ {ds : List D} {n : Nat} {us : List Value}, okDs ds n = true → RdVs h ds us → ∃ as, ReadsAll h us (pdD.pdDs ds) as
  | [], n, [], ok, r => ⟨[], .nil⟩
  | d :: ds, n, u :: us, ok, r => by
    have ok' : (okD d n && okDs ds n) = true := by rw [okDs] at ok; exact ok
    obtain ⟨as, h1⟩ := reads_of (Bool.and_eq_true_iff.mp ok').1 r.1
    obtain ⟨bs, h2⟩ := readsAll_of (Bool.and_eq_true_iff.mp ok').2 r.2
    exact ⟨as ++ bs, .cons h1 h2⟩
  | [], _, _ :: _, _, r => r.elim
  | _ :: _, _, [], _, r => r.elim
end
mutual
theorem depth_of : ∀ {d : D} {n : Nat}, okD d n = true → (pdD d).depth ≤ n
  | .non, n, ok => Nat.zero_le _
  | .bl b, n, ok => Nat.zero_le _
  | .int i, n, ok => Nat.zero_le _
  | .str x, n, ok => Nat.zero_le _
  | .tup ds, n, ok => by
    have ok' : (decide (0 < n) && okDs ds (n - 1)) = true := by rw [okD] at ok; exact ok
    obtain ⟨h1, h2⟩ := Bool.and_eq_true_iff.mp ok'
    have := depthAll_of h2
    have h1 := of_decide_eq_true h1
    show PyData.depthAll (pdD.pdDs ds) + 1 ≤ n
    omega
  | .lst ds, n, ok => by
    have ok' : (decide (0 < n) && okDs ds (n - 1)) = true := by rw [okD] at ok; exact ok
    obtain ⟨h1, h2⟩ := Bool.and_eq_true_iff.mp ok'
    have := depthAll_of h2
    have h1 := of_decide_eq_true h1
    show PyData.depthAll (pdD.pdDs ds) + 1 ≤ n
    omega
  | .ref _, _, ok => by simp [okD] at ok
  | .scr _, _, ok => by simp [okD] at ok
  | .dic _, _, ok => by simp [okD] at ok
  | .kdic _, _, ok => by simp [okD] at ok
  | .exc _ _, _, ok => by simp [okD] at ok
  | .obj _ _, _, ok => by simp [okD] at ok
  | .fn _, _, ok => by simp [okD] at ok
theorem depthAll_of : ∀ {ds : List D} {n : Nat}, okDs ds n = true → PyData.depthAll (pdD.pdDs ds) ≤ n
  | [], n, ok => Nat.zero_le _
  | d :: ds, n, ok => by
    have ok' : (okD d n && okDs ds n) = true := by rw [okDs] at ok; exact ok
    obtain ⟨h1, h2⟩ := Bool.and_eq_true_iff.mp ok'
    exact Nat.max_le.mpr ⟨depth_of h1, depthAll_of h2⟩
end
section
variable {X : Cx} {κ : Kx} {as : List Addr} {pins : List (Addr × Obj)} {σ : L2.St} {H : Hp} {s : Shared}
theorem each_in : ∀ {xs : List D} {vs : List V} {us : List Value}, IsDs κ as H xs vs → Vals vs us → EachIs (fun u d => ∃ x, RelV x u ∧ IsD κ as H d x) us xs
  | [], [], us, _, r => by cases r; exact .nil
  | d :: ds, v :: vs, us, h, r => by
    cases r with
    | cons a b => exact .cons ⟨v, a, h.1⟩ (each_in h.2 b)
  | [], _ :: _, _, h, _ => h.elim
  | _ :: _, [], _, h, _ => h.elim
theorem each_out : ∀ {us : List Value} {xs : List D}, EachIs (fun u d => ∃ x, RelV x u ∧ IsD κ as H d x) us xs → ∃ vs, Vals vs us ∧ IsDs κ as H xs vs
  | _, _, .nil => ⟨[], .nil, True.intro⟩
  | _, _, .cons ⟨x, a, b⟩ t => by
    obtain ⟨vs, h1, h2⟩ := each_out t
    exact ⟨x :: vs, .cons a h1, b, h2⟩
theorem each_reads {h : Heap} : ∀ {xs : List D} {us : List Value} {n : Nat}, okDs xs n = true → RdVs h xs us → EachIs (fun u d => ∃ as, Reads h u (pdD d) as) us xs
  | [], [], _, _, _ => .nil
  | d :: ds, u :: us, n, ok, r => by
    have ok' : (okD d n && okDs ds n) = true := by rw [okDs] at ok; exact ok
    obtain ⟨h1, h2⟩ := Bool.and_eq_true_iff.mp ok'
    exact .cons (reads_of h1 r.1) (each_reads h2 r.2)
  | [], _ :: _, _, _, r => r.elim
  | _ :: _, [], _, _, r => r.elim
theorem okDs_mem {n : Nat} : ∀ {xs : List D}, okDs xs n = true → ∀ d ∈ xs, okD d n = true
  | [], _, d, h => nomatch h
  | x :: xs, ok, d, h => by
    have ok' : (okD x n && okDs xs n) = true := by rw [okDs] at ok; exact ok
    obtain ⟨h1, h2⟩ := Bool.and_eq_true_iff.mp ok'
    rcases List.mem_cons.mp h with rfl | h
    · exact h1
    · exact okDs_mem h2 d h
theorem ordOk_alike {xs : List D} (h : ordOk xs = true) : okDs xs 60 = true ∧ AllAlike (xs.map pdD) ∧ Sortable (xs.map pdD) := by
  obtain ⟨h1, h2⟩ := Bool.and_eq_true_iff.mp h
  obtain ⟨h2, h3⟩ := Bool.and_eq_true_iff.mp h2
  refine ⟨h1, fun d hd d' hd' => ?_, ?_⟩
  · obtain ⟨x, hx, rfl⟩ := List.mem_map.mp hd
    obtain ⟨y, hy, rfl⟩ := List.mem_map.mp hd'
    exact List.all_eq_true.mp (List.all_eq_true.mp h3 x hx) y hy
  · rcases Bool.or_eq_true_iff.mp h2 with h2 | h2
    · refine .inr fun d hd => ?_
      obtain ⟨x, hx, rfl⟩ := List.mem_map.mp hd
      have := List.all_eq_true.mp h2 x hx
      cases x <;> first | (exact absurd this Bool.false_ne_true) | (constructor <;> simp [pdD])
    · rcases Bool.or_eq_true_iff.mp h2 with h2 | h2
      · refine .inr fun d hd => ?_
        obtain ⟨x, hx, rfl⟩ := List.mem_map.mp hd
        have := List.all_eq_true.mp h2 x hx
        cases x <;> first | (exact absurd this Bool.false_ne_true) | (constructor <;> simp [pdD])
      · refine .inl fun d hd => ?_
        obtain ⟨x, hx, rfl⟩ := List.mem_map.mp hd
        have := List.all_eq_true.mp h2 x hx
        cases x with
        | tup ys => cases ys with
          | nil => cases this
          | cons y ys => exact ⟨_, _, rfl⟩
        | _ => cases this
/-- sorted(xs) of a list -/
def rSortL (κ : Kx) : List V → Hp → VK → Prop := fun vs H Q => ∃ as a xs ws, vs = [.ref a] ∧ SqL κ.K H a ws ∧ IsDs κ as H xs ws ∧ ordOk xs = true ∧ ∀ p zs, H p = none → IsDs κ as H (sortD xs) zs → Q (.ref p) (upd H p (.lst zs))
theorem cr_sortL (hκ : κ.K = X.K) (hu : X.A.units + 64 < cLine) : CallR X (.builtin "sorted") (rSortL κ) := by
  intro pins s σ H vs us Q I r h
  obtain ⟨as, a, xs, ws, rfl, hs, hd, ok, q⟩ := h
  rw [hκ] at hs
  obtain ⟨its, rv, hl, hz⟩ := I.list hs
  obtain ⟨u, rfl, ru⟩ := vals1 r
  obtain rfl : u = Value.ref a := ru
  obtain ⟨o1, o2, o3⟩ := ordOk_alike ok
  have rd := rdvs_of hκ I o1 hd rv
  have hlen : its.length = xs.length := by rw [hd.length, rv.length]
  refine sorted_data (enc := pdD) (bs := xs) hl.isList (each_in hd rv) (each_reads o1 rd) o2 o3 (by rw [hd.length]; exact hz) (fun b hb => ?_) fun out ho eo => ?_
  · have := depth_of (okDs_mem o1 b hb)
    omega
  · obtain ⟨zs, z1, z2⟩ := each_out eo
    obtain ⟨n, hn⟩ := sortedAll_at s.heap its out.toArray
    refine ⟨.ref (s.heap.objs.size + 1), upd H (s.heap.objs.size + 1) (.lst zs), I.laid (t' := s.toks) (fun b o e => sortedAll_old e) (Nat.le_succ _) ⟨?_, out, n, z1, hn⟩, rfl, q _ zs (I.hok.fresh (Nat.le_succ _)) z2⟩
    rw [z1.length, ho, hd.length]
    exact hz
/-- sorted(d) of a dict -/
def rSortK (κ : Kx) : List V → Hp → VK → Prop := fun vs H Q => ∃ as a kvs kws, vs = [.ref a] ∧ Rd H a (.dK kws) ∧ IsKs κ as H kvs kws ∧ ordOk (kvs.map fun p => kyD p.1) = true ∧ ∀ p zs, H p = none → IsDs κ as H (sortD (kvs.map fun p => kyD p.1)) zs → Q (.ref p) (upd H p (.lst zs))
theorem keys_is : ∀ {kvs : List (Ky × D)} {kws : List (L2.Key × V)}, IsKs κ as H kvs kws → kws.map (·.1) = kvs.map (fun p => kx p.1) ∧ IsDs κ as H (kvs.map fun p => kyD p.1) (kvs.map fun p => kV (kx p.1))
  | [], [], _ => ⟨rfl, True.intro⟩
  | (k, d) :: r, (q, v) :: s, h => by
    obtain ⟨h1, h2⟩ := keys_is h.2.2
    refine ⟨by rw [List.map_cons, List.map_cons, h1, h.1.1], ?_, h2⟩
    cases k with
    | inl i => exact rfl
    | inr z => exact ⟨rfl, h.1.2⟩
  | [], _ :: _, h => h.elim
  | (_, _) :: _, [], h => h.elim
theorem cr_sortK (hκ : κ.K = X.K) (hc : X.calm = true) (hu : X.A.units + 64 < cLine) : CallR X (.builtin "sorted") (rSortK κ) := by
  intro pins s σ H xs us Q I r h
  obtain ⟨as, a, kvs, kws, rfl, hd, hk, ok, q⟩ := h
  obtain ⟨u, rfl, rx⟩ := vals1 r
  cases rx
  obtain ⟨z, lo, vs, rel, dd⟩ := dk_rd I.hok hd
  obtain ⟨ep, hat⟩ := dd.dictAt
  obtain ⟨k1, k2⟩ := keys_is hk
  have hkeys : vs.map (·.1) = kvs.map fun p => kx p.1 := rel.keys.symm.trans k1
  have hl : vs.length = kvs.length := by
    have e := congrArg List.length hkeys
    rw [List.length_map, List.length_map] at e
    exact e
  have hz : kvs.length ≤ sizeLine := by rw [hk.length]; exact z
  have h16 : vs.length ≤ sizeLine := by rw [hl]; exact hz
  refine Calls.call_function_entry PyProof.Rows.kind_sorted PyProof.Rows.plain_sorted PyProof.Rows.entry_sorted (PyProof.Rows.args_sorted1 _) ?_
  unfold Builtin.«sorted»
  refine wpAny_bind (m := checkCount "sorted" 1 1 _) (wpAny_pure ?_)
  refine wpAny_bind (PySem.W.kdu_collect (A := X.A.in1) (PySem.W.kdl_dict (knd := mixKind X.prog X.w) (kvs := vs) (ep := ep) lo) (I.ok.hd hc) hat h16 fun h' tk acc hk' hacc => ?_)
  have hal : acc.toList.length = kvs.length := by rw [Array.length_toList, hacc.1, hl]
  have hV : Vals (kvs.map fun p => kV (kx p.1)) acc.toList := by
    have := keys_at (us := acc.toList) (vs := vs) (by rw [hal, hl]) fun j v e => by
      obtain ⟨k, x, e1, e2⟩ := hacc.2 j v (by rw [← Array.getElem?_toList]; exact e)
      exact ⟨k, x, e1, e2⟩
    rw [show (vs.map fun p => kV p.1) = (vs.map (·.1)).map kV by rw [List.map_map]; rfl, hkeys, List.map_map] at this
    exact this
  have I1 : Inv X pins σ H { s with heap := h', toks := tk } := I.kept hk'
  refine wpAny_bind (wpAny_newList ?_ (by rw [hal]; exact hz))
  have hoL : (h'.push (seqObj "list" acc.toList.toArray 0)).get? h'.objs.size = some (seqObj "list" acc.toList.toArray 0) := Heap.get?_push_size _ rfl
  show wpAny _ _ _ _ _ { s with heap := h'.push (seqObj "list" acc.toList.toArray 0), toks := tk }
  obtain ⟨o1, o2, o3⟩ := ordOk_alike ok
  have rd := rdvs_of hκ I1 o1 k2 hV
  have old : ∀ b o, h'.get? b = some o → (sortingHeap (h'.push (seqObj "list" acc.toList.toArray 0)) h'.objs.size acc.toList).get? b = some o := fun b o e =>
    sortingHeap_old (Nat.ne_of_lt (Heap.lt_size e)) (Heap.get?_push_of_some _ e)
  have er := (each_reads o1 rd).mono (R' := fun u d => ∃ as, Reads (sortingHeap (h'.push (seqObj "list" acc.toList.toArray 0)) h'.objs.size acc.toList) u (pdD d) as) fun _ _ ⟨as, r⟩ => ⟨as, PyProof.Rows.Reads.keeps old r⟩
  refine wpAny_bind (wpAny_holding (wpAny_call_entry PyProof.Rows.slot_list_sort ⟨_, hoL, rfl⟩ PyProof.Rows.entry_list_sort
    (list_sort_vals (s := { s with heap := h'.push (seqObj "list" acc.toList.toArray 0), toks := tk }) (A := X.A.in1.in1) hoL (SortsAt.data (s := { s with heap := sortingHeap (h'.push (seqObj "list" acc.toList.toArray 0)) h'.objs.size acc.toList, toks := tk }) (each_map (R := fun v d => ∃ as, Reads (sortingHeap (h'.push (seqObj "list" acc.toList.toArray 0)) h'.objs.size acc.toList) v d as) pdD er) o2 o3 fun d hd' => ?_) (by rw [hal]; exact hz) ⟨_, rfl, ?_⟩)
    (PyProof.Rows.args_list_sort _)))
  · obtain ⟨x, hx, rfl⟩ := List.mem_map.mp hd'
    have := depth_of (okDs_mem o1 x hx)
    show X.A.units + 1 + 1 + _ < cLine
    omega
  · have eo := sortVals_data (R := fun u d => ∃ x, RelV x u ∧ IsD κ as H d x) (enc := pdD) false (each_in k2 hV) er o2
    obtain ⟨zs, z1, z2⟩ := each_out eo
    obtain ⟨e', he'⟩ := PyProof.Rows.sortedHeap_at (vs := acc.toList) (out := (sortVals (dataKind (sortingHeap (h'.push (seqObj "list" acc.toList.toArray 0)) h'.objs.size acc.toList) ((kvs.map fun p => kyD p.1).map pdD)) false acc.toList acc.toList).toArray) hoL
    refine wpAny_pure ⟨_, rfl, .ref h'.objs.size, upd H h'.objs.size (.lst zs), I1.laid (t' := tk) (fun b u e => ?_) (Nat.le_refl _)
      ⟨?_, _, e', z1, he'⟩, rfl, q _ zs (I1.hok.fresh (Nat.le_refl _)) z2⟩
    · have hb : b < h'.objs.size := Heap.lt_size e
      rw [PyProof.Rows.sortedHeap_old (Nat.ne_of_lt hb) (by rw [size_push']; exact Nat.lt_succ_of_lt hb)]
      exact Heap.get?_push_of_some _ e
    · rw [z1.length, sortVals_length false rfl, hal]
      exact hz
end
theorem CallR.or {X : Cx} {f : Value} {r1 r2 : List V → Hp → VK → Prop} (h1 : CallR X f r1) (h2 : CallR X f r2) : CallR X f fun vs H Q => r1 vs H Q ∨ r2 vs H Q := by
  intro pins s σ H vs us Q I r h
  rcases h with h | h
  · exact h1 pins s σ H vs us Q I r h
  · exact h2 pins s σ H vs us Q I r h
section
variable {X : Cx} {sc : SC} {κ : Kx} {Φ : Fn} {Wx : L2.WX} {a : Expr} {ma : MW} {pos : Pos}
theorem pn_sorted (ok : CxOk X sc κ Φ) {p : Pos} (hg : glB sc "sorted" = true) (hs : nostar a = true) (ha : PE X a (rdW κ Wx ma)) :
    PE X (.Call (.Name "sorted" p) [a] [] pos) (rdN κ Wx fun ρ S => (ma ρ S).bind fun x S1 => (R.of S1 (itemsS (x.vw S1))).bind fun xs S1 => R.chk (ordOk xs) (.ok (.lst (sortD xs)) S1)) := by
  refine PE.imp (pe_callB (id := "sorted") (CallR.or (cr_sortL ok.hκ ok.un) (cr_sortK ok.hκ ok.calm ok.un)) (ok.gl hg) (ok.blt "sorted" (by decide)) (by decide +kernel) (pa_cons ha pa_nil (star_cons hs)) (by decide +kernel) (by decide +kernel) (star_cons hs) rfl) fun σ H Q ⟨as, H0, ρ, S, rs, hS, w⟩ => ?_
  refine rdW.mk rs hS w.of_bind fun x S1 as1 H1 v w1 st1 r1 hS1 => ?_
  obtain ⟨xs, e, k⟩ := Out.of_of w1.of_bind
  obtain ⟨o, k⟩ := Out.of_chk k
  have rv := r1.vw hS1
  cases q : x.vw S1 with
  | lst ys =>
    rw [q] at rv e
    cases e
    obtain ⟨p, vs, rfl, hq, hd⟩ := rv
    exact .inl ⟨as1, p, _, vs, rfl, .inl hq, hd, o, fun p' zs hp z => kN.lst (kN.on st1 k) hS1 z p' hp⟩
  | scr ns =>
    rw [q] at rv e
    cases e
    obtain ⟨p, rfl, hq⟩ := rv
    exact .inl ⟨as1, p, _, _, rfl, hq, IsDs.of_ints, o, fun p' zs hp z => kN.lst (kN.on st1 k) hS1 z p' hp⟩
  | dic kvs =>
    rw [q] at rv e
    cases e
    obtain ⟨p, kws, rfl, hq, hd⟩ := rv
    exact .inr ⟨as1, p, kvs, kws, rfl, hq, hd, o, fun p' zs hp z => kN.lst (kN.on st1 k) hS1 z p' hp⟩
  | _ => rw [q] at e; cases e
end
end Ev
set_option maxHeartbeats 4000000
/-! Ev, part 16: the little language beside the text. -/
namespace Ev
open PySem PySem.Spec PyProof.Rows L2

mutual
def beqD : D → D → Bool
  | .non, .non => true
  | .bl a, .bl b => a == b
  | .int a, .int b => a == b
  | .str a, .str b => a == b
  | .fn a, .fn b => a == b
  | .tup xs, .tup ys => beqDs xs ys
  | .kdic xs, .kdic ys => beqZs xs ys
  | _, _ => false
def beqDs : List D → List D → Bool
  | [], [] => true
  | x :: xs, y :: ys => beqD x y && beqDs xs ys
  | _, _ => false
def beqZs : List (Nm × D) → List (Nm × D) → Bool
  | [], [] => true
  | (a, x) :: xs, (b, y) :: ys => a == b && (beqD x y && beqZs xs ys)
  | _, _ => false
end
mutual
theorem beqD_ok : ∀ {a b : D}, beqD a b = true → a = b
  | .non, b, h => by cases b <;> first | rfl | cases h
  | .bl x, b, h => by
    cases b with
    | bl y => rw [beqD] at h; rw [eq_of_beq h]
    | _ => cases h
  | .int x, b, h => by
    cases b with
    | int y => rw [beqD] at h; rw [eq_of_beq h]
    | _ => cases h
  | .str x, b, h => by
    cases b with
    | str y => rw [beqD] at h; rw [eq_of_beq h]
    | _ => cases h
  | .fn x, b, h => by
    cases b with
    | fn y => rw [beqD] at h; rw [eq_of_beq h]
    | _ => cases h
  | .tup xs, b, h => by
    cases b with
    | tup ys => rw [beqD] at h; rw [beqDs_ok h]
    | _ => cases h
  | .kdic xs, b, h => by
    cases b with
    | kdic ys => rw [beqD] at h; rw [beqZs_ok h]
    | _ => cases h
  | .ref _, b, h => by cases b <;> cases h
  | .lst _, b, h => by cases b <;> cases h
  | .scr _, b, h => by cases b <;> cases h
  | .dic _, b, h => by cases b <;> cases h
  | .obj _ _, b, h => by cases b <;> cases h
  | .exc _ _, b, h => by cases b <;> cases h
theorem beqDs_ok : ∀ {a b : List D}, beqDs a b = true → a = b
  | [], [], _ => rfl
  | [], _ :: _, h => by simp [beqDs] at h
  | _ :: _, [], h => by simp [beqDs] at h
  | x :: xs, y :: ys, h => by
    rw [beqDs] at h
    obtain ⟨h1, h2⟩ := ba2 h
    rw [beqD_ok h1, beqDs_ok h2]
theorem beqZs_ok : ∀ {a b : List (Nm × D)}, beqZs a b = true → a = b
  | [], [], _ => rfl
  | [], _ :: _, h => by simp [beqZs] at h
  | (_, _) :: _, [], h => by simp [beqZs] at h
  | (a, x) :: xs, (b, y) :: ys, h => by
    rw [beqZs] at h
    obtain ⟨h0, h⟩ := ba2 h
    obtain ⟨h1, h2⟩ := ba2 h
    rw [eq_of_beq h0, beqD_ok h1, beqZs_ok h2]
end
def opB : Bop → Operator → Bool
  | .add, .Add => true
  | .sub, .Sub => true
  | .mul, .Mult => true
  | .fdv, .FloorDiv => true
  | .mod, .Mod => true
  | .pow, .Pow => true
  | .shr, .RShift => true
  | .band, .BitAnd => true
  | _, _ => false
def copB : Cop → CmpOp → Bool
  | .eq, .Eq => true
  | .ne, .NotEq => true
  | .lt, .Lt => true
  | .le, .LtE => true
  | .gt, .Gt => true
  | .ge, .GtE => true
  | .is, .Is => true
  | .isn, .IsNot => true
  | .inn, .In => true
  | .nin, .NotIn => true
  | _, _ => false
theorem opB_ok {o : Bop} {op : Operator} (h : opB o op = true) : op = bopE o := by
  cases o <;> cases op <;> first | rfl | cases h
theorem copB_ok {o : Cop} {op : CmpOp} (h : copB o op = true) : op = copE o := by
  cases o <;> cases op <;> first | rfl | cases h
def chkC : D → Expr → Bool
  | .non, .Constant .none _ _ => true
  | .bl a, .Constant (.bool b) _ _ => a == b
  | .int i, .Constant (.int j) _ _ => i == j
  | .str s, .Constant (.str x) _ _ => decide (x = tx s) && szOk s.length
  | _, _ => false
/-- a comprehension's own names -/
def ownOf (tg : List Nat) (xs : List Expr) : Option (List (Str × Nat)) := match tg, xs with
  | [], [] => some []
  | i :: is, .Name x _ :: r => (ownOf is r).map ((x, i) :: ·)
  | _, _ => none
def tgOf (e : Expr) : Option (Bool × List Expr) := match e with
  | .Name x p => some (false, [.Name x p])
  | .Tuple es _ _ => some (true, es)
  | _ => none
def relN (nm : List (Str × NameKind)) (scope : Scope) : List (Str × NameKind) := scope.names.map fun (n, k) => if (k == .free && nm.lookup n == some .cell) then (n, .cell) else (n, k)
def SC.blk (sc : SC) (scope : Scope) : SC := { sc with nm := relN sc.nm scope, cl := (scope.names.filter fun p => p.2 == .cell).map (·.1) }
/-- the scope as blkC takes it -/
def SC.scope (sc : SC) : Scope := { kind := .function, names := sc.nm, isGenerator := false, isCoroutine := false, more := [] }
def tgB (sc : SC) (own : List (Str × Nat)) : Bool := own.all fun p => decide (sc.N[p.2]? = some p.1) && locB sc p.1
def notSet : Expr → Bool
  | .Set _ _ _ => false
  | _ => true
/-- a zip, an enumerate: only to several names -/
def tgI (k : Sk) (t : Expr) : Bool := match k, t with
  | .zip, .Tuple _ _ _ => true
  | .enum, .Tuple _ _ _ => true
  | .zip, _ => false
  | .enum, _ => false
  | _, _ => true
/-- what may be asked by its value's truth -/
def truE : Expr → Bool
  | .Name _ _ => true
  | .Call _ _ _ _ => true
  | .Subscript _ _ _ => true
  | .Attribute _ _ _ => true
  | .BinOp _ _ _ _ => true
  | _ => false
def tstE : Expr → Bool
  | .BoolOp _ _ _ => true
  | .UnaryOp .Not _ _ => true
  | .Compare _ _ _ _ => true
  | e => truE e
def isMinO : Blt → Bool
  | .minO => true
  | _ => false

mutual
def chkE (sc : SC) : Ex → Expr → Bool
  | .var i, .Name x _ => decide (sc.N[i]? = some x) && (visB sc x && !odd x)
  | .cst c, e => chkC c e
  | .glo x d, .Name y _ => decide (y = Str.ofString x) && (glB sc y && (!odd y && sc.cs.any fun p => p.1 == x && beqD p.2 d))
  | .bin o a b, .BinOp x op y _ => opB o op && (chkE sc a x && chkE sc b y)
  | .neg a, .UnaryOp .USub x _ => chkE sc a x
  | .cmp o a b, .Compare x [op] [y] _ => (copB o op && !behindInMarks op y) && (chkE sc a x && chkE sc b y)
  | .chn o o' a b c, .Compare x [op, op'] [y, z] _ => ((copB o op && copB o' op') && !lastMarks [op, op'] [y, z]) && (chkE sc a x && (chkE sc b y && chkE sc c z))
  | .bop true es, .BoolOp .And xs _ => decide (2 ≤ xs.length) && chkB sc es xs
  | .bop false es, .BoolOp .Or xs _ => decide (2 ≤ xs.length) && chkB sc es xs
  | .not a, .UnaryOp .Not x _ => tstE x && chkE sc a x
  | .ife c a b, .IfExp x y z _ => (tstE x && chkE sc c x) && (chkE sc a y && chkE sc b z)
  | .tup es, .Tuple xs _ _ => decide (es.length ≤ 1000) && chkEs sc es xs
  | .idx a i, .Subscript x y _ => plainIx y && (chkE sc a x && chkE sc i y)
  | .slc a lo hi, .Subscript x (.Slice l u none _) _ => chkE sc a x && (chkO sc lo l && chkO sc hi u)
  | .rev a, .Subscript x (.Slice none none (some (.UnaryOp .USub (.Constant (.int 1) _ _) _)) _) _ => chkE sc a x
  | .call f es, .Call (.Name x _) xs [] _ => decide (sc.fns.lookup f = some x) && (glB sc x && (!odd x && chkEs sc es xs))
  | .blt b es, .Call (.Name x _) xs [] _ => (decide (x = Str.ofString (bltN b)) && !isMinO b) && (glB sc x && (!xs.isEmpty && chkEs sc es xs))
  | .isi a [T], .Call (.Name f _) [x, .Name t _] [] _ => (decide (f = Str.ofString "isinstance") && (decide (t = Str.ofString T) && tyNames.contains T)) && ((glB sc f && glB sc t) && (nostar x && chkE sc a x))
  | .join a b, .Call (.Attribute x m apos) [y] [] pos => (decide (m = Str.ofString "join") && (attrOk x && apos.endLine == pos.line)) && (nostar y && (chkE sc a x && chkE sc b y))
  | .mth .upper a [], .Call (.Attribute x m apos) [] [] pos => (decide (m = Str.ofString "upper") && (attrOk x && apos.endLine == pos.line)) && chkE sc a x
  | .mth .get a [b], .Call (.Attribute x m apos) [y] [] pos => (decide (m = Str.ofString "get") && (attrOk x && apos.endLine == pos.line)) && (nostar y && (chkE sc a x && chkE sc b y))
  | .mth .get a [b, c], .Call (.Attribute x m apos) [y, z] [] pos => (decide (m = Str.ofString "get") && (attrOk x && apos.endLine == pos.line)) && ((nostar y && nostar z) && (chkE sc a x && (chkE sc b y && chkE sc c z)))
  | .frz n, x => chkN sc n x
  | .cel n, x => chkN sc n x
  | _, _ => false
def chkEs (sc : SC) : List Ex → List Expr → Bool
  | [], [] => true
  | a :: as, x :: xs => nostar x && (chkE sc a x && chkEs sc as xs)
  | _, _ => false
/-- the parts of and, or -/
def chkB (sc : SC) : List Ex → List Expr → Bool
  | [], [] => true
  | a :: as, x :: xs => tstE x && (chkE sc a x && chkB sc as xs)
  | _, _ => false
def chkO (sc : SC) : List Ex → Option Expr → Bool
  | [], none => true
  | [a], some x => chkE sc a x
  | _, _ => false
def chkI (sc : SC) (k : Sk) : List Ex → Expr → Bool
  | [a], e => (match k, e with
    | .seq, e => chkE sc a e
    | .range, .Call (.Name x _) [y] [] _ => decide (x = Str.ofString "range") && (glB sc x && (nostar y && chkE sc a y))
    | .enum, .Call (.Name x _) [y] [] _ => decide (x = Str.ofString "enumerate") && (glB sc x && (nostar y && chkE sc a y))
    | _, _ => false)
  | [a, b], e => (match k, e with
    | .range, .Call (.Name x _) [y, z] [] _ => decide (x = Str.ofString "range") && (glB sc x && ((nostar y && nostar z) && (chkE sc a y && chkE sc b z)))
    | .zip, .Call (.Name x _) [y, z] [] _ => decide (x = Str.ofString "zip") && (glB sc x && ((nostar y && nostar z) && (chkE sc a y && chkE sc b z)))
    | _, _ => false)
  | _, _ => false
def chkN (sc : SC) : Nw → Expr → Bool
  | .lst es, .List xs _ => decide (es.length ≤ 1000) && chkEs sc es xs
  | .dic [], .Dict [] [] _ => true
  | .dic es, .Dict keys vals _ => (decide (keys.length ≤ 15) && !keys.isEmpty) && chkP sc es keys vals
  | .cat a b, .BinOp x .Add y _ => chkE sc a x && chkE sc b y
  | .rep a b, .BinOp x .Mult y _ => chkE sc a x && chkE sc b y
  | .slc a lo hi, .Subscript x (.Slice l u none _) _ => chkE sc a x && (chkO sc lo l && chkO sc hi u)
  | .rev a, .Subscript x (.Slice none none (some (.UnaryOp .USub (.Constant (.int 1) _ _) _)) _) _ => chkE sc a x
  | .list a, .Call (.Name x _) [y] [] _ => decide (x = Str.ofString "list") && (glB sc x && (nostar y && chkE sc a y))
  | .sorted a, .Call (.Name x _) [y] [] _ => decide (x = Str.ofString "sorted") && (glB sc x && (nostar y && chkE sc a y))
  | .call f es, .Call (.Name x _) xs [] _ => decide (sc.fns.lookup f = some x) && (glB sc x && (!odd x && chkEs sc es xs))
  | .comp tg k src cond elt, .ListComp e [⟨t, it, ifs, 0⟩] scope _ => (match tgOf t with
    | none => false
    | some (tp, ts) => (match ownOf tg ts with
      | none => false
      | some own => ((tp == decide (tg.length ≠ 1)) && (notSet it && tgI k t)) && (blkC sc.N sc.scope scope own && (tgB (sc.blk scope) own && (chkI sc k src it && (chkB (sc.blk scope) cond ifs && (decide (cond.length ≤ 1) && chkE (sc.blk scope) elt e)))))))
  | _, _ => false
def chkP (sc : SC) : List Ex → List (Option Expr) → List Expr → Bool
  | [], [], [] => true
  | a :: b :: es, some k :: ks, v :: vs => chkE sc a k && (chkE sc b v && chkP sc es ks vs)
  | _, _, _ => false
end
end Ev
set_option maxHeartbeats 4000000
/-! Ev, part 17: what the check accepts does what its reading says. -/
namespace Ev
open PySem PySem.Spec PyProof.Rows L2
section
variable {X : Cx} {sc : SC} {κ : Kx} {Φ : Fn} {Wx : L2.WX} {pos : Pos}
theorem stars_of : ∀ {es : List Ex} {xs : List Expr}, chkEs sc es xs = true → ∀ e ∈ xs, nostar e = true
  | [], [], _, e, he => by simp at he
  | [], _ :: _, h, _, _ => by cases h
  | _ :: _, [], h, _, _ => by cases h
  | a :: as, x :: xs, h, e, he => by
    have h : (nostar x && (chkE sc a x && chkEs sc as xs)) = true := h
    obtain ⟨h1, h2⟩ := ba2 h
    obtain ⟨h2, h3⟩ := ba2 h2
    rcases List.mem_cons.mp he with rfl | he
    · exact h1
    · exact stars_of h3 e he
theorem es_len : ∀ {es : List Ex} {ρ : Env} {S S' : Sto} {ds : List D}, evEs Φ ρ es S = .ok ds S' → ds.length = es.length
  | [], ρ, S, S', ds, h => by
    rw [evEs] at h
    injection h with h _
    subst h
    rfl
  | e :: es, ρ, S, S', ds, h => by
    rw [evEs] at h
    obtain ⟨d, S1, h1, h2⟩ := bind_ok h
    obtain ⟨r, S2, h3, h4⟩ := bind_ok h2
    injection h4 with h4 _
    rw [← h4, List.length_cons, List.length_cons, es_len h3]
theorem ws_len : ∀ {es : List Ex} {ρ : Env} {S S' : Sto} {ds : List W}, evWs Φ ρ es S = .ok ds S' → ds.length = es.length
  | [], ρ, S, S', ds, h => by
    rw [evWs] at h
    injection h with h _
    subst h
    rfl
  | e :: es, ρ, S, S', ds, h => by
    rw [evWs] at h
    obtain ⟨d, S1, h1, h2⟩ := bind_ok h
    obtain ⟨r, S2, h3, h4⟩ := bind_ok h2
    injection h4 with h4 _
    rw [← h4, List.length_cons, List.length_cons, ws_len h3]
/-- a built-in function -/
theorem bltT : ∀ b : Blt, isMinO b = false → (bltN b ∈ bltNames ∧ bootBuiltins (Str.ofString (bltN b)) = some (bltV b)) ∧ (Str.ofString (bltN b) ≠ "__name__" ∧ (Str.ofString (bltN b) == ("__debug__" : Str)) = false)
  | .len, _ => by decide +kernel
  | .sum, _ => by decide +kernel
  | .min, _ => by decide +kernel
  | .max, _ => by decide +kernel
  | .minO, h => by cases h
  | .any, _ => by decide +kernel
  | .all, _ => by decide +kernel
  | .int, _ => by decide +kernel
  | .str, _ => by decide +kernel
  | .abs, _ => by decide +kernel
  | .divmod, _ => by decide +kernel
  | .tup, _ => by decide +kernel
theorem bltD_S {b : Blt} {xs : List D} {S : Sto} {k : D → Sto → Prop} {ke : D → Sto → Prop} (h : Out (bltD b xs S) k ke) : Out (bltD b xs S) (fun r S' => S' = S ∧ k r S') ke := by
  have go : ∀ r : R D, (∀ b S', r = .ok b S' → S' = S) → Out r k ke → Out r (fun r S' => S' = S ∧ k r S') ke := fun r e h => by
    cases r with
    | ok b S' => exact ⟨e b S' rfl, h⟩
    | exc e S' => exact h
    | bad => exact h
  refine go _ ?_ h
  intro d S' e
  have of : ∀ {o : Option D}, R.of S o = .ok d S' → S' = S := fun {o} e => by
    cases o with
    | none => cases e
    | some a => injection e with _ e; exact e.symm
  have ck : ∀ {b : Bool} {a : D}, R.chk b (.ok a S) = .ok d S' → S' = S := fun {b a} e => by
    unfold R.chk at e
    split at e
    · injection e with _ e; exact e.symm
    · cases e
  unfold bltD at e
  split at e
  · unfold blt1 at e
    (repeat' split at e) <;> first | exact of e | exact ck e | (injection e with _ e; exact e.symm) | cases e
  · unfold blt2 at e
    (repeat' split at e) <;> first | exact of e | exact ck e | (injection e with _ e; exact e.symm) | cases e
  · cases e
theorem pd_blt (ok : CxOk X sc κ Φ) {b : Blt} {x : Str} {xs : List Expr} {p : Pos} {ms : Env → Sto → R (List W)} (hx : x = Str.ofString (bltN b)) (hb : isMinO b = false) (hg : glB sc x = true) (hn : xs ≠ []) (hs : ∀ e ∈ xs, nostar e = true) (hp : PA X xs (rdWs κ Wx ms)) :
    PE X (.Call (.Name x p) xs [] pos) (rdW κ Wx fun ρ S => (ms ρ S).bind fun ws S1 => (bltD b (ws.map (W.vw S1)) S1).w) := by
  subst hx
  obtain ⟨⟨h1, h2⟩, h3, h4⟩ := bltT b hb
  have nb : b ≠ .minO := fun z => by rw [z] at hb; cases hb
  have rd : ∀ σ H Q, rdW κ Wx (fun ρ S => (ms ρ S).bind fun ws S1 => (bltD b (ws.map (W.vw S1)) S1).w) σ H Q → tCB (rBlt κ b) (rdWs κ Wx ms) σ H Q := fun σ H Q ⟨as, H0, ρ, S, rs, hS, w⟩ => by
    refine rdWs.mk rs hS w.of_bind fun ws S1 as1 H1 vs w1 st1 r1 hS1 => ?_
    have e := bltD_S w1.of_w
    exact ⟨as1, S1, _, _, hS1, IsEs.vs hS1 r1, nb, e.imp (fun d S2 z => by obtain ⟨rfl, z⟩ := z; exact kD.on st1 z) fun _ _ z => z⟩
  cases xs with
  | nil => exact absurd rfl hn
  | cons a xs =>
    have hc := cr_blt ok.hκ ok.calm b
    have s1 := star_cons (es := xs) (env := X.env) (hs a List.mem_cons_self)
    have s2 := star_back (pos := pos) (env := X.env) fun e he => hs e (List.mem_cons_of_mem _ he)
    cases b <;> first
      | exact PE.imp (pe_callTy hc (ok.gl hg) (ok.blt _ h1) h2 hp h3 h4 s1 s2) rd
      | exact PE.imp (pe_callB hc (ok.gl hg) (ok.blt _ h1) h2 hp h3 h4 s1 s2) rd
end
end Ev
set_option maxHeartbeats 4000000
/-! Ev, part 18: a comprehension's block. -/
namespace Ev
open PySem PySem.Spec PyProof.Rows L2
section
variable {X : Cx} {sc : SC} {κ : Kx} {Φ : Fn} {Wx : L2.WX} {pos : Pos}
theorem CxOk.relab (ok : CxOk X sc κ Φ) (scope : Scope) : (relabel scope X.env).names = relN sc.nm scope := by
  unfold relabel relN
  have hk : (X.env.scope.kind == ScopeKind.function) = true := by rw [ok.kind]; rfl
  have hn : ∀ n, X.env.kindOf n = sc.nm.lookup n := fun n => by unfold Env.kindOf; rw [ok.nm]
  show scope.names.map _ = scope.names.map _
  apply List.map_congr_left
  intro p hp
  obtain ⟨n, k⟩ := p
  simp only [hk, hn, Bool.and_true]
theorem lookup_rel {nm : List (Str × NameKind)} {x : Str} : ∀ {l : List (Str × NameKind)}, (l.map fun (n, k) => if (k == .free && nm.lookup n == some .cell) then (n, NameKind.cell) else (n, k)).lookup x = some .local → l.lookup x = some .local
  | [], h => by cases h
  | (n, k) :: r, h => by
    rw [List.map_cons] at h
    by_cases c : (k == .free && nm.lookup n == some .cell) = true
    · simp only [if_pos c] at h
      by_cases z : (x == n) = true
      · rw [List.lookup_cons, z] at h
        cases h
      · have z : (x == n) = false := by simpa using z
        rw [List.lookup_cons, z] at h
        rw [List.lookup_cons, z]
        exact lookup_rel h
    · simp only [if_neg c] at h
      by_cases z : (x == n) = true
      · rw [List.lookup_cons, z] at h ⊢
        exact h
      · have z : (x == n) = false := by simpa using z
        rw [List.lookup_cons, z] at h ⊢
        exact lookup_rel h
theorem CxOk.blk (ok : CxOk X sc κ Φ) {scope : Scope} {own : List (Str × Nat)} (h : blkC sc.N sc.scope scope own = true) (s : Shared) (H : Hp) (C : Addr) (cl : List (Str × Addr)) (fp : List Addr) :
    CxOk (X.blk s H scope (compEnvC scope cl C X.env) fp) (sc.blk scope) κ Φ := by
  have bo := blkOk_by h
  refine ⟨ok.hκ, ok.hw, ok.N, ok.nd, ok.relab scope, bo.kind, ok.calm, ok.un, fun x hx => ?_, ok.blt, fun f x e => ⟨(ok.fns f x e).ex⟩, ok.cs⟩
  unfold locB at hx
  split at hx
  · rename_i e
    right
    show (relabel scope X.env).names.lookup x = _
    rw [ok.relab]
    exact e
  · left
    have e : (sc.blk scope).cl = (scope.names.filter fun p => p.2 == .cell).map (·.1) := rfl
    rw [e] at hx
    have m := List.contains_iff_mem.mp hx
    obtain ⟨p, hp, hpx⟩ := List.mem_map.mp m
    obtain ⟨h1, h2⟩ := List.mem_filter.mp hp
    have := bo.uniq p h1
    have h3 : p.2 = .cell := by simpa using h2
    rw [hpx, h3] at this
    show (scope.names.lookup x == some .cell) = true
    rw [this]
    rfl
  · cases hx
theorem CxOk.blkB (ok : CxOk X sc κ Φ) {scope : Scope} {own : List (Str × Nat)} (h : blkC sc.N sc.scope scope own = true) : BlkOk X.N X.env.scope scope own := by
  have bo := blkOk_by h
  refine ⟨bo.kind, bo.uniq, by rw [ok.N]; exact bo.ix, fun y hy e => ?_, by rw [ok.N]; exact bo.own⟩
  rw [ok.nm]
  exact bo.free y hy e
/-- the names of a target -/
theorem own_pgs (ok : CxOk X sc κ Φ) : ∀ {tg : List Nat} {ts : List Expr} {own : List (Str × Nat)}, ownOf tg ts = some own → tgB sc own = true → own.map (·.2) = tg ∧ ((∀ i ∈ tg, i < X.N.length) ∧ (PGs X ts (gConsN tg) ∧ ((assignEach ts X.env).length = tg.length ∧ (assignEach ts X.env).findIdx? (·.1) = none)))
  | [], [], own, h, _ => by
    cases h
    exact ⟨rfl, fun i hi => by simp at hi, pgs_nil, rfl, rfl⟩
  | [], _ :: _, own, h, _ => by cases h
  | i :: is, [], own, h, _ => by cases h
  | i :: is, t :: ts, own, h, hb => by
    cases t with
    | Name x p =>
      have h : (ownOf is ts).map ((x, i) :: ·) = some own := h
      obtain ⟨r, h1, h2⟩ := Option.map_eq_some_iff.mp h
      subst h2
      have hb' : ((decide (sc.N[i]? = some x) && locB sc x) && tgB sc r) = true := hb
      obtain ⟨hb1, hb2⟩ := ba2 hb'
      obtain ⟨hb1, hb3⟩ := ba2 hb1
      have hi := of_decide_eq_true hb1
      obtain ⟨k1, k2, k3, k4, k5⟩ := own_pgs ok h1 hb2
      refine ⟨by rw [List.map_cons, k1], fun j hj => ?_, pgs_cons (pg_name ok.nd (by rw [ok.N]; exact hi) (ok.loc hb3) (ok.fn x hb3)) k3 rfl, ?_, ?_⟩
      · rcases List.mem_cons.mp hj with rfl | hj
        · rw [ok.N]; exact (List.getElem?_eq_some_iff.mp hi).1
        · exact k2 j hj
      · show (assignEach ts X.env).length + 1 = _
        rw [k4]
        rfl
      · show List.findIdx? _ ((false, _) :: assignEach ts X.env) = none
        rw [List.findIdx?_cons, k5]
        rfl
    | _ => cases h
theorem own_pg (ok : CxOk X sc κ Φ) {tg : List Nat} {t : Expr} {ts : List Expr} {tp : Bool} {own : List (Str × Nat)} (ht : tgOf t = some (tp, ts)) (h : ownOf tg ts = some own) (hb : tgB sc own = true) (hp : tp = decide (tg.length ≠ 1)) : PG X t (gT κ.K tg) := by
  obtain ⟨k1, k2, k3, k4, k5⟩ := own_pgs ok h hb
  cases t with
  | Name x p =>
    cases ht
    match tg, h with
    | [i], h =>
      cases h
      have hb' : ((decide (sc.N[i]? = some x) && locB sc x) && true) = true := hb
      obtain ⟨hb1, _⟩ := ba2 hb'
      obtain ⟨hb1, hb3⟩ := ba2 hb1
      exact pg_name ok.nd (by rw [ok.N]; exact of_decide_eq_true hb1) (ok.loc hb3) (ok.fn x hb3)
    | i :: j :: r, h => cases h
  | Tuple es n p =>
    cases ht
    have hl : tg.length ≠ 1 := of_decide_eq_true hp.symm
    have base : PG X (.Tuple ts n p) (gTup X.K tg.length (gConsN tg)) := pg_tup ok.calm k3 k4 k5
    rw [ok.hκ]
    match tg, hl, base with
    | [], _, base => exact base
    | [i], hl, _ => exact absurd rfl hl
    | i :: j :: r, _, base => exact base
  | _ => cases ht
theorem notSet_ok {e : Expr} {env : PySem.Env} (h : notSet e = true) : ∀ x, foldedSetIterable e env x = pure x := fun x => by
  cases e <;> first | rfl | cases h
end
end Ev
set_option maxHeartbeats 4000000
/-! Ev, part 19: what the check of expressions accepts does what the evaluator says. -/
namespace Ev
open PySem PySem.Spec PyProof.Rows L2
noncomputable abbrev vE (Φ : Fn) (e : Ex) : MW := fun ρ S => evW Φ ρ e S
def MoE (κ : Kx) (Φ : Fn) (sc : SC) (e : Ex) (x : Expr) : Prop := ∀ X Wx, CxOk X sc κ Φ → Takes X Wx → chkE sc e x = true →
  PE X x (rdW κ Wx (vE Φ e)) ∧ (tstE x = true → PT X x (rdT κ Wx fun ρ S => (evW Φ ρ e S).t))
def MoN (κ : Kx) (Φ : Fn) (sc : SC) (n : Nw) (x : Expr) : Prop := ∀ X Wx, CxOk X sc κ Φ → Takes X Wx → chkN sc n x = true → PE X x (rdN κ Wx fun ρ S => evN Φ ρ n S)
def MoB (κ : Kx) (Φ : Fn) (sc : SC) (es : List Ex) (xs : List Expr) : Prop := ∀ X Wx, CxOk X sc κ Φ → Takes X Wx → chkB sc es xs = true →
  (∀ isAnd pos, xs ≠ [] → PE X (.BoolOp (bopO isAnd) xs pos) (rdW κ Wx (vsB isAnd (es.map (vE Φ)))) ∧ PW X (.BoolOp (bopO isAnd) xs pos) (rdT κ Wx (tsB isAnd (es.map (vE Φ))))) ∧
  (es.length ≤ 1 → PTs X xs (rdT κ Wx fun ρ S => evC Φ ρ es S)) ∧ es.length = xs.length
def MoI (κ : Kx) (Φ : Fn) (sc : SC) (k : Sk) (es : List Ex) (x : Expr) : Prop := ∀ X Wx, CxOk X sc κ Φ → Takes X Wx → chkI sc k es x = true → ∀ tg, tgI k tg = true → PI X tg x (rdI κ Wx k fun ρ S => evWs Φ ρ es S)
def MoO (κ : Kx) (Φ : Fn) (sc : SC) (es : List Ex) (x : Option Expr) : Prop := ∀ X Wx, CxOk X sc κ Φ → Takes X Wx → chkO sc es x = true → PO X x (rdO κ Wx fun ρ S => (evEs Φ ρ es S).bind fun l S2 => R.of S2 (partD l))
def MoA (κ : Kx) (Φ : Fn) (sc : SC) (es : List Ex) (xs : List Expr) : Prop := ∀ X Wx, CxOk X sc κ Φ → Takes X Wx → chkEs sc es xs = true →
  (PA X xs (rdDs κ Wx fun ρ S => evEs Φ ρ es S) ∧ PA X xs (rdWs κ Wx fun ρ S => evWs Φ ρ es S)) ∧ es.length = xs.length
def MoP (κ : Kx) (Φ : Fn) (sc : SC) (es : List Ex) (ks : List (Option Expr)) (vs : List Expr) : Prop := ∀ X Wx, CxOk X sc κ Φ → Takes X Wx → chkP sc es ks vs = true →
  ∃ ps : List (MW × MW), (∀ pos, PPs X pos ks vs (trsOf κ Wx ps)) ∧ (∀ ρ S, evEs Φ ρ es S = evP ps ρ S) ∧ (ps.length = ks.length ∧ (ks.all (·.isSome) = true ∧ ks.length = vs.length))
section
variable {X : Cx} {sc : SC} {κ : Kx} {Φ : Fn} {Wx : L2.WX}
theorem evB_vsB {isAnd : Bool} : ∀ {es : List Ex} {ρ : Env} {S : Sto}, evB Φ ρ isAnd es S = vsB isAnd (es.map (vE Φ)) ρ S
  | [], ρ, S => by rw [evB]; rfl
  | [e], ρ, S => by rw [evB]; rfl
  | e :: e2 :: es, ρ, S => by
    rw [evB]
    show (evW Φ ρ e S).d.bind _ = (evW Φ ρ e S).d.bind _
    congr 1
    funext x S1
    congr 1
    funext b S2
    rw [evB_vsB (es := e2 :: es)]
theorem tsB_evB {isAnd : Bool} {es : List Ex} {σ : L2.St} {H : Hp} {Q : Bool → Hp → Prop} (h : rdT κ Wx (fun ρ S => (evW Φ ρ (.bop isAnd es) S).t) σ H Q) : rdT κ Wx (tsB isAnd (es.map (vE Φ))) σ H Q := by
  obtain ⟨as, H0, ρ, S, rs, hS, w⟩ := h
  refine ⟨as, H0, ρ, S, rs, hS, ts_of_vs ?_⟩
  rw [← evB_vsB]
  exact w
theorem pd_callA (ok : CxOk X sc κ Φ) (tk : Takes X Wx) {f : Nat} {x : Str} {es : List Ex} {xs : List Expr} {p pos : Pos} (hf : sc.fns.lookup f = some x) (hg : glB sc x = true) (ho : odd x = false) (hc : chkEs sc es xs = true) (hp : PA X xs (rdDs κ Wx fun ρ S => evEs Φ ρ es S)) :
    PE X (.Call (.Name x p) xs [] pos) (rdC κ Wx fun ρ S => (evEs Φ ρ es S).bind fun ds S1 => Φ f ds S1) := by
  cases xs with
  | nil =>
    cases es with
    | nil => exact pd_call0 ok tk hf hg ho
    | cons _ _ => cases hc
  | cons x xs => exact pd_call ok tk hf hg ho (stars_of hc) hp
theorem no2 {p q : Prop} {b : Bool} (h : false = true) : p := by cases h
theorem evWs_nil : (fun (ρ : Env) S => evWs Φ ρ [] S) = fun _ S => .ok [] S := by funext ρ S; rw [evWs]
theorem evEs_nil : (fun (ρ : Env) S => evEs Φ ρ [] S) = fun _ S => .ok [] S := by funext ρ S; rw [evEs]
theorem evWs_cons {a : Ex} {as : List Ex} : (fun (ρ : Env) S => evWs Φ ρ (a :: as) S) = fun ρ S => (evW Φ ρ a S).bind fun d S1 => (evWs Φ ρ as S1).bind fun ds S2 => .ok (d :: ds) S2 := by funext ρ S; rw [evWs]
theorem evEs_cons {a : Ex} {as : List Ex} : (fun (ρ : Env) S => evEs Φ ρ (a :: as) S) = fun ρ S => (evW Φ ρ a S).d.bind fun d S1 => (evEs Φ ρ as S1).bind fun ds S2 => .ok (d :: ds) S2 := by funext ρ S; rw [evEs]
theorem evWs_one {a : Ex} : (fun (ρ : Env) S => evWs Φ ρ [a] S) = fun ρ S => (evW Φ ρ a S).bind fun d S1 => (R.ok (α := List W) [] S1).bind fun ds S2 => .ok (d :: ds) S2 := by funext ρ S; rw [evWs]; simp only [evWs]
theorem evEs_one {a : Ex} : (fun (ρ : Env) S => evEs Φ ρ [a] S) = fun ρ S => (evW Φ ρ a S).d.bind fun d S1 => (R.ok (α := List D) [] S1).bind fun ds S2 => .ok (d :: ds) S2 := by funext ρ S; rw [evEs]; simp only [evEs]
theorem pt_frm (ok : CxOk X sc κ Φ) {e : Ex} {x : Expr} {n : Nw} (hn : chkN sc n x = true) (p : PE X x (rdW κ Wx (vE Φ e))) (ht : tstE x = true) : PT X x (rdT κ Wx fun ρ S => (evW Φ ρ e S).t) := by
  cases x with
  | UnaryOp op a p => cases op <;> first | (cases ht; done) | (cases n with
    | dic es => cases es <;> cases hn
    | _ => cases hn)
  | BoolOp _ _ _ => cases n with
    | dic es => cases es <;> cases hn
    | _ => cases hn
  | Compare _ _ _ _ => cases n with
    | dic es => cases es <;> cases hn
    | _ => cases hn
  | Name _ _ => exact pt_of ok p fun _ => rfl
  | Call _ _ _ _ => exact pt_of ok p fun _ => rfl
  | Subscript _ _ _ => exact pt_of ok p fun _ => rfl
  | Attribute _ _ _ => exact pt_of ok p fun _ => rfl
  | BinOp _ _ _ _ => exact pt_of ok p fun _ => rfl
  | _ => cases ht
theorem chk_all (κ : Kx) (Φ : Fn) : ((∀ sc e x, MoE κ Φ sc e x) ∧ (∀ sc n x, MoN κ Φ sc n x)) ∧ ((∀ sc es xs, MoB κ Φ sc es xs) ∧ (∀ sc k es x, MoI κ Φ sc k es x)) ∧ ((∀ sc es x, MoO κ Φ sc es x) ∧ (∀ sc es xs, MoA κ Φ sc es xs)) := by
  refine (fun h => ⟨⟨h.1, h.2.1⟩, ⟨h.2.2.1, h.2.2.2.1⟩, ⟨h.2.2.2.2.1, h.2.2.2.2.2.2⟩⟩) (chkE.mutual_induct (motive_1 := MoE κ Φ) (motive_2 := MoN κ Φ) (motive_3 := MoB κ Φ) (motive_4 := MoI κ Φ) (motive_5 := MoO κ Φ) (motive_6 := MoP κ Φ) (motive_7 := MoA κ Φ) ?_ ?_ ?_ ?_ ?_ ?_ ?_ ?_ ?_ ?_ ?_ ?_ ?_ ?_ ?_ ?_ ?_ ?_ ?_ ?_ ?_ ?_ ?_ ?_ ?_ ?_ ?_ ?_ ?_ ?_ ?_ ?_ ?_ ?_ ?_ ?_ ?_ ?_ ?_ ?_ ?_ ?_ ?_ ?_ ?_ ?_ ?_ ?_ ?_ ?_ ?_ ?_ ?_ ?_ ?_ ?_ ?_ ?_ ?_)
  · -- var
    intro sc i x pos X Wx ok tk h
    obtain ⟨h1, h2⟩ := ba2 h
    obtain ⟨h2, h3⟩ := ba2 h2
    have p : PE X (.Name x pos) (rdW κ Wx (vE Φ (.var i))) := pd_var ok (of_decide_eq_true h1) h2 (by simpa using h3)
    exact ⟨p, fun _ => pt_of ok p fun _ => rfl⟩
  · -- cst
    intro sc c e X Wx ok tk h
    have h : chkC c e = true := h
    cases e with
    | Constant k kd pos =>
      refine ⟨?_, fun z => by cases z⟩
      cases c with
      | non =>
        cases k with
        | none => exact pd_const pe_non fun _ _ => rfl
        | _ => cases h
      | bl a =>
        cases k with
        | bool b =>
          have z : a = b := eq_of_beq h
          subst z
          exact pd_const pe_bl fun _ _ => rfl
        | _ => cases h
      | int a =>
        cases k with
        | int b =>
          have z : a = b := eq_of_beq h
          subst z
          exact pd_const pe_int fun _ _ => rfl
        | _ => cases h
      | str a =>
        cases k with
        | str b =>
          obtain ⟨z1, z2⟩ := ba2 h
          have z : b = tx a := of_decide_eq_true z1
          subst z
          exact pd_const pe_str fun _ _ => ⟨rfl, z2⟩
        | _ => cases h
      | _ => cases k <;> cases h
    | _ => cases c <;> cases h
  · -- glo
    intro sc x d y pos X Wx ok tk h
    obtain ⟨h1, hx⟩ := ba2 h
    obtain ⟨h2, hy⟩ := ba2 hx
    obtain ⟨h3, h4⟩ := ba2 hy
    have h7 := of_decide_eq_true h1
    subst h7
    obtain ⟨q, hq, h5⟩ := List.any_eq_true.mp h4
    obtain ⟨h5, h6⟩ := ba2 h5
    obtain ⟨q1, q2⟩ := q
    have h3 : odd (Str.ofString x) = false := by simpa using h3
    have e1 : q1 = x := eq_of_beq h5
    have e2 := beqD_ok h6
    subst e1
    have e2 : q2 = d := e2
    subst e2
    obtain ⟨u, v, m, r, hd⟩ := ok.cs _ _ hq
    have p : PE X (.Name (Str.ofString q1) pos) (rdW κ Wx (vE Φ (.glo q1 q2))) := pd_const (pe_glob (ok.gl h2) m r (odd_db h3)) hd
    exact ⟨p, fun _ => pt_of ok p fun _ => rfl⟩
  · -- bin
    intro sc o a b x op y pos ia ib X Wx ok tk h
    obtain ⟨h1, h2⟩ := ba2 h
    obtain ⟨h2, h3⟩ := ba2 h2
    have h1 := opB_ok h1
    subst h1
    have p : PE X (.BinOp x (bopE o) y pos) (rdW κ Wx (vE Φ (.bin o a b))) := pd_bin ok (ia X Wx ok tk h2).1 (ib X Wx ok tk h3).1
    exact ⟨p, fun _ => pt_of ok p fun _ => rfl⟩
  · -- neg
    intro sc a x pos ia X Wx ok tk h
    have h : chkE sc a x = true := h
    exact ⟨pd_neg (ia X Wx ok tk h).1, fun z => by cases z⟩
  · -- cmp
    intro sc o a b x op y pos ia ib X Wx ok tk h
    obtain ⟨h1, h2⟩ := ba2 h
    obtain ⟨h1, h4⟩ := ba2 h1
    obtain ⟨h2, h3⟩ := ba2 h2
    have h1 := copB_ok h1
    subst h1
    have ha := (ia X Wx ok tk h2).1
    have hb := (ib X Wx ok tk h3).1
    exact ⟨pd_cmp ok ha hb (by simpa using h4), fun _ => pt_cmp ok ha hb (by simpa using h4)⟩
  · -- chn
    intro sc o o' a b c x op op' y z pos ia ib ic X Wx ok tk h
    obtain ⟨h1, h2⟩ := ba2 h
    obtain ⟨h1, h4⟩ := ba2 h1
    obtain ⟨h1, h5⟩ := ba2 h1
    obtain ⟨h2, h3⟩ := ba2 h2
    obtain ⟨h3, h6⟩ := ba2 h3
    have h1 := copB_ok h1
    have h5 := copB_ok h5
    subst h1 h5
    have ha := (ia X Wx ok tk h2).1
    have hb := (ib X Wx ok tk h3).1
    have hc := (ic X Wx ok tk h6).1
    exact ⟨pd_chn ok ha hb hc (by simpa using h4), fun _ => pt_chn ok ha hb hc (by simpa using h4)⟩
  · -- and
    intro sc es xs pos i X Wx ok tk h
    obtain ⟨h1, h2⟩ := ba2 h
    have h1 := of_decide_eq_true h1
    obtain ⟨k1, _⟩ := i X Wx ok tk h2
    obtain ⟨p, q⟩ := k1 true pos (by rintro rfl; simp at h1)
    have e : vE Φ (.bop true es) = vsB true (es.map (vE Φ)) := by funext ρ S; exact evB_vsB
    exact ⟨by rw [e]; exact p, fun _ => PT.imp q.pt fun σ H Q z => tsB_evB z⟩
  · -- or
    intro sc es xs pos i X Wx ok tk h
    obtain ⟨h1, h2⟩ := ba2 h
    have h1 := of_decide_eq_true h1
    obtain ⟨k1, _⟩ := i X Wx ok tk h2
    obtain ⟨p, q⟩ := k1 false pos (by rintro rfl; simp at h1)
    have e : vE Φ (.bop false es) = vsB false (es.map (vE Φ)) := by funext ρ S; exact evB_vsB
    exact ⟨by rw [e]; exact p, fun _ => PT.imp q.pt fun σ H Q z => tsB_evB z⟩
  · -- not
    intro sc a x pos ia X Wx ok tk h
    obtain ⟨h1, h2⟩ := ba2 h
    obtain ⟨p, q⟩ := ia X Wx ok tk h2
    exact ⟨pd_not ok p, fun _ => pt_not (q h1)⟩
  · -- ife
    intro sc c a b x y z pos ic ia ib X Wx ok tk h
    obtain ⟨h1, h2⟩ := ba2 h
    obtain ⟨h1, h3⟩ := ba2 h1
    obtain ⟨h2, h4⟩ := ba2 h2
    exact ⟨pd_ife ((ic X Wx ok tk h3).2 h1) (ia X Wx ok tk h2).1 (ib X Wx ok tk h4).1, fun z => by cases z⟩
  · -- tup
    intro sc es xs k pos i X Wx ok tk h
    obtain ⟨h1, h2⟩ := ba2 h
    have h1 := of_decide_eq_true h1
    exact ⟨pd_tup (i X Wx ok tk h2).1.1 fun ρ S ds S' e => by rw [es_len e]; exact h1, fun z => by cases z⟩
  · -- idx
    intro sc a i x y pos ia ii X Wx ok tk h
    obtain ⟨h1, h2⟩ := ba2 h
    obtain ⟨h2, h3⟩ := ba2 h2
    have p : PE X (.Subscript x y pos) (rdW κ Wx (vE Φ (.idx a i))) := pd_idx ok h1 (ia X Wx ok tk h2).1 (ii X Wx ok tk h3).1
    exact ⟨p, fun _ => pt_of ok p fun _ => rfl⟩
  · -- slc
    intro sc a lo hi x l u p2 pos ia il iu X Wx ok tk h
    obtain ⟨h1, h2⟩ := ba2 h
    obtain ⟨h2, h3⟩ := ba2 h2
    have p : PE X (.Subscript x (.Slice l u none p2) pos) (rdW κ Wx (vE Φ (.slc a lo hi))) := pd_slc ok (ia X Wx ok tk h1).1 (il X Wx ok tk h2) (iu X Wx ok tk h3)
    exact ⟨p, fun _ => pt_of ok p fun _ => rfl⟩
  · -- rev
    intro sc a x k p1 p2 p3 pos ia X Wx ok tk h
    have h : chkE sc a x = true := h
    have p : PE X (.Subscript x (.Slice none none (some (.UnaryOp .USub (.Constant (.int 1) k p1) p2)) p3) pos) (rdW κ Wx (vE Φ (.rev a))) := pd_rev ok (ia X Wx ok tk h).1
    exact ⟨p, fun _ => pt_of ok p fun _ => rfl⟩
  · -- call
    intro sc f es x p1 xs pos i X Wx ok tk h
    obtain ⟨h1, h2⟩ := ba2 h
    obtain ⟨h2, h3⟩ := ba2 h2
    obtain ⟨h3, h4⟩ := ba2 h3
    have h1 := of_decide_eq_true h1
    have p : PE X (.Call (.Name x p1) xs [] pos) (rdW κ Wx (vE Φ (.call f es))) := by
      have e : vE Φ (.call f es) = fun ρ S => ((evEs Φ ρ es S).bind fun ds S1 => Φ f ds S1).d.w := by
        funext ρ S
        show evW Φ ρ (.call f es) S = _
        rw [evW]
        cases evEs Φ ρ es S <;> rfl
      rw [e]
      exact pd_ofC (pd_callA ok tk h1 h2 (by simpa using h3) h4 (i X Wx ok tk h4).1.1)
    exact ⟨p, fun _ => pt_of ok p fun _ => rfl⟩
  · -- blt
    intro sc b es x p1 xs pos i X Wx ok tk h
    obtain ⟨h1, h2⟩ := ba2 h
    obtain ⟨h1, h5⟩ := ba2 h1
    obtain ⟨h2, h3⟩ := ba2 h2
    obtain ⟨h3, h4⟩ := ba2 h3
    have h1 := of_decide_eq_true h1
    have p : PE X (.Call (.Name x p1) xs [] pos) (rdW κ Wx (vE Φ (.blt b es))) := pd_blt ok h1 (by simpa using h5) h2 (by rintro rfl; cases h3) (stars_of h4) (i X Wx ok tk h4).1.2
    exact ⟨p, fun _ => pt_of ok p fun _ => rfl⟩
  · -- isi
    intro sc a T f p1 x t p2 pos ia X Wx ok tk h
    obtain ⟨ha, hb⟩ := ba2 h
    obtain ⟨hc, hd⟩ := ba2 ha
    obtain ⟨he, h6⟩ := ba2 hd
    obtain ⟨hf, hg⟩ := ba2 hb
    obtain ⟨h2, h7⟩ := ba2 hf
    obtain ⟨h3, h4⟩ := ba2 hg
    have h1 := of_decide_eq_true hc
    have h5 := of_decide_eq_true he
    subst h1 h5
    have p : PE X (.Call (.Name "isinstance" p1) [x, .Name (Str.ofString T) p2] [] pos) (rdW κ Wx (vE Φ (.isi a [T]))) := pd_isi ok (List.contains_iff_mem.mp h6) h2 h7 h3 (ia X Wx ok tk h4).1
    exact ⟨p, fun _ => pt_of ok p fun _ => rfl⟩
  · -- join
    intro sc a b x m apos y pos ia ib X Wx ok tk h
    obtain ⟨h1, h2⟩ := ba2 h
    obtain ⟨h1, h5⟩ := ba2 h1
    obtain ⟨h5, h6⟩ := ba2 h5
    obtain ⟨h2, h3⟩ := ba2 h2
    obtain ⟨h3, h4⟩ := ba2 h3
    have h1 := of_decide_eq_true h1
    subst h1
    have p : PE X (.Call (.Attribute x "join" apos) [y] [] pos) (rdW κ Wx (vE Φ (.join a b))) := pd_join ok h2 (attrBase' h5) h6 (ia X Wx ok tk h3).1 (ib X Wx ok tk h4).1
    exact ⟨p, fun _ => pt_of ok p fun _ => rfl⟩
  · -- upper
    intro sc a x m apos pos ia X Wx ok tk h
    obtain ⟨h1, h2⟩ := ba2 h
    obtain ⟨h1, h5⟩ := ba2 h1
    obtain ⟨h5, h6⟩ := ba2 h5
    have h1 := of_decide_eq_true h1
    subst h1
    have p : PE X (.Call (.Attribute x "upper" apos) [] [] pos) (rdW κ Wx (vE Φ (.mth .upper a []))) := pd_upper ok (attrBase' h5) h6 (ia X Wx ok tk h2).1
    exact ⟨p, fun _ => pt_of ok p fun _ => rfl⟩
  · -- get
    intro sc a b x m apos y pos ia ib X Wx ok tk h
    obtain ⟨h1, h2⟩ := ba2 h
    obtain ⟨h1, h5⟩ := ba2 h1
    obtain ⟨h5, h6⟩ := ba2 h5
    obtain ⟨h2, h3⟩ := ba2 h2
    obtain ⟨h3, h4⟩ := ba2 h3
    have h1 := of_decide_eq_true h1
    subst h1
    have p : PE X (.Call (.Attribute x "get" apos) [y] [] pos) (rdW κ Wx (vE Φ (.mth .get a [b]))) := pd_get1 ok h2 (attrBase' h5) h6 (ia X Wx ok tk h3).1 (ib X Wx ok tk h4).1
    exact ⟨p, fun _ => pt_of ok p fun _ => rfl⟩
  · -- get with a default
    intro sc a b c x m apos y z pos ia ib ic X Wx ok tk h
    obtain ⟨h1, h2⟩ := ba2 h
    obtain ⟨h1, h5⟩ := ba2 h1
    obtain ⟨h5, h6⟩ := ba2 h5
    obtain ⟨h2, h3⟩ := ba2 h2
    obtain ⟨h2, h7⟩ := ba2 h2
    obtain ⟨h3, h4⟩ := ba2 h3
    obtain ⟨h4, h8⟩ := ba2 h4
    have h1 := of_decide_eq_true h1
    subst h1
    have p : PE X (.Call (.Attribute x "get" apos) [y, z] [] pos) (rdW κ Wx (vE Φ (.mth .get a [b, c]))) := pd_get2 ok h2 h7 (attrBase' h5) h6 (ia X Wx ok tk h3).1 (ib X Wx ok tk h4).1 (ic X Wx ok tk h8).1
    exact ⟨p, fun _ => pt_of ok p fun _ => rfl⟩
  · -- frz
    intro sc n x i X Wx ok tk h
    have h : chkN sc n x = true := h
    have p : PE X x (rdW κ Wx (vE Φ (.frz n))) := pe_frz (i X Wx ok tk h)
    exact ⟨p, pt_frm ok h p⟩
  · -- cel
    intro sc n x i X Wx ok tk h
    have h : chkN sc n x = true := h
    have p : PE X x (rdW κ Wx (vE Φ (.cel n))) := pe_cel (i X Wx ok tk h)
    exact ⟨p, pt_frm ok h p⟩
  · intros
    intro X Wx ok tk h
    rw [chkE] at h <;> first | assumption | cases h
  · -- lst
    intro sc es xs pos i X Wx ok tk h
    obtain ⟨h1, h2⟩ := ba2 h
    have h1 := of_decide_eq_true h1
    exact pn_lst (i X Wx ok tk h2).1.1 fun ρ S ds S' e => by rw [es_len e]; exact h1
  · -- dic
    intro sc pos X Wx ok tk h
    exact pn_dic0
  · -- dic with entries
    intro sc es keys vals pos _ ip X Wx ok tk h
    have h : ((decide (keys.length ≤ 15) && !keys.isEmpty) && chkP sc es keys vals) = true := by
      rw [chkN] at h <;> first | exact h | assumption
    obtain ⟨ha, h3⟩ := ba2 h
    obtain ⟨h1, h2⟩ := ba2 ha
    obtain ⟨ps, k1, k2, k3, k4, k5⟩ := ip X Wx ok tk h3
    have e : (fun ρ S => evN Φ ρ (.dic es) S) = fun ρ S => (evP ps ρ S).bind fun ds S1 => match pairUp ds with
      | some kvs => .ok (.dct (mergeK [] kvs)) S1
      | none => .bad := by
      funext ρ S
      rw [evN, k2] <;> rfl
    rw [e]
    exact pn_dic (k1 pos) k4 k5 (by rintro rfl; cases h2) (of_decide_eq_true h1) k3
  · -- cat
    intro sc a b x y pos ia ib X Wx ok tk h
    obtain ⟨h1, h2⟩ := ba2 h
    exact pn_cat (ia X Wx ok tk h1).1 (ib X Wx ok tk h2).1
  · -- rep
    intro sc a b x y pos ia ib X Wx ok tk h
    obtain ⟨h1, h2⟩ := ba2 h
    exact pn_rep (ia X Wx ok tk h1).1 (ib X Wx ok tk h2).1
  · -- slc
    intro sc a lo hi x l u p2 pos ia il iu X Wx ok tk h
    obtain ⟨h1, h2⟩ := ba2 h
    obtain ⟨h2, h3⟩ := ba2 h2
    exact pn_slc ok (ia X Wx ok tk h1).1 (il X Wx ok tk h2) (iu X Wx ok tk h3)
  · -- rev
    intro sc a x k p1 p2 p3 pos ia X Wx ok tk h
    have h : chkE sc a x = true := h
    exact pn_rev ok (ia X Wx ok tk h).1
  · -- list
    intro sc a x p1 y pos ia X Wx ok tk h
    obtain ⟨h1, h2⟩ := ba2 h
    obtain ⟨h2, h3⟩ := ba2 h2
    obtain ⟨h3, h4⟩ := ba2 h3
    have h1 := of_decide_eq_true h1
    subst h1
    exact pn_list ok h2 h3 (ia X Wx ok tk h4).1
  · -- sorted
    intro sc a x p1 y pos ia X Wx ok tk h
    obtain ⟨h1, h2⟩ := ba2 h
    obtain ⟨h2, h3⟩ := ba2 h2
    obtain ⟨h3, h4⟩ := ba2 h3
    have h1 := of_decide_eq_true h1
    subst h1
    exact pn_sorted ok h2 h3 (ia X Wx ok tk h4).1
  · -- call
    intro sc f es x p1 xs pos i X Wx ok tk h
    obtain ⟨h1, h2⟩ := ba2 h
    obtain ⟨h2, h3⟩ := ba2 h2
    obtain ⟨h3, h4⟩ := ba2 h3
    have h1 := of_decide_eq_true h1
    have e : (fun ρ S => evN Φ ρ (.call f es) S) = fun ρ S => ((evEs Φ ρ es S).bind fun ds S1 => Φ f ds S1).bind wC := by
      funext ρ S
      rw [evN]
      cases evEs Φ ρ es S <;> rfl
    rw [e]
    exact pn_ofC (pd_callA ok tk h1 h2 (by simpa using h3) h4 (i X Wx ok tk h4).1.1)
  · intros
    intro X Wx ok tk h
    simp_all [chkN]
  · intros
    intro X Wx ok tk h
    simp_all [chkN]
  · -- comp
    intro sc tg k src cond elt e t it ifs scope pos tp ts e1 own e2 isrc ic ie X Wx ok tk h
    have h : (((tp == decide (tg.length ≠ 1)) && (notSet it && tgI k t)) && (blkC sc.N sc.scope scope own && (tgB (sc.blk scope) own && (chkI sc k src it && (chkB (sc.blk scope) cond ifs && (decide (cond.length ≤ 1) && chkE (sc.blk scope) elt e)))))) = true := by
      rw [chkN, e1] at h
      simp only [e2] at h
      exact h
    obtain ⟨ha, hb⟩ := ba2 h
    obtain ⟨h1, h2⟩ := ba2 ha
    obtain ⟨h3, hc⟩ := ba2 hb
    obtain ⟨h4, hd⟩ := ba2 hc
    obtain ⟨h5, he⟩ := ba2 hd
    obtain ⟨h6, hf⟩ := ba2 he
    obtain ⟨h7, h8⟩ := ba2 hf
    have h1 : tp = decide (tg.length ≠ 1) := eq_of_beq h1
    have h7 := of_decide_eq_true h7
    have bk := fun s H C cl fp => ok.blk h3 s H C cl fp
    have tz : ∀ (s : Shared) (H : Hp) (C : Addr) (cl : List (Str × Addr)) (fp : List Addr), Takes (X.blk s H scope (compEnvC scope cl C X.env) fp) WF := fun s H C cl fp u s' ⟨_, _, _, _, _, _, _, _, _, _, _, _, _, _, _, _, w⟩ => w.elim
    have kk := own_pgs (bk X.s_0 X.H_0 0 [] []) e2 h4
    have base := pn_comp (Wx := Wx) (pos := pos) (mcond := fun ρ S => evC Φ ρ cond S) (melt := vE Φ elt) ok (isrc X Wx ok tk h5 t (ba2 h2).2) (ok.blkB h3) kk.1 kk.2.1
      (fun s H C cl fp => own_pg (bk s H C cl fp) e1 e2 h4 h1)
      (fun s H C cl fp => (ic _ WF (bk s H C cl fp) (tz s H C cl fp) h6).2.1 h7)
      (fun s H C cl fp => (ie _ WF (bk s H C cl fp) (tz s H C cl fp) h8).1) (notSet_ok (ba2 h2).1)
    refine PE.imp base fun σ H Q ⟨as, H0, ρ, S, rs, hS, w⟩ => ⟨as, H0, ρ, S, rs, hS, ?_⟩
    have w : Out (evN Φ ρ (.comp tg k src cond elt) S) (kN κ as H Q) (kX κ as H σ Wx) := w
    rw [evN] at w
    exact w
  · intros
    intro X Wx ok tk h
    rw [chkN] at h <;> first | assumption | cases h
  · -- no part
    intro sc X Wx ok tk h
    refine ⟨fun _ _ z => absurd rfl z, fun _ => ⟨fun pins s σ H Q I ⟨as, H0, ρ, S, rs, hS, w⟩ => ?_⟩, rfl⟩
    refine pts_nil.run pins s σ H Q I ?_
    have w2 : Out (R.ok true S) (kT κ as H Q) (kX κ as H σ Wx) := by
      have e : evC Φ ρ [] S = .ok true S := by rw [evC]
      rw [← e]
      exact w
    exact w2 as H Step.refl hS
  · -- parts
    intro sc a as x xs ia ir X Wx ok tk h
    obtain ⟨h1, hb⟩ := ba2 h
    obtain ⟨h2, h3⟩ := ba2 hb
    obtain ⟨p, q⟩ := ia X Wx ok tk h2
    have q := q h1
    obtain ⟨k1, k2, k3⟩ := ir X Wx ok tk h3
    refine ⟨fun isAnd pos _ => ?_, fun hl => ?_, by rw [List.length_cons, List.length_cons, k3]⟩
    · cases as with
      | nil =>
        cases xs with
        | nil => exact ⟨pb_one p, pw_one q⟩
        | cons _ _ => cases k3
      | cons b as =>
        cases xs with
        | nil => cases k3
        | cons y xs =>
          obtain ⟨r1, r2⟩ := k1 isAnd pos (by simp)
          exact ⟨pb_more ok p r1, pw_more q r2⟩
    · cases as with
      | nil =>
        cases xs with
        | nil =>
          have e : (fun ρ S => evC Φ ρ [a] S) = fun ρ S => (evW Φ ρ a S).t := by funext ρ S; rw [evC]
          rw [e]
          exact ⟨fun pins s σ H Q I z => (pts_one q).run pins s σ H Q I z⟩
        | cons _ _ => cases k3
      | cons b as => simp at hl
  · intros
    intro X Wx ok tk h
    rw [chkB] at h <;> first | assumption | cases h
  · -- seq
    intro sc a e ia X Wx ok tk h tg ht
    have h : chkE sc a e = true := h
    rw [evWs_one]
    exact pi_seq ok (ia X Wx ok tk h).1
  · -- range
    intro sc a x p y pos ia X Wx ok tk h tg ht
    obtain ⟨h1, hb⟩ := ba2 h
    obtain ⟨h2, hc⟩ := ba2 hb
    obtain ⟨h3, h4⟩ := ba2 hc
    have h1 := of_decide_eq_true h1
    subst h1
    have r : PA X [y] (rdWs κ Wx fun ρ S => evWs Φ ρ [a] S) := by rw [evWs_one]; exact ws_cons h3 (ia X Wx ok tk h4).1 ws_nil
    exact pi_rng1 ok h2 h3 r fun ρ S ws S' z => ws_len z
  · -- enumerate
    intro sc a x p y pos ia X Wx ok tk h tg ht
    obtain ⟨h1, hb⟩ := ba2 h
    obtain ⟨h2, hc⟩ := ba2 hb
    obtain ⟨h3, h4⟩ := ba2 hc
    have h1 := of_decide_eq_true h1
    subst h1
    have r : PA X [y] (rdWs κ Wx fun ρ S => evWs Φ ρ [a] S) := by rw [evWs_one]; exact ws_cons h3 (ia X Wx ok tk h4).1 ws_nil
    cases tg with
    | Tuple els kk tpos => exact pi_enumE ok h2 h3 r fun ρ S ws S' z => ws_len z
    | _ => cases ht
  · intros
    intro X Wx ok tk h
    revert h
    simp_all [chkI]
  · -- range of two
    intro sc a b x p y z pos ia ib X Wx ok tk h tg ht
    obtain ⟨h1, hb⟩ := ba2 h
    obtain ⟨h2, hc⟩ := ba2 hb
    obtain ⟨hd, he⟩ := ba2 hc
    obtain ⟨h3, h4⟩ := ba2 hd
    obtain ⟨h5, h6⟩ := ba2 he
    have h1 := of_decide_eq_true h1
    subst h1
    have r1 : PA X [z] (rdWs κ Wx fun ρ S => evWs Φ ρ [b] S) := by rw [evWs_one]; exact ws_cons h4 (ib X Wx ok tk h6).1 ws_nil
    have r : PA X [y, z] (rdWs κ Wx fun ρ S => evWs Φ ρ [a, b] S) := by rw [evWs_cons]; exact ws_cons h3 (ia X Wx ok tk h5).1 r1
    exact pi_rng2 ok h2 h3 h4 r fun ρ S ws S' z => ws_len z
  · -- zip
    intro sc a b x p y z pos ia ib X Wx ok tk h tg ht
    obtain ⟨h1, hb⟩ := ba2 h
    obtain ⟨h2, hc⟩ := ba2 hb
    obtain ⟨hd, he⟩ := ba2 hc
    obtain ⟨h3, h4⟩ := ba2 hd
    obtain ⟨h5, h6⟩ := ba2 he
    have h1 := of_decide_eq_true h1
    subst h1
    have r1 : PA X [z] (rdWs κ Wx fun ρ S => evWs Φ ρ [b] S) := by rw [evWs_one]; exact ws_cons h4 (ib X Wx ok tk h6).1 ws_nil
    have r : PA X [y, z] (rdWs κ Wx fun ρ S => evWs Φ ρ [a, b] S) := by rw [evWs_cons]; exact ws_cons h3 (ia X Wx ok tk h5).1 r1
    cases tg with
    | Tuple els kk tpos => exact pi_zip ok h2 h3 h4 r fun ρ S ws S' z => ws_len z
    | _ => cases ht
  · intros
    intro X Wx ok tk h
    revert h
    simp_all [chkI]
  · intros
    intro X Wx ok tk h
    rw [chkI] at h <;> first | assumption | cases h
  · -- none
    intro sc X Wx ok tk h
    have e : (fun (ρ : Env) S => (evEs Φ ρ [] S).bind fun l S2 => R.of S2 (partD l)) = fun _ S => (R.ok (α := List D) [] S).bind fun l S2 => R.of S2 (partD l) := by funext ρ S; rw [evEs]
    rw [e]
    exact po_non
  · -- one
    intro sc a x ia X Wx ok tk h
    have h : chkE sc a x = true := h
    have e : (fun (ρ : Env) S => (evEs Φ ρ [a] S).bind fun l S2 => R.of S2 (partD l)) = fun ρ S => ((evW Φ ρ a S).d.bind fun d S1 => (R.ok (α := List D) [] S1).bind fun ds S2 => .ok (d :: ds) S2).bind fun l S2 => R.of S2 (partD l) := by
      funext ρ S
      rw [congrFun (congrFun evEs_one ρ) S]
    rw [e]
    exact po_one (ia X Wx ok tk h).1
  · intros
    intro X Wx ok tk h
    rw [chkO] at h <;> first | assumption | cases h
  · -- no pair
    intro sc X Wx ok tk h
    exact ⟨[], fun pos => pps_nil, fun ρ S => by rw [evEs]; rfl, rfl, rfl, rfl⟩
  · -- pairs
    intro sc a b es k ks v vs ia ib ir X Wx ok tk h
    obtain ⟨h1, hb⟩ := ba2 h
    obtain ⟨h2, h3⟩ := ba2 hb
    obtain ⟨ps, k1, k2, k3, k4, k5⟩ := ir X Wx ok tk h3
    refine ⟨(vE Φ a, vE Φ b) :: ps, fun pos => pps_cons (ia X Wx ok tk h1).1 (ib X Wx ok tk h2).1 (k1 pos), fun ρ S => ?_, by rw [List.length_cons, List.length_cons, k3], by rw [List.all_cons, k4]; rfl, by rw [List.length_cons, List.length_cons, k5]⟩
    rw [evEs]
    show (evW Φ ρ a S).d.bind _ = (evW Φ ρ a S).d.bind _
    congr 1
    funext d S1
    congr 1
    rw [evEs]
    show (evW Φ ρ b S1).d.bind _ = (evW Φ ρ b S1).d.bind _
    congr 1
    funext d2 S2
    rw [k2]
  · intros
    intro X Wx ok tk h
    rw [chkP] at h <;> first | assumption | cases h
  · -- no argument
    intro sc X Wx ok tk h
    rw [evEs_nil, evWs_nil]
    exact ⟨⟨es_nil, ws_nil⟩, rfl⟩
  · -- arguments
    intro sc a as x xs ia ir X Wx ok tk h
    obtain ⟨h1, hb⟩ := ba2 h
    obtain ⟨h2, h3⟩ := ba2 hb
    obtain ⟨⟨r1, r2⟩, r3⟩ := ir X Wx ok tk h3
    have p := (ia X Wx ok tk h2).1
    rw [evEs_cons, evWs_cons]
    exact ⟨⟨es_cons h1 p r1, ws_cons h1 p r2⟩, by rw [List.length_cons, List.length_cons, r3]⟩
  · intros
    intro X Wx ok tk h
    rw [chkEs] at h <;> first | assumption | cases h
end
end Ev
set_option maxHeartbeats 4000000
/-! Ev, part 20: statements beside the text. -/
namespace Ev
open PySem PySem.Spec PyProof.Rows L2
/-- is a comprehension's list told to its name at once -/
def swB (sc : SC) (x : Str) (p : Pos) : Expr → Bool
  | .ListComp _ _ s lp => (sc.nm.lookup x == some .local && p.line == lp.line) && !(s.names.any fun (n, k) => n == x && (k == .local || k == .cell))
  | _ => false
def isDSComp : Expr → Bool
  | .SetComp _ _ _ _ => true
  | .DictComp _ _ _ _ _ => true
  | _ => false
section
variable {X : Cx} {sc : SC} {κ : Kx} {Φ : Fn} {Wx : L2.WX} {n : Nat} {pos : Pos}
theorem swB_ok (ok : CxOk X sc κ Φ) {x : Str} {p : Pos} {v : Expr} {l : Nat} (h : isDSComp v = false) : swapsWith v (some (.Name x p)) l X.env = pure (swB sc x p v) := by
  cases v with
  | ListComp e gs s lp =>
    have hb : (X.env.blockKind == ScopeKind.function) = true := by
      unfold Env.blockKind
      rw [ok.kind]
      rfl
    have hk : X.env.kindOf x = sc.nm.lookup x := by unfold Env.kindOf; rw [ok.nm]
    unfold swapsWith
    simp only [hb, hk, Expr.pos, swB, Bool.true_and]
  | SetComp _ _ _ _ => cases h
  | DictComp _ _ _ _ _ => cases h
  | _ => rfl
theorem chkN_DS {nw : Nw} {v : Expr} (h : chkN sc nw v = true) : isDSComp v = false := by
  cases v with
  | SetComp _ _ _ _ => cases nw with
    | dic es => cases es <;> cases h
    | _ => cases h
  | DictComp _ _ _ _ _ => cases nw with
    | dic es => cases es <;> cases h
    | _ => cases h
  | _ => rfl
theorem ps_ownN (ok : CxOk X sc κ Φ) (tk : Takes X Wx) {i : Nat} {x : Str} {p : Pos} {nw : Nw} {v : Expr} (hn : X.N.length = n) (hi : sc.N[i]? = some x) (hx : locB sc x = true) (h : chkN sc nw v = true) :
    PS X (.Assign [.Name x p] v pos) (rdS κ Wx n fun ρ S => (evN Φ ρ nw S).lift ρ fun c S1 => .ok (.nx (ρ.put i (.own c))) S1) := by
  have sw := swB_ok (p := p) (x := x) (l := pos.line) ok (chkN_DS h)
  have hN := (chk_all κ Φ).1.2 sc nw v X Wx ok tk h
  cases q : swB sc x p v with
  | false =>
    rw [q] at sw
    exact ps_own ok hi hx hN sw
  | true =>
    rw [q] at sw
    cases v with
    | ListComp e gs scope lp =>
      have q' : ((sc.nm.lookup x == some .local && p.line == lp.line) && !(scope.names.any fun (n, k) => n == x && (k == .local || k == .cell))) = true := q
      obtain ⟨qa, _⟩ := ba2 q'
      obtain ⟨qa, _⟩ := ba2 qa
      have hl : sc.nm.lookup x = some .local := by simpa using qa
      cases nw with
      | comp tg k src cond elt =>
        have key : ∀ (t it : Expr) (ifs : List Expr), gs = [⟨t, it, ifs, 0⟩] → PS X (.Assign [.Name x p] (.ListComp e gs scope lp) pos) (rdS κ Wx n fun ρ S => (evN Φ ρ (.comp tg k src cond elt) S).lift ρ fun c S1 => .ok (.nx (ρ.put i (.own c))) S1) := by
          intro t it ifs eg
          subst eg
          cases e1 : tgOf t with
          | none => rw [chkN] at h; simp only [e1] at h; cases h
          | some tts =>
            obtain ⟨tp, ts⟩ := tts
            cases e2 : ownOf tg ts with
            | none => rw [chkN] at h; simp only [e1, e2] at h; cases h
            | some own =>
              have h : (((tp == decide (tg.length ≠ 1)) && (notSet it && tgI k t)) && (blkC sc.N sc.scope scope own && (tgB (sc.blk scope) own && (chkI sc k src it && (chkB (sc.blk scope) cond ifs && (decide (cond.length ≤ 1) && chkE (sc.blk scope) elt e)))))) = true := by
                rw [chkN] at h
                simp only [e1, e2] at h
                exact h
              obtain ⟨ha, hb⟩ := ba2 h
              obtain ⟨h1, h2⟩ := ba2 ha
              obtain ⟨h3, hc⟩ := ba2 hb
              obtain ⟨h4, hd⟩ := ba2 hc
              obtain ⟨h5, he⟩ := ba2 hd
              obtain ⟨h6, hf⟩ := ba2 he
              obtain ⟨h7, h8⟩ := ba2 hf
              have h1 : tp = decide (tg.length ≠ 1) := eq_of_beq h1
              have h7 := of_decide_eq_true h7
              have bk := fun s H C cl fp => ok.blk h3 s H C cl fp
              have tz : ∀ (s : Shared) (H : Hp) (C : Addr) (cl : List (Str × Addr)) (fp : List Addr), Takes (X.blk s H scope (compEnvC scope cl C X.env) fp) WF := fun s H C cl fp u s' ⟨_, _, _, _, _, _, _, _, _, _, _, _, _, _, _, _, w⟩ => w.elim
              have kk := own_pgs (bk X.s_0 X.H_0 0 [] []) e2 h4
              have al := chk_all κ Φ
              have base := ps_setLc (i := i) (spos := pos) (pos := lp) (py := p) (te := rdW κ WF (vE Φ elt)) (tt := rdT κ WF fun ρ S => evC Φ ρ cond S) (wi := rdI κ Wx k fun ρ S => evWs Φ ρ src S) (g := gT κ.K tg) ok.calm ok.nd (by rw [ok.N]; exact hi) (by rw [ok.nm]; exact hl) sw (al.2.1.2 sc k src it X Wx ok tk h5 t (ba2 h2).2) (ok.blkB h3)
                (fun s H C cl fp => own_pg (bk s H C cl fp) e1 e2 h4 h1)
                (fun s H C cl fp => (al.2.1.1 _ _ _ _ WF (bk s H C cl fp) (tz s H C cl fp) h6).2.1 h7)
                (fun s H C cl fp => (al.1.1 _ _ _ _ WF (bk s H C cl fp) (tz s H C cl fp) h8).1) (notSet_ok (ba2 h2).1)
              refine ⟨fun pins s σ H D I ⟨as0, H0, as, ρ, S, st0, rs, hS, hl', w⟩ => base.run pins s σ H D I ?_⟩
              have hlt : i < σ.length := by
                rw [I.len, ok.N]
                exact (List.getElem?_eq_some_iff.mp hi).1
              refine lc_rd I.len kk.1 kk.2.1 ?_
              have z := own_step (mn := fun ρ S => evN Φ ρ (.comp tg k src cond elt) S) st0 rs hS hl' hlt w
              obtain ⟨as, H0, ρ, S, rs, hS, w⟩ := z
              refine ⟨as, H0, ρ, S, rs, hS, ?_⟩
              have w : Out (evN Φ ρ (.comp tg k src cond elt) S) _ _ := w
              rw [evN] at w
              exact w
        cases gs with
        | nil => cases h
        | cons c r => cases c with
            | mk t it ifs a => cases a with
              | negSucc m => cases r <;> cases h
              | ofNat m => cases m with
                | zero => cases r with
                  | nil => exact key t it ifs rfl
                  | cons _ _ => cases h
                | succ m => cases r <;> cases h
      | dic es => cases es <;> cases h
      | _ => cases h
    | _ => cases q
end
end Ev
set_option maxHeartbeats 4000000
/-! Ev, part 20b: a, b = x, y. -/
namespace Ev
open PySem PySem.Spec PyProof.Rows L2
/-- a value that is stored from the left -/
def unpV : Expr → Bool
  | .Tuple vs _ _ => vs.all (foldedForSure 8)
  | v => !isTupT v
theorem swN {es : List Expr} {k : Nat} {tp : Pos} {v : Expr} {env : PySem.Env} (h : unpV v = true) : swappedStores [.Tuple es k tp] v env = pure none := by
  cases v with
  | Tuple vs a p =>
    have h : vs.all (foldedForSure 8) = true := h
    unfold swappedStores
    simp only [h, if_true]
    (repeat' split) <;> rfl
  | List _ _ => cases h
  | _ => rfl
/-- a name among these that is not the function's alone -/
def cellT (sc : SC) (es : List Expr) : Bool := es.any fun e => match e with
  | .Name x _ => !(sc.nm.lookup x == some .local)
  | _ => true
def isTupE : Expr → Bool
  | .Tuple _ _ _ => true
  | _ => false
def unpC (sc : SC) (es : List Expr) (v : Expr) : Bool := unpV v || (isTupE v && cellT sc es)
theorem fm_lt {α β : Type} {f : α → Option β} : ∀ {l : List α}, (∃ a ∈ l, f a = none) → (l.filterMap f).length < l.length
  | [], ⟨_, h, _⟩ => by cases h
  | a :: l, ⟨b, hb, e⟩ => by
    rcases List.mem_cons.mp hb with rfl | hb
    · rw [List.filterMap_cons, e]
      exact Nat.lt_succ_of_le (List.length_filterMap_le f l)
    · have ih := fm_lt ⟨b, hb, e⟩
      rw [List.filterMap_cons]
      cases f a with
      | none => exact Nat.lt_succ_of_lt ih
      | some c => exact Nat.succ_lt_succ ih
theorem swC {X : Cx} {sc : SC} {κ : Kx} {Φ : Fn} (ok : CxOk X sc κ Φ) {es : List Expr} {k : Nat} {tp : Pos} {v : Expr} (h : unpC sc es v = true) : swappedStores [.Tuple es k tp] v X.env = pure none := by
  unfold unpC at h
  cases q : unpV v with
  | true => exact swN q
  | false =>
    rw [q, Bool.false_or] at h
    obtain ⟨h1, h2⟩ := ba2 h
    cases v with
    | Tuple vs a p =>
      have hk : ∀ z, X.env.kindOf z = sc.nm.lookup z := fun z => by unfold Env.kindOf; rw [ok.nm]
      unfold swappedStores
      simp only [hk]
      split
      · rfl
      · split
        · rfl
        · rw [if_pos]
          rw [Bool.or_eq_true]
          refine .inl (bne_iff_ne.mpr (Nat.ne_of_lt (fm_lt ?_)))
          obtain ⟨e, he, e2⟩ := List.any_eq_true.mp h2
          refine ⟨e, he, ?_⟩
          cases e with
          | Name x px =>
            have e3 : (sc.nm.lookup x == some NameKind.local) = false := by simpa using e2
            simp only [e3, Bool.false_and]
            rfl
          | _ => rfl
    | _ => cases h1
def parB (sc : SC) (ts : List (Str × Pos)) (vs : List Expr) : Bool :=
  (ts.all (fun t => sc.nm.lookup t.1 == some .local && t.2.line == (ts.head?.map (·.2.line)).getD 0) && vs.all nostar) && (!vs.all (foldedForSure 8) && !vs.all (constantsAlone 8))
section
variable {X : Cx} {sc : SC} {κ : Kx} {Φ : Fn} {Wx : L2.WX} {n : Nat} {pos : Pos}
theorem any_ns {vs : List Expr} {f : Expr → Bool} (h : vs.all nostar = true) (hf : ∀ e, nostar e = true → f e = false) : vs.any f = false := by
  rw [List.any_eq_false]
  intro e he
  rw [hf e (List.all_eq_true.mp h e he)]
  decide
theorem notT {b : Bool} (h : (!b) = true) : b = false := by
  cases b
  · rfl
  · cases h
theorem sw2 (ok : CxOk X sc κ Φ) {x y : Str} {px py pt pt2 : Pos} {kt k2 : Nat} {a b : Expr} (h : parB sc [(x, px), (y, py)] [a, b] = true) (ne : x ≠ y) :
    swappedStores [.Tuple [.Name x px, .Name y py] kt pt] (.Tuple [a, b] k2 pt2) X.env = pure (some [x, y]) := by
  obtain ⟨hA, hB⟩ := ba2 h
  obtain ⟨h1, h2⟩ := ba2 hA
  obtain ⟨h3, h4⟩ := ba2 hB
  have q1 := List.all_eq_true.mp h1 (x, px) (by simp)
  have q2 := List.all_eq_true.mp h1 (y, py) (by simp)
  obtain ⟨l1, p1⟩ := ba2 q1
  obtain ⟨l2, p2⟩ := ba2 q2
  have hb : X.env.blockKind = ScopeKind.function := by
    unfold Env.blockKind
    rw [ok.kind]
    rfl
  have hk : ∀ z, X.env.kindOf z = sc.nm.lookup z := fun z => by unfold Env.kindOf; rw [ok.nm]
  have h3 : [a, b].all (foldedForSure 8) = false := notT h3
  have h4 : [a, b].all (constantsAlone 8) = false := notT h4
  have e1 : (X.env.kindOf x == some .local && px.line == px.line) = true := by rw [hk]; simp only [l1, Bool.true_and]; exact p1
  have e2 : (X.env.kindOf y == some .local && py.line == px.line) = true := by rw [hk]; simp only [l2, Bool.true_and]; exact p2
  have ed : ([x, y].eraseDups).length = 2 := by
    have : (y == x) = false := by simpa using Ne.symm ne
    simp [List.eraseDups_cons, this]
  unfold swappedStores
  simp only [hb, h3, h4, List.head?_cons, Option.map_some, Option.getD_some, Expr.pos, List.filterMap_cons, List.filterMap_nil, e1, e2, if_true, ed]
  refine (if_neg Bool.false_ne_true).trans ((if_neg ?_).trans rfl)
  rw [any_ns h2 (fun e he => by cases e <;> first | rfl | cases he)]
  decide
theorem ps_par2 (ok : CxOk X sc κ Φ) {i j : Nat} {x y : Str} {px py pt pt2 : Pos} {kt k2 : Nat} {a b : Expr} {ms : Env → Sto → R (List D)} (hn : X.N.length = n) (hi : sc.N[i]? = some x) (hj : sc.N[j]? = some y) (h : parB sc [(x, px), (y, py)] [a, b] = true) (ne : x ≠ y) (ha : PA X [a, b] (rdDs κ Wx ms)) :
    PS X (.Assign [.Tuple [.Name x px, .Name y py] kt pt] (.Tuple [a, b] k2 pt2) pos) (rdS κ Wx n fun ρ S => (ms ρ S).lift ρ fun ds S1 => match setAll [i, j] ds ρ with
      | some ρ' => .ok (.nx ρ') S1
      | none => .bad) := by
  obtain ⟨hA, _⟩ := ba2 h
  obtain ⟨h1, h2⟩ := ba2 hA
  have q1 := List.all_eq_true.mp h1 (x, px) (by simp)
  have q2 := List.all_eq_true.mp h1 (y, py) (by simp)
  obtain ⟨l1, _⟩ := ba2 q1
  obtain ⟨l2, _⟩ := ba2 q2
  have hij : i ≠ j := fun z => by
    rw [z, hj] at hi
    exact ne (Option.some.inj hi).symm
  refine PS.imp (ps_par ok.calm ok.nd (by rw [ok.N]; exact hi) (by rw [ok.N]; exact hj) hij (by rw [ok.nm]; simpa using l1) (by rw [ok.nm]; simpa using l2) ha (sw2 ok h ne) rfl) fun D σ H ⟨as0, H0, as, ρ, S, st0, rs, hS, hl, w⟩ => ?_
  have li : i < n := by rw [← hn, ok.N]; exact (List.getElem?_eq_some_iff.mp hi).1
  have lj : j < n := by rw [← hn, ok.N]; exact (List.getElem?_eq_some_iff.mp hj).1
  refine rdDs.mk rs hS (lift_out st0 rs hl w) fun ds S1 as1 H1 vs w1 st1 r1 hS1 => ?_
  match ds, vs, r1, w1 with
  | [d, e], [u, v], r1, w1 =>
    refine ⟨u, v, rfl, w1 as1 H1 _ (st0.trans st1) st1.imm st1.pr hS1 (by rw [List.length_set, List.length_set]; exact hl) ?_⟩
    exact ((rs.step st1).set (by rw [hl]; exact li) r1.1).set (by rw [List.length_set, hl]; exact lj) r1.2.1
  | [], _, _, w1 => exact w1.elim
  | [d], _, _, w1 => exact w1.elim
  | _ :: _ :: _ :: _, _, _, w1 => exact w1.elim
theorem sw3 (ok : CxOk X sc κ Φ) {x y z : Str} {px py pz pt pt2 : Pos} {kt k2 : Nat} {a b c : Expr} (h : parB sc [(x, px), (y, py), (z, pz)] [a, b, c] = true) (ne : x ≠ y) (ne2 : x ≠ z) (ne3 : y ≠ z) :
    swappedStores [.Tuple [.Name x px, .Name y py, .Name z pz] kt pt] (.Tuple [a, b, c] k2 pt2) X.env = pure (some [x, y, z]) := by
  obtain ⟨hA, hB⟩ := ba2 h
  obtain ⟨h1, h2⟩ := ba2 hA
  obtain ⟨h3, h4⟩ := ba2 hB
  have q1 := List.all_eq_true.mp h1 (x, px) (by simp)
  have q2 := List.all_eq_true.mp h1 (y, py) (by simp)
  have q3 := List.all_eq_true.mp h1 (z, pz) (by simp)
  obtain ⟨l1, p1⟩ := ba2 q1
  obtain ⟨l2, p2⟩ := ba2 q2
  obtain ⟨l3, p3⟩ := ba2 q3
  have hb : X.env.blockKind = ScopeKind.function := by
    unfold Env.blockKind
    rw [ok.kind]
    rfl
  have hk : ∀ z, X.env.kindOf z = sc.nm.lookup z := fun z => by unfold Env.kindOf; rw [ok.nm]
  have h3 : [a, b, c].all (foldedForSure 8) = false := notT h3
  have h4 : [a, b, c].all (constantsAlone 8) = false := notT h4
  have e1 : (X.env.kindOf x == some .local && px.line == px.line) = true := by rw [hk]; simp only [l1, Bool.true_and]; exact p1
  have e2 : (X.env.kindOf y == some .local && py.line == px.line) = true := by rw [hk]; simp only [l2, Bool.true_and]; exact p2
  have e3 : (X.env.kindOf z == some .local && pz.line == px.line) = true := by rw [hk]; simp only [l3, Bool.true_and]; exact p3
  have ed : ([x, y, z].eraseDups).length = 3 := by
    have n1 : (y == x) = false := by simpa using Ne.symm ne
    have n2 : (z == x) = false := by simpa using Ne.symm ne2
    have n3 : (z == y) = false := by simpa using Ne.symm ne3
    simp [List.eraseDups_cons, n1, n2, n3]
  unfold swappedStores
  simp only [hb, h3, h4, List.head?_cons, Option.map_some, Option.getD_some, Expr.pos, List.filterMap_cons, List.filterMap_nil, e1, e2, e3, if_true, ed]
  refine (if_neg Bool.false_ne_true).trans ((if_neg ?_).trans rfl)
  rw [any_ns h2 (fun e he => by cases e <;> first | rfl | cases he)]
  decide
theorem ps_par3' (ok : CxOk X sc κ Φ) {i j l : Nat} {x y z : Str} {px py pz pt pt2 : Pos} {kt k2 : Nat} {a b c : Expr} {ms : Env → Sto → R (List D)} (hn : X.N.length = n) (hi : sc.N[i]? = some x) (hj : sc.N[j]? = some y) (hz : sc.N[l]? = some z) (h : parB sc [(x, px), (y, py), (z, pz)] [a, b, c] = true) (ne : x ≠ y) (ne2 : x ≠ z) (ne3 : y ≠ z) (ha : PA X [a, b, c] (rdDs κ Wx ms)) :
    PS X (.Assign [.Tuple [.Name x px, .Name y py, .Name z pz] kt pt] (.Tuple [a, b, c] k2 pt2) pos) (rdS κ Wx n fun ρ S => (ms ρ S).lift ρ fun ds S1 => match setAll [i, j, l] ds ρ with
      | some ρ' => .ok (.nx ρ') S1
      | none => .bad) := by
  obtain ⟨hA, _⟩ := ba2 h
  obtain ⟨h1, h2⟩ := ba2 hA
  obtain ⟨l1, _⟩ := ba2 (List.all_eq_true.mp h1 (x, px) (by simp))
  obtain ⟨l2, _⟩ := ba2 (List.all_eq_true.mp h1 (y, py) (by simp))
  obtain ⟨l3, _⟩ := ba2 (List.all_eq_true.mp h1 (z, pz) (by simp))
  have hij : i ≠ j := fun q => by
    rw [q, hj] at hi
    exact ne (Option.some.inj hi).symm
  have hil : i ≠ l := fun q => by
    rw [q, hz] at hi
    exact ne2 (Option.some.inj hi).symm
  have hjl : j ≠ l := fun q => by
    rw [q, hz] at hj
    exact ne3 (Option.some.inj hj).symm
  refine PS.imp (ps_par3 ok.calm ok.nd (by rw [ok.N]; exact hi) (by rw [ok.N]; exact hj) (by rw [ok.N]; exact hz) hij hil hjl (by rw [ok.nm]; simpa using l1) (by rw [ok.nm]; simpa using l2) (by rw [ok.nm]; simpa using l3) ha (sw3 ok h ne ne2 ne3) rfl) fun D σ H ⟨as0, H0, as, ρ, S, st0, rs, hS, hl, w⟩ => ?_
  have li : i < n := by rw [← hn, ok.N]; exact (List.getElem?_eq_some_iff.mp hi).1
  have lj : j < n := by rw [← hn, ok.N]; exact (List.getElem?_eq_some_iff.mp hj).1
  have lz : l < n := by rw [← hn, ok.N]; exact (List.getElem?_eq_some_iff.mp hz).1
  refine rdDs.mk rs hS (lift_out st0 rs hl w) fun ds S1 as1 H1 vs w1 st1 r1 hS1 => ?_
  match ds, vs, r1, w1 with
  | [d, e, f], [u, v, t], r1, w1 =>
    refine ⟨u, v, t, rfl, w1 as1 H1 _ (st0.trans st1) st1.imm st1.pr hS1 (by rw [List.length_set, List.length_set, List.length_set]; exact hl) ?_⟩
    exact (((rs.step st1).set (by rw [hl]; exact li) r1.1).set (by rw [List.length_set, hl]; exact lj) r1.2.1).set (by rw [List.length_set, List.length_set, hl]; exact lz) r1.2.2.1
  | [], _, _, w1 => exact w1.elim
  | [d], _, _, w1 => exact w1.elim
  | [d, e], _, _, w1 => exact w1.elim
  | _ :: _ :: _ :: _ :: _, _, _, w1 => exact w1.elim
end
end Ev
set_option maxHeartbeats 4000000
/-! Ev, part 21: statements beside the text. -/
namespace Ev
open PySem PySem.Spec PyProof.Rows L2
def chkT (sc : SC) (c : Ex) (x : Expr) : Bool := tstE x && chkE sc c x
def nmB (sc : SC) (i : Nat) (x : Str) : Bool := decide (sc.N[i]? = some x) && (visB sc x && !odd x)
/-- a target -/
def chkG (sc : SC) : Tg → Expr → Bool
  | .nm i, .Name x _ => decide (sc.N[i]? = some x) && locB sc x
  | .sub o i, .Subscript x y _ => plainIx y && (chkE sc o x && chkE sc i y)
  | .osub j i, .Subscript (.Name x _) y _ => plainIx y && (nmB sc j x && chkE sc i y)
  | _, _ => false
def chkGs (sc : SC) : List Tg → List Expr → Bool
  | [], [] => true
  | t :: ts, e :: es => chkG sc t e && chkGs sc ts es
  | _, _ => false
mutual
def chkS (sc : SC) : St → Stmt → Bool
  | .asg t e, .Assign [tg] v _ => (!isComp v && !isTupT tg) && (chkG sc t tg && chkE sc e v)
  | .unp ts e, .Assign [.Tuple es _ _] v _ => (!isComp v && unpC sc es v) && (chkGs sc ts es && chkE sc e v)
  | .par [i, j] [e, f], .Assign [.Tuple [.Name x px, .Name y py] _ _] (.Tuple [a, b] _ _) _ => ((decide (sc.N[i]? = some x) && decide (sc.N[j]? = some y)) && decide (x ≠ y)) && (parB sc [(x, px), (y, py)] [a, b] && chkEs sc [e, f] [a, b])
  | .par [i, j, l] [e, f, g], .Assign [.Tuple [.Name x px, .Name y py, .Name z pz] _ _] (.Tuple [a, b, c] _ _) _ => (((decide (sc.N[i]? = some x) && decide (sc.N[j]? = some y)) && decide (sc.N[l]? = some z)) && ((decide (x ≠ y) && decide (x ≠ z)) && decide (y ≠ z))) && (parB sc [(x, px), (y, py), (z, pz)] [a, b, c] && chkEs sc [e, f, g] [a, b, c])
  | .own i nw, .Assign [.Name x _] v _ => (decide (sc.N[i]? = some x) && locB sc x) && chkN sc nw v
  | .omut i .append [e], .Expr (.Call (.Attribute (.Name x _) m apos) [y] [] cpos) _ => (nmB sc i x && decide (m = Str.ofString "append")) && ((apos.endLine == cpos.line && nostar y) && chkE sc e y)
  | .omut i .insert [e, e'], .Expr (.Call (.Attribute (.Name x _) m apos) [y, z] [] cpos) _ => (nmB sc i x && decide (m = Str.ofString "insert")) && ((apos.endLine == cpos.line && (nostar y && nostar z)) && (chkE sc e y && chkE sc e' z))
  | .omut i .extend [e], .Expr (.Call (.Attribute (.Name x _) m apos) [y] [] cpos) _ => (nmB sc i x && decide (m = Str.ofString "extend")) && ((apos.endLine == cpos.line && nostar y) && chkE sc e y)
  | .exp e, .Expr v _ => !isComp v && chkE sc e v
  | .ret e, .Return (some v) _ => chkE sc e v
  | .retN, .Return none _ => true
  | .retO i, .Return (some (.Name x _)) _ => nmB sc i x
  | .retF i, .Return (some (.Name x _)) _ => nmB sc i x
  | .retW nw, .Return (some v) _ => chkN sc nw v
  | .ifS c a b, .If x y z _ => chkT sc c x && (chkSs sc a y && chkSs sc b z)
  | .whl c a, .While x y [] _ => chkT sc c x && chkSs sc a y
  | .forS tg k src a, .For t it y [] _ => (match tgOf t with
    | none => false
    | some (tp, ts) => (match ownOf tg ts with
      | none => false
      | some own => ((tp == decide (tg.length ≠ 1)) && (notSet it && tgI k t)) && (tgB sc own && (chkI sc k src it && chkSs sc a y))))
  | .pass, .Pass _ => true
  | .brk, .Break _ => true
  | .cnt, .Continue _ => true
  | _, _ => false
def chkSs (sc : SC) : List St → List Stmt → Bool
  | [], [] => true
  | .fz _ :: ss, ts => chkSs sc ss ts
  | .kill _ :: ss, ts => chkSs sc ss ts
  | s :: ss, t :: ts => chkS sc s t && chkSs sc ss ts
  | _, _ => false
end
section
variable {X : Cx} {sc : SC} {κ : Kx} {Φ : Fn} {Wx : L2.WX} {n : Nat} {pos : Pos}
theorem nmB_ok {i : Nat} {x : Str} (h : nmB sc i x = true) : sc.N[i]? = some x ∧ (visB sc x = true ∧ odd x = false) := by
  obtain ⟨h1, hb⟩ := ba2 h
  obtain ⟨h2, h3⟩ := ba2 hb
  exact ⟨of_decide_eq_true h1, h2, by simpa using h3⟩
theorem chkG_ok (ok : CxOk X sc κ Φ) (tk : Takes X Wx) (hn : X.N.length = n) {t : Tg} {e : Expr} (h : chkG sc t e = true) : PG X e (gR κ Wx n fun d ρ S => setT Φ d t ρ S) := by
  have al := (chk_all κ Φ).1.1
  cases t with
  | nm i =>
    cases e with
    | Name x p =>
      obtain ⟨h1, h2⟩ := ba2 h
      exact pg_nm ok hn (of_decide_eq_true h1) h2
    | _ => cases h
  | sub o i =>
    cases e with
    | Subscript x y p =>
      have h : (plainIx y && (chkE sc o x && chkE sc i y)) = true := h
      obtain ⟨h1, hb⟩ := ba2 h
      obtain ⟨h2, h3⟩ := ba2 hb
      exact pg_subC ok h1 (al _ _ _ X Wx ok tk h2).1 (al _ _ _ X Wx ok tk h3).1
    | _ => cases h
  | osub j i =>
    cases e with
    | Subscript x y p =>
      cases x with
      | Name x p2 =>
        have h : (plainIx y && (nmB sc j x && chkE sc i y)) = true := h
        obtain ⟨h1, hb⟩ := ba2 h
        obtain ⟨h2, h3⟩ := ba2 hb
        obtain ⟨k1, k2, k3⟩ := nmB_ok h2
        exact pg_subO ok h1 k1 k2 k3 (al _ _ _ X Wx ok tk h3).1
      | _ => cases h
    | _ => cases h
  | att o f => cases e <;> cases h
  | oatt o f => cases e <;> cases h
theorem each_cons {e : Expr} {es : List Expr} {env : PySem.Env} (h : ∀ x p, e ≠ .Starred x p) : assignEach (e :: es) env = (false, assign e env) :: assignEach es env := by
  cases e <;> first | rfl | exact absurd rfl (h _ _)
theorem chkG_star {t : Tg} {e : Expr} (h : chkG sc t e = true) : ∀ x p, e ≠ .Starred x p := by
  rintro x p rfl
  cases t <;> cases h
theorem chkGs_ok (ok : CxOk X sc κ Φ) (tk : Takes X Wx) (hn : X.N.length = n) : ∀ {ts : List Tg} {es : List Expr}, chkGs sc ts es = true →
    PGs X es (gRs κ Wx n fun ds ρ S => setTs Φ ts ds ρ S) ∧ (ts.length = es.length ∧ ((assignEach es X.env).length = es.length ∧ (assignEach es X.env).findIdx? (·.1) = none))
  | [], [], _ => by
    refine ⟨?_, rfl, rfl, rfl⟩
    have e : (fun (ds : List D) (ρ : Env) (S : Sto) => setTs Φ [] ds ρ S) = fun ds ρ S => match ds with
      | [] => .ok (.nx ρ) S
      | _ => .bad := by
      funext ds ρ S
      cases ds <;> rfl
    rw [e]
    exact gs_nil
  | [], _ :: _, h => by cases h
  | _ :: _, [], h => by cases h
  | t :: ts, e :: es, h => by
    have h : (chkG sc t e && chkGs sc ts es) = true := h
    obtain ⟨h1, h2⟩ := ba2 h
    obtain ⟨k1, k2, k3, k4⟩ := chkGs_ok ok tk hn h2
    have ec := each_cons (es := es) (env := X.env) (chkG_star h1)
    refine ⟨?_, by rw [List.length_cons, List.length_cons, k2], by rw [ec, List.length_cons, k3]; rfl, by rw [ec, List.findIdx?_cons, k4]; rfl⟩
    have e' : (fun (ds : List D) (ρ : Env) (S : Sto) => setTs Φ (t :: ts) ds ρ S) = fun ds ρ S => match ds with
      | d :: ds => (setT Φ d t ρ S).nx fun ρ1 S1 => setTs Φ ts ds ρ1 S1
      | [] => .bad := by
      funext ds ρ S
      cases ds <;> rfl
    rw [e']
    exact gs_cons (chkG_ok ok tk hn h1) k1 (by rw [ec]; rfl)
theorem kill_ok {κ : Kx} {as : List Addr} {H0 H : Hp} {σ : L2.St} {ρ : Env} (is : List Nat) (r : RelS κ as H0 H σ ρ) : RelS κ as H0 H σ (ρ.dels is) :=
  r.dels is
def MoS (κ : Kx) (Φ : Fn) (sc : SC) (s : St) (t : Stmt) : Prop := ∀ X Wx, CxOk X sc κ Φ → Takes X Wx → PassesOwn (model X.prog X.w) X.A X.env X.xe → chkS sc s t = true → PS X t (rdS κ Wx X.N.length fun ρ S => evS Φ s ρ S)
def MoSs (κ : Kx) (Φ : Fn) (sc : SC) (s : List St) (t : List Stmt) : Prop := ∀ X Wx, CxOk X sc κ Φ → Takes X Wx → PassesOwn (model X.prog X.w) X.A X.env X.xe → chkSs sc s t = true → PSs X t (rdS κ Wx X.N.length fun ρ S => evSs Φ s ρ S)
theorem PS.rd {t : Stmt} {m m' : MS} (h : PS X t (rdS κ Wx n m)) (e : ∀ ρ S, m' ρ S = m ρ S) : PS X t (rdS κ Wx n m') := by
  rw [show m' = m from funext fun ρ => funext fun S => e ρ S]
  exact h
theorem PSs.rd {t : List Stmt} {m m' : MS} (h : PSs X t (rdS κ Wx n m)) (e : ∀ ρ S, m' ρ S = m ρ S) : PSs X t (rdS κ Wx n m') := by
  rw [show m' = m from funext fun ρ => funext fun S => e ρ S]
  exact h
theorem star1 {es : List Expr} (h : ∀ e ∈ es, nostar e = true) : True := trivial
end
theorem stm_all (κ : Kx) (Φ : Fn) (sc : SC) : (∀ s t, MoS κ Φ sc s t) ∧ (∀ s t, MoSs κ Φ sc s t) := by
  have al := chk_all κ Φ
  refine chkS.mutual_induct (motive_1 := MoS κ Φ sc) (motive_2 := MoSs κ Φ sc) ?_ ?_ ?_ ?_ ?_ ?_ ?_ ?_ ?_ ?_ ?_ ?_ ?_ ?_ ?_ ?_ ?_ ?_ ?_ ?_ ?_ ?_ ?_ ?_ ?_ ?_ ?_ ?_
  · -- asg
    intro t e tg v pos X Wx ok tk hp h
    obtain ⟨ha, hb⟩ := ba2 h
    obtain ⟨h1, h2⟩ := ba2 ha
    obtain ⟨h3, h4⟩ := ba2 hb
    refine PS.rd (ps_asgn (al.1.1 _ _ _ X Wx ok tk h4).1 (chkG_ok ok tk rfl h3) (by simpa using h1) (by simpa using h2) (by rw [each_cons (chkG_star h3)]; rfl)) fun ρ S => ?_
    rw [evS] <;> rfl
  · -- unp
    intro ts e es k p v pos X Wx ok tk hp h
    obtain ⟨ha, hb⟩ := ba2 h
    obtain ⟨h1, h2⟩ := ba2 ha
    obtain ⟨h3, h4⟩ := ba2 hb
    obtain ⟨k1, k2, k3, k4⟩ := chkGs_ok ok tk rfl h3
    have k1' : PGs X es (gRs κ Wx X.N.length fun ds ρ S => R.chk (decide (ds.length = ts.length)) (setTs Φ ts ds ρ S)) := by
      refine ⟨fun pins s σ H vs us Q I r ⟨as0, H0, as, ρ, S, ds, st0, rs, hS, hl, hd, w⟩ => k1.run pins s σ H vs us Q I r ⟨as0, H0, as, ρ, S, ds, st0, rs, hS, hl, hd, ?_⟩⟩
      exact (Out.of_chk w).2
    refine PS.rd (ps_unp ok (al.1.1 _ _ _ X Wx ok tk h4).1 k1' (by simpa using h1) (swC ok h2) (fun ds ρ S ne => ?_) k3 k4 rfl) fun ρ S => ?_
    · unfold R.chk
      rw [k2, decide_eq_false ne]
      rfl
    · rw [evS] <;> rfl
  · -- par
    intro i j e f x px y py kt pt a b k2 pt2 pos X Wx ok tk hp h
    obtain ⟨hA, hB⟩ := ba2 h
    obtain ⟨hC, h1⟩ := ba2 hA
    obtain ⟨h2, h3⟩ := ba2 hC
    obtain ⟨h4, h5⟩ := ba2 hB
    exact PS.rd (ps_par2 ok rfl (of_decide_eq_true h2) (of_decide_eq_true h3) h4 (of_decide_eq_true h1) (al.2.2.2 _ _ _ X Wx ok tk h5).1.1) fun ρ S => by rw [evS] <;> rfl
  · -- par of three
    intro i j l e f g x px y py z pz kt pt a b c k2 pt2 pos X Wx ok tk hp h
    obtain ⟨hA, hB⟩ := ba2 h
    obtain ⟨hC, h1⟩ := ba2 hA
    obtain ⟨hD, h2⟩ := ba2 hC
    obtain ⟨h3, h4⟩ := ba2 hD
    obtain ⟨hE, h5⟩ := ba2 h1
    obtain ⟨h6, h7⟩ := ba2 hE
    obtain ⟨h8, h9⟩ := ba2 hB
    exact PS.rd (ps_par3' ok rfl (of_decide_eq_true h3) (of_decide_eq_true h4) (of_decide_eq_true h2) h8 (of_decide_eq_true h6) (of_decide_eq_true h7) (of_decide_eq_true h5) (al.2.2.2 _ _ _ X Wx ok tk h9).1.1) fun ρ S => by rw [evS] <;> rfl
  · -- own
    intro i nw x p v pos X Wx ok tk hp h
    obtain ⟨ha, h1⟩ := ba2 h
    obtain ⟨h2, h3⟩ := ba2 ha
    exact PS.rd (ps_ownN ok tk rfl (of_decide_eq_true h2) h3 h1) fun ρ S => by rw [evS]
  · -- append
    intro i e x p m apos y cpos pos X Wx ok tk hp h
    obtain ⟨ha, hb⟩ := ba2 h
    obtain ⟨h1, h2⟩ := ba2 ha
    obtain ⟨hc, h3⟩ := ba2 hb
    obtain ⟨h4, h5⟩ := ba2 hc
    obtain ⟨k1, k2, k3⟩ := nmB_ok h1
    have h2 := of_decide_eq_true h2
    subst h2
    have r : PA X [y] (rdDs κ Wx fun ρ S => evEs Φ ρ [e] S) := (al.2.2.2 sc [e] [y] X Wx ok tk (by simp [chkEs, h3, h5])).1.1
    exact PS.rd (ps_omut ok PySem.F.slot_list_append PySem.F.type_list_append (mt_app (X := X) (κ := κ)) k1 k2 k3 (fun e he => by rw [List.mem_singleton.mp he]; exact h5) (by simp) h4 r) fun ρ S => by rw [evS] <;> first | rfl | (intro z; cases z)
  · -- insert
    intro i e e' x p m apos y z cpos pos X Wx ok tk hp h
    obtain ⟨ha, hb⟩ := ba2 h
    obtain ⟨h1, h2⟩ := ba2 ha
    obtain ⟨hc, hd⟩ := ba2 hb
    obtain ⟨h4, he⟩ := ba2 hc
    obtain ⟨h5, h6⟩ := ba2 he
    obtain ⟨h3, h7⟩ := ba2 hd
    obtain ⟨k1, k2, k3⟩ := nmB_ok h1
    have h2 := of_decide_eq_true h2
    subst h2
    have r : PA X [y, z] (rdDs κ Wx fun ρ S => evEs Φ ρ [e, e'] S) := (al.2.2.2 sc [e, e'] [y, z] X Wx ok tk (by simp [chkEs, h3, h5, h6, h7])).1.1
    exact PS.rd (ps_omut ok PySem.F.slot_list_insert PySem.F.type_list_insert (mt_ins (X := X) (κ := κ)) k1 k2 k3 (fun e he => by
      rcases List.mem_cons.mp he with rfl | he
      · exact h5
      · rw [List.mem_singleton.mp he]; exact h6) (by simp) h4 r) fun ρ S => by rw [evS] <;> first | rfl | (intro z; cases z)
  · -- extend
    intro i e x p m apos y cpos pos X Wx ok tk hp h
    obtain ⟨ha, hb⟩ := ba2 h
    obtain ⟨h1, h2⟩ := ba2 ha
    obtain ⟨hc, h3⟩ := ba2 hb
    obtain ⟨h4, h5⟩ := ba2 hc
    obtain ⟨k1, k2, k3⟩ := nmB_ok h1
    have h2 := of_decide_eq_true h2
    subst h2
    exact PS.rd (ps_oext ok k1 k2 k3 h5 h4 (al.1.1 _ _ _ X Wx ok tk h3).1) fun ρ S => by rw [evS, congrFun (congrFun evEs_one ρ) S]; rfl
  · -- exp
    intro e v pos X Wx ok tk hp h
    obtain ⟨h1, h2⟩ := ba2 h
    exact PS.rd (ps_exp (al.1.1 _ _ _ X Wx ok tk h2).1 (by simpa using h1)) fun ρ S => by rw [evS] <;> rfl
  · -- ret
    intro e v pos X Wx ok tk hp h
    have h : chkE sc e v = true := h
    exact PS.rd (ps_rete (al.1.1 _ _ _ X Wx ok tk h).1) fun ρ S => by rw [evS] <;> rfl
  · -- retN
    intro pos X Wx ok tk hp h
    exact PS.rd ps_retn fun ρ S => by rw [evS]
  · -- retO
    intro i x p pos X Wx ok tk hp h
    obtain ⟨k1, k2, k3⟩ := nmB_ok h
    exact PS.rd (ps_reto ok k1 k2 k3) fun ρ S => by rw [evS] <;> rfl
  · -- retF
    intro i x p pos X Wx ok tk hp h
    obtain ⟨k1, k2, k3⟩ := nmB_ok h
    exact PS.rd (ps_retf ok k1 k2 k3) fun ρ S => by rw [evS] <;> rfl
  · -- retW
    intro nw v pos X Wx ok tk hp h
    have h : chkN sc nw v = true := h
    exact PS.rd (ps_retw (al.1.2 _ _ _ X Wx ok tk h)) fun ρ S => by rw [evS]
  · -- if
    intro c a b x y z pos ia ib X Wx ok tk hp h
    obtain ⟨h0, hb⟩ := ba2 h
    obtain ⟨h1, h2⟩ := ba2 hb
    obtain ⟨t1, t2⟩ := ba2 h0
    exact PS.rd (ps_ifs ((al.1.1 _ _ _ X Wx ok tk t2).2 t1) (ia X Wx ok tk hp h1) (ib X Wx ok tk hp h2)) fun ρ S => by rw [evS] <;> rfl
  · -- while
    intro c a x y pos ia X Wx ok tk hp h
    obtain ⟨h0, h1⟩ := ba2 h
    obtain ⟨t1, t2⟩ := ba2 h0
    exact PS.rd (ps_whl hp ((al.1.1 _ _ _ X Wx ok tk t2).2 t1) (ia X Wx ok tk hp h1)) fun ρ S => by rw [evS] <;> rfl
  · intros
    intro X Wx ok tk hp h
    simp_all [chkS]
  · intros
    intro X Wx ok tk hp h
    simp_all [chkS]
  · -- for
    intro tg k src a t it y pos tp ts e1 own e2 ia X Wx ok tk hp h
    have h : (((tp == decide (tg.length ≠ 1)) && (notSet it && tgI k t)) && (tgB sc own && (chkI sc k src it && chkSs sc a y))) = true := by
      rw [chkS, e1] at h
      simp only [e2] at h
      exact h
    obtain ⟨ha, hb⟩ := ba2 h
    obtain ⟨h1, h2⟩ := ba2 ha
    obtain ⟨h3, hc⟩ := ba2 hb
    obtain ⟨h4, h5⟩ := ba2 hc
    have h1 : tp = decide (tg.length ≠ 1) := eq_of_beq h1
    obtain ⟨q1, q2, _⟩ := own_pgs ok e2 h3
    exact PS.rd (ps_forr ok rfl hp (al.2.1.2 _ _ _ _ X Wx ok tk h4 t (ba2 h2).2) q2 (own_pg ok e1 e2 h3 h1) (notSet_ok (ba2 h2).1) (ia X Wx ok tk hp h5)) fun ρ S => by rw [evS] <;> rfl
  · intro pos X Wx ok tk hp h
    exact PS.rd ps_pas fun ρ S => by rw [evS]
  · intro pos X Wx ok tk hp h
    exact PS.rd ps_brk fun ρ S => by rw [evS]
  · intro pos X Wx ok tk hp h
    exact PS.rd ps_cnt fun ρ S => by rw [evS]
  · intros
    intro X Wx ok tk hp h
    rw [chkS] at h <;> first | assumption | cases h
  · intro X Wx ok tk hp h
    exact PSs.rd ss_nil fun ρ S => by rw [evSs]
  · intro i ss ts ir X Wx ok tk hp h
    have h : chkSs sc ss ts = true := by rw [chkSs] at h; exact h
    exact PSs.rd (ss_fz (i := i) (ir X Wx ok tk hp h)) fun ρ S => by rw [evSs, evS] <;> rfl
  · intro is ss ts ir X Wx ok tk hp h
    have h : chkSs sc ss ts = true := by rw [chkSs] at h; exact h
    exact PSs.rd (ss_skip (f := fun ρ => ρ.dels is) (fun _ _ _ _ _ r => r.dels is) (ir X Wx ok tk hp h)) fun ρ S => by rw [evSs, evS]
  · intro s ss t ts n1 n2 i1 i2 X Wx ok tk hp h
    have h : (chkS sc s t && chkSs sc ss ts) = true := by rw [chkSs] at h <;> first | exact h | assumption
    obtain ⟨h1, h2⟩ := ba2 h
    exact PSs.rd (ss_cons (i1 X Wx ok tk hp h1) (i2 X Wx ok tk hp h2)) fun ρ S => by rw [evSs]
  · intros
    intro X Wx ok tk hp h
    rw [chkSs] at h <;> first | assumption | cases h
end Ev
set_option maxHeartbeats 4000000
/-! Ev, part 22: functions. -/
namespace Ev
open PySem PySem.Spec PyProof.Rows L2
theorem zip_look : ∀ {ps : List Str} {us : List Value}, ps.Nodup → ∀ q ∈ ps.zip us, (ps.zip us).lookup q.1 = some q.2
  | [], us, _, q, h => by simp at h
  | p :: ps, [], _, q, h => by simp at h
  | p :: ps, u :: us, nd, q, h => by
    rw [List.zip_cons_cons] at h ⊢
    obtain ⟨n1, n2⟩ := List.nodup_cons.mp nd
    rcases List.mem_cons.mp h with rfl | h
    · simp
    · have hm : q.1 ∈ ps := (List.of_mem_zip (a := q.1) (b := q.2) h).1
      have ne : (q.1 == p) = false := by
        apply Bool.eq_false_iff.mpr
        intro z
        have z : q.1 = p := eq_of_beq z
        rw [z] at hm
        exact n1 hm
      rw [List.lookup_cons, ne]
      exact zip_look n2 q h
theorem zip_back {L : List (Str × Value)} : ∀ {ps : List Str} {us : List Value}, us.length = ps.length → (∀ q ∈ ps.zip us, L.lookup q.1 = some q.2) → ps.filterMap (fun n => (L.lookup n).map (n, ·)) = ps.zip us
  | [], us, _, _ => by simp
  | p :: ps, [], h, _ => by simp at h
  | p :: ps, u :: us, h, k => by
    have e := k (p, u) (by simp)
    have e : L.lookup p = some u := e
    rw [List.filterMap_cons, e, List.zip_cons_cons, Option.map_some]
    show (p, u) :: _ = _
    rw [zip_back (by simpa using h) fun q hq => k q (by rw [List.zip_cons_cons]; exact List.mem_cons_of_mem _ hq)]
theorem zip_none {L : List (Str × Value)} : ∀ {ps : List Str} {us : List Value}, us.length = ps.length → (∀ q ∈ ps.zip us, L.lookup q.1 = some q.2) → ps.filter (fun n => (L.lookup n).isNone) = []
  | [], us, _, _ => by simp
  | p :: ps, [], h, _ => by simp at h
  | p :: ps, u :: us, h, k => by
    have e := k (p, u) (by simp)
    have e : L.lookup p = some u := e
    rw [List.filter_cons, e]
    exact zip_none (by simpa using h) fun q hq => k q (by rw [List.zip_cons_cons]; exact List.mem_cons_of_mem _ hq)
/-- what binds without any default -/
def plainB (a : Arguments) : Bool := (a.posonlyargs.isEmpty && a.vararg.isNone) && (a.kwonlyargs.isEmpty && a.kwarg.isNone)
theorem bind_plain {x qual : Str} {params : Arguments} {body : List Stmt} {scope : Scope} {kV doc pm : Value} {an : Option Addr} {cdv ct : Value} {us : List Value} (h : plainB params = true) (nd : (params.args.map (·.arg)).Nodup) (hl : us.length = (params.args.map (·.arg)).length) :
    bindArgs (PySem.W.fnOf x qual params body scope .none kV doc pm an cdv ct) ⟨us, []⟩ = pure ((params.args.map (·.arg)).zip us) := by
  obtain ⟨ha, hb⟩ := ba2 h
  obtain ⟨h1, h2⟩ := ba2 ha
  obtain ⟨h3, h4⟩ := ba2 hb
  obtain ⟨po, ar, va, ko, kd, ka, df⟩ := params
  have gh1 : po = [] := by simpa using h1
  have gh2 : va = none := by simpa using h2
  have gh3 : ko = [] := by simpa using h3
  have gh4 : ka = none := by simpa using h4
  clear h1 h2 h3 h4 ha hb h
  subst gh1 gh2 gh3 gh4
  simp only at nd hl
  have e1 := zip_back (L := (ar.map (·.arg)).zip us) hl fun q hq => zip_look nd q hq
  have e2 := zip_none (L := (ar.map (·.arg)).zip us) hl fun q hq => zip_look nd q hq
  have hs : seqItems? Value.none = pure none := rfl
  unfold bindArgs
  simp only [PySem.W.fnOf, List.map_nil, List.nil_append, List.append_nil, hs, pure_bind, Option.getD_none, List.length_nil, Nat.sub_zero, List.forIn_nil, List.drop_nil]
  have d1 : decide (us.length > (List.map (fun x => x.arg) ar).length) = false := decide_eq_false (by omega)
  simp only [d1, Bool.false_and, List.take_length, e2, List.isEmpty_nil, Bool.not_true, List.drop_length, List.zip_nil_left, List.forIn_nil, pure_bind, e1]
  rfl
/-! ### a function's promise -/
def clOf (scope : Scope) : List Str := (scope.names.filter fun p => p.2 == .cell).map (·.1)
/-- is a def's body as its little program says -/
def chkF (N : List Str) (fns : List (Nat × Str)) (cs : List (String × D)) (fd : Fd) (params : Arguments) (body : List Stmt) (scope : Scope) : Bool :=
  ((decide (fd.nn = N.length) && decide (fd.ps = params.args.length)) && (fd.ini.isNone && plainB params)) &&
  (((match scope.kind with | .function => true | _ => false) && (!scope.isCoroutine && !scope.isGenerator)) &&
  ((decide N.Nodup && decide (N.take params.args.length = params.args.map (·.arg))) &&
  ((params.args.all fun a => match scope.names.lookup a.arg with | some .local => true | some .cell => true | _ => false) &&
  ((scope.names.all fun y => match y.2 with | .free => false | _ => true) && chkSs ⟨N, scope.names, clOf scope, fns, cs⟩ fd.body body))))
theorem chkF_plain {N : List Str} {fns : List (Nat × Str)} {cs : List (String × D)} {fd : Fd} {params : Arguments} {body : List Stmt} {scope : Scope} (h : chkF N fns cs fd params body scope = true) : plainB params = true := by
  obtain ⟨hA, _⟩ := ba2 h
  obtain ⟨_, hD⟩ := ba2 hA
  exact (ba2 hD).2
theorem chkF_nd {N : List Str} {fns : List (Nat × Str)} {cs : List (String × D)} {fd : Fd} {params : Arguments} {body : List Stmt} {scope : Scope} (h : chkF N fns cs fd params body scope = true) : (params.args.map (·.arg)).Nodup := by
  obtain ⟨_, hB⟩ := ba2 h
  obtain ⟨_, hG⟩ := ba2 hB
  obtain ⟨hJ, _⟩ := ba2 hG
  obtain ⟨c8, c9⟩ := ba2 hJ
  rw [← of_decide_eq_true c9]
  exact (of_decide_eq_true c8).sublist (List.take_sublist _ _)
theorem get_app {ds : List D} {m i : Nat} {w : W} (h : Env.get (ds.map (fun d => some (.d d)) ++ List.replicate m none) i = some w) : ∃ d, ds[i]? = some d ∧ w = .d d := by
  induction ds generalizing i with
  | nil =>
    induction m generalizing i with
    | zero => cases h
    | succ m ih =>
      cases i with
      | zero => cases h
      | succ i => exact ih (i := i) h |>.elim fun d z => by cases z.1
  | cons d ds ih =>
    cases i with
    | zero =>
      have h : some (W.d d) = some w := h
      cases h
      exact ⟨d, rfl, rfl⟩
    | succ i =>
      obtain ⟨x, h1, h2⟩ := ih (i := i) h
      exact ⟨x, h1, h2⟩
theorem rel_start {κ : Kx} {as : List Addr} {H : Hp} {ds : List D} {vs : List V} {N : List Str} (h : IsDs κ as H ds vs) : RelS κ as H H (L2.start N vs) (ds.map (fun d => some (.d d)) ++ List.replicate (N.length - ds.length) none) := by
  refine ⟨fun i d e => ?_, fun i c e => ?_, fun i j c e a _ e1 _ _ => ?_⟩
  · obtain ⟨x, h1, h2⟩ := get_app e
    cases h2
    obtain ⟨v, h3, h4⟩ := h.get h1
    refine ⟨v, ?_, h4⟩
    unfold L2.start
    obtain ⟨hlt, hv⟩ := List.getElem?_eq_some_iff.mp h3
    rw [List.getElem?_append_left (by simpa using hlt), List.getElem?_map, h3]
    rfl
  · obtain ⟨x, _, h2⟩ := get_app e
    cases h2
  · obtain ⟨x, _, h2⟩ := get_app e1
    cases h2
/-- THE RULE of a function -/
theorem fn_ok {P : Program} {w : World} {K : PySem.W.Frag} {mg : Str → Option Value} {base : Heap} {x qual : Str} {params : Arguments} {body : List Stmt} {scope : Scope} {f : Addr} {fdd : FuncData} {k : Nat} {κ : Kx} {Φ : Fn} {N : List Str} {fns : List (Nat × Str)} {cs : List (String × D)} {fd : Fd}
    (hκ : κ.K = K) (hw : κ.w = w) (F : FunD K x qual params body scope [] [] f fdd) (hc : chkF N fns cs fd params body scope = true) (hb : ∀ x ∈ bltNames, mg (Str.ofString x) = none)
    (hf : ∀ j y, fns.lookup j = some y → ∃ (a : Addr) (fd' : FuncData) (ps' : List Str), mg y = some (.ref a) ∧ PySem.W.keepIn K (.ref a) = true ∧ Binds K fd' ps' [] ∧ FnOk P w K mg base (L2.CX P w) k a fd' ps' (spOf κ (Φ j)))
    (hcs : ∀ y d, (y, d) ∈ cs → ∃ u v, mg (Str.ofString y) = some u ∧ RelV v u ∧ ∀ (as : List Addr) (H : Hp), IsD κ as H d v) :
    FnOk P w K mg base (L2.CX P w) (k + 1) f fdd (params.args.map (·.arg)) (spOf κ (evF Φ fd)) ∧ Binds K fdd (params.args.map (·.arg)) [] := by
  obtain ⟨hA, hB⟩ := ba2 hc
  obtain ⟨hC, hD⟩ := ba2 hA
  obtain ⟨c1, c2⟩ := ba2 hC
  obtain ⟨c3, c4⟩ := ba2 hD
  obtain ⟨hE, hG⟩ := ba2 hB
  obtain ⟨c5, hI⟩ := ba2 hE
  obtain ⟨c6, c7⟩ := ba2 hI
  obtain ⟨hJ, hL⟩ := ba2 hG
  obtain ⟨c8, c9⟩ := ba2 hJ
  obtain ⟨c10, hM⟩ := ba2 hL
  obtain ⟨c11, c12⟩ := ba2 hM
  have c1 := of_decide_eq_true c1
  have c2 := of_decide_eq_true c2
  have c3 : fd.ini = none := by simpa using c3
  have c5 : scope.kind = .function := by
    split at c5
    · assumption
    · cases c5
  have c8 := of_decide_eq_true c8
  have c9 := of_decide_eq_true c9
  have nd : (params.args.map (·.arg)).Nodup := by
    rw [← c9]
    exact c8.sublist (List.take_sublist _ _)
  have S : FnScope N (params.args.map (·.arg)) scope := by
    refine ⟨c5, by simpa using c6, by simpa using c7, c8, by rw [List.length_map]; exact c9, fun y hy => ?_, fun y hy => ?_⟩
    · obtain ⟨a, ha, rfl⟩ := List.mem_map.mp hy
      have q := List.all_eq_true.mp c10 a ha
      split at q
      · rename_i e; exact .inl e
      · rename_i e; exact .inr e
      · cases q
    · have q := List.all_eq_true.mp c11 y hy
      split at q
      · cases q
      · rename_i e; exact fun z => e z
  have out : ∀ {ds : List D} {S : Sto} {k : W → Sto → Prop} {ke : D → Sto → Prop}, Out (evF Φ fd ds S) k ke → ds.length = fd.ps ∧ Out (match evSs Φ fd.body (ds.map (fun d => some (.d d)) ++ List.replicate (fd.nn - ds.length) none) S with
    | .ok (.nx ρ) S1 => .ok (.d .non) S1
    | .ok (.rt w) S1 => .ok w S1
    | .ok (.ex e _) S1 => .exc e S1
    | _ => .bad) k ke := fun {ds S k ke} h => by
    unfold evF at h
    by_cases z : ds.length = fd.ps
    · rw [if_pos z] at h
      refine ⟨z, ?_⟩
      simp only [c3] at h
      exact h
    · rw [if_neg z] at h
      exact h.elim
  refine ⟨F.ok S (fun vs H Q E ⟨as, ds, S, rd, hS, o⟩ => ?_) (fun cdv A outer s H vs Q E hr ⟨as, ds, S0, rd, hS, o⟩ => ?_), F.bindsN fun kV doc pm an cdv ct us hl => bind_plain c4 nd hl⟩
  · rw [List.length_map, ← c2, ← (out o).1, rd.length]
  · refine ⟨rdS κ (fun cls d _ H => E cls d H) N.length fun ρ S => evSs Φ fd.body ρ S, ?_, ?_⟩
    · have ok : CxOk (cxOf (L2.CX P w) P w K mg base N qual scope f cdv A outer s H E) ⟨N, scope.names, clOf scope, fns, cs⟩ κ Φ := by
        refine ⟨hκ, hw, rfl, c8, rfl, c5, rfl, ?_, fun y hy => .inl rfl, hb, fun j y e => ?_, hcs⟩
        · have := hr.un
          show (A.deeper _).units + 64 < cLine
          omega
        · obtain ⟨a, fd', ps', h1, h2, h3, h4⟩ := hf j y e
          exact ⟨a, fd', ps', k, h1, h2, h3, h4, hr⟩
      exact (stm_all κ Φ _).2 _ _ _ _ ok (takes_of rfl rfl rfl rfl) (passes_of rfl) c12
    · obtain ⟨hl, o2⟩ := out o
      refine ⟨as, H, as, _, S0, Step.refl, rel_start rd, hS, ?_, ?_⟩
      · have : vs.length ≤ N.length := by
          have := congrArg List.length c9
          rw [List.length_take, List.length_map] at this
          have h2 := rd.length
          omega
        unfold L2.start
        rw [List.length_append, List.length_map, List.length_replicate]
        omega
      · rw [c1] at o2
        show Out (evSs Φ fd.body (ds.map (fun d => some (.d d)) ++ List.replicate (N.length - ds.length) none) S0) _ _
        cases q : evSs Φ fd.body (ds.map (fun d => some (.d d)) ++ List.replicate (N.length - ds.length) none) S0 with
        | bad => rw [q] at o2; exact o2
        | exc e S1 => rw [q] at o2; exact o2
        | ok fl S1 =>
          rw [q] at o2
          cases fl with
          | nx ρ => exact fun as' H' σ' st im pr hS' hl' rs' => o2 as' H' .non st rfl hS'
          | bk ρ => exact o2.elim
          | ct ρ => exact o2.elim
          | rt wv => cases wv with
            | d x => exact fun as' H' σ' st im pr hS' hl' v hv => o2 as' H' v st hv hS'
            | own c => exact fun as' H' σ' st im pr hS' hl' a na ni rc => o2 as' H' a st na ni rc hS'
          | ex e ρ => exact fun as' H' σ' st im pr hS' hl' rs' cls dd hx => o2 as' H' cls dd st hx hS'
end Ev
set_option maxHeartbeats 4000000
/-! Ev, part 23: a whole text's functions; a law. -/
namespace Ev
open PySem PySem.Spec PyProof.Rows L2
/-- a def of the text -/
structure Ent where
  name : String
  fd : Fd
  N : List String
  st : Stmt
def Ent.x (e : Ent) : Str := Str.ofString e.name
def fnsOf (T : List Ent) : List (Nat × Str) := T.zipIdx.map fun p => (p.2, p.1.x)
def progOf (T : List Ent) : Nat → Fd := fun j => match T[j]? with
  | some e => e.fd
  | none => ⟨0, 0, [], none⟩
def chkEnt (fns : List (Nat × Str)) (cs : List (String × D)) (e : Ent) : Bool := chkF (e.N.map Str.ofString) fns cs e.fd (defArgs e.st) (defBody e.st) (defScope e.st)
def chkTab (T : List Ent) (cs : List (String × D)) : Bool := T.all (chkEnt (fnsOf T) cs)
theorem look_mem {β : Type} {j : Nat} {y : β} : ∀ {l : List (Nat × β)}, l.lookup j = some y → (j, y) ∈ l
  | [], h => by cases h
  | (k, z) :: r, h => by
    rw [List.lookup_cons] at h
    by_cases q : (j == k) = true
    · rw [q] at h
      have e : j = k := eq_of_beq q
      cases h
      rw [e]
      exact List.mem_cons_self
    · have q : (j == k) = false := by simpa using q
      rw [q] at h
      exact List.mem_cons_of_mem _ (look_mem h)
theorem fnsOf_look {T : List Ent} {j : Nat} {y : Str} (h : (fnsOf T).lookup j = some y) : ∃ e, T[j]? = some e ∧ e.x = y := by
  have m := look_mem h
  obtain ⟨p, hp, e⟩ := List.mem_map.mp m
  obtain ⟨q, i⟩ := p
  have hq := List.mem_zipIdx_iff_getElem?.mp hp
  cases e
  exact ⟨q, hq, rfl⟩
theorem prog_ok {P : Program} {w : World} {K : PySem.W.Frag} {mg : Str → Option Value} {base : Heap} {κ : Kx} (hκ : κ.K = K) (hw : κ.w = w) {T : List Ent} {cs : List (String × D)} (hT : chkTab T cs = true) (hb : ∀ x ∈ bltNames, mg (Str.ofString x) = none)
    (hF : ∀ e ∈ T, ∃ (a : Addr) (fdd : FuncData), mg e.x = some (.ref a) ∧ PySem.W.keepIn K (.ref a) = true ∧ FunD K e.x e.x (defArgs e.st) (defBody e.st) (defScope e.st) [] [] a fdd)
    (hcs : ∀ y d, (y, d) ∈ cs → ∃ u v, mg (Str.ofString y) = some u ∧ RelV v u ∧ ∀ (as : List Addr) (H : Hp), IsD κ as H d v) :
    ∀ (n j : Nat) (e : Ent), T[j]? = some e → ∀ (a : Addr) (fdd : FuncData), mg e.x = some (.ref a) → FunD K e.x e.x (defArgs e.st) (defBody e.st) (defScope e.st) [] [] a fdd →
      FnOk P w K mg base (L2.CX P w) n a fdd ((defArgs e.st).args.map (·.arg)) (spOf κ (call (progOf T) n j)) ∧ Binds K fdd ((defArgs e.st).args.map (·.arg)) []
  | 0, j, e, hj, a, fdd, hm, F => by
    have hb : Binds K fdd ((defArgs e.st).args.map (·.arg)) [] := by
      have hc := List.all_eq_true.mp hT e (List.mem_of_getElem? hj)
      exact (fn_ok (P := P) (w := w) (base := base) (k := 0) (Φ := fun _ _ _ => .bad) hκ hw F hc hb (fun j y hy => by
        obtain ⟨e', h1, h2⟩ := fnsOf_look hy
        obtain ⟨a', fdd', q1, q2, q3⟩ := hF e' (List.mem_of_getElem? h1)
        have hc' := List.all_eq_true.mp hT e' (List.mem_of_getElem? h1)
        subst h2
        refine ⟨a', fdd', (defArgs e'.st).args.map (·.arg), q1, q2, ?_, ⟨fun vs H Q E ⟨as, ds, S, _, _, o⟩ => o.elim, fun A outer s H args us vs Q E _ _ _ _ ⟨as, ds, S, _, _, o⟩ => o.elim⟩⟩
        exact (FunD.bindsN q3 fun kV doc pm an cdv ct us hl => bind_plain (chkF_plain hc') (chkF_nd hc') hl)) hcs).2
    exact ⟨⟨fun vs H Q E ⟨as, ds, S, _, _, o⟩ => o.elim, fun A outer s H args us vs Q E _ _ _ _ ⟨as, ds, S, _, _, o⟩ => o.elim⟩, hb⟩
  | n + 1, j, e, hj, a, fdd, hm, F => by
    have hc := List.all_eq_true.mp hT e (List.mem_of_getElem? hj)
    have key := fn_ok (P := P) (w := w) (base := base) (k := n) (Φ := call (progOf T) n) hκ hw F hc hb (fun j y hy => by
      obtain ⟨e', h1, h2⟩ := fnsOf_look hy
      obtain ⟨a', fdd', q1, q2, q3⟩ := hF e' (List.mem_of_getElem? h1)
      subst h2
      obtain ⟨k1, k2⟩ := prog_ok hκ hw hT hb hF hcs n j e' h1 a' fdd' q1 q3
      exact ⟨a', fdd', _, q1, q2, k2, k1⟩) hcs
    refine ⟨?_, key.2⟩
    have e1 : call (progOf T) (n + 1) j = evF (call (progOf T) n) e.fd := by
      funext ds S
      show evF (call (progOf T) n) (progOf T j) ds S = _
      unfold progOf
      rw [hj]
    rw [e1]
    exact key.1
/-! ### constants -/
def dvOf : D → Option He.Dv
  | .non => some .non
  | .bl b => some (.bl b)
  | .int i => some (.int i)
  | .str z => if szOk z.length = true then some (.str (tx z)) else none
  | _ => none
def dvsOf : List D → Option (List He.Dv)
  | [] => some []
  | d :: r => (dvOf d).bind fun x => (dvsOf r).map (x :: ·)
theorem dv_ok {κ : Kx} {as : List Addr} {H : Hp} {d : D} {x : He.Dv} (h : dvOf d = some x) : IsD κ as H d (x.v κ.K) := by
  cases d with
  | non => cases h; exact rfl
  | bl b => cases h; exact rfl
  | int i => cases h; exact rfl
  | str z =>
    have h : (if szOk z.length = true then some (He.Dv.str (tx z)) else none) = some x := h
    by_cases q : szOk z.length = true
    · rw [if_pos q] at h
      cases h
      exact ⟨rfl, q⟩
    · rw [if_neg q] at h; cases h
  | _ => cases h
theorem dvs_ok {κ : Kx} {as : List Addr} {H : Hp} : ∀ {ds : List D} {xs : List He.Dv}, dvsOf ds = some xs → IsDs κ as H ds (xs.map (He.Dv.v κ.K))
  | [], xs, h => by cases h; exact True.intro
  | d :: r, xs, h => by
    have h : ((dvOf d).bind fun x => (dvsOf r).map (x :: ·)) = some xs := h
    obtain ⟨x, h1, h2⟩ := Option.bind_eq_some_iff.mp h
    obtain ⟨l, h3, h4⟩ := Option.map_eq_some_iff.mp h2
    subst h4
    exact ⟨dv_ok h1, dvs_ok h3⟩
mutual
/-- does a value of the written part hold this -/
def valB (K : PySem.W.Frag) : D → Value → Bool
  | .non, .none => true
  | .bl a, .bool b => a == b
  | .int i, .int j _ => decide (i = j)
  | .str z, .str y _ => decide (y = tx z) && szOk z.length
  | .tup ds, .ref a => (match K.lookup a with
    | some ⟨.type c, _, .seq its _, _⟩ => decide (c = "tuple") && (decide (its.size ≤ sizeLine) && valsB K ds its.toList)
    | _ => false)
  | _, _ => false
def valsB (K : PySem.W.Frag) : List D → List Value → Bool
  | [], [] => true
  | d :: ds, u :: us => valB K d u && valsB K ds us
  | _, _ => false
end
mutual
theorem valB_ok {κ : Kx} : ∀ {d : D} {u : Value}, valB κ.K d u = true → ∃ v, RelV v u ∧ ∀ (as : List Addr) (H : Hp), IsD κ as H d v
  | .non, u, h => by
    cases u <;> first | (exact ⟨.non, rfl, fun _ _ => rfl⟩) | (simp [valB] at h)
  | .bl a, u, h => by
    cases u with
    | bool b =>
      have e : a = b := eq_of_beq (show (a == b) = true by rw [valB] at h; exact h)
      subst e
      exact ⟨.bl a, rfl, fun _ _ => rfl⟩
    | _ => simp [valB] at h
  | .int i, u, h => by
    cases u with
    | int j t =>
      have e : i = j := of_decide_eq_true (by rw [valB] at h; exact h)
      subst e
      exact ⟨.int i, ⟨t, rfl⟩, fun _ _ => rfl⟩
    | _ => simp [valB] at h
  | .str z, u, h => by
    cases u with
    | str y t =>
      have h : (decide (y = tx z) && szOk z.length) = true := by rw [valB] at h; exact h
      obtain ⟨h1, h2⟩ := ba2 h
      have e := of_decide_eq_true h1
      subst e
      exact ⟨.str (tx z), ⟨t, rfl⟩, fun _ _ => ⟨rfl, h2⟩⟩
    | _ => simp [valB] at h
  | .tup ds, u, h => by
    cases u with
    | ref a =>
      have h : (match κ.K.lookup a with
        | some ⟨.type c, _, .seq its _, _⟩ => decide (c = "tuple") && (decide (its.size ≤ sizeLine) && valsB κ.K ds its.toList)
        | _ => false) = true := by rw [valB] at h; exact h
      cases q : κ.K.lookup a with
      | none => rw [q] at h; cases h
      | some o =>
        obtain ⟨oc, od, dt, osl⟩ := o
        rw [q] at h
        cases oc with
        | type c =>
          cases dt with
          | seq its n =>
            obtain ⟨h1, h2⟩ := ba2 (show (decide (c = "tuple") && (decide (its.size ≤ sizeLine) && valsB κ.K ds its.toList)) = true from h)
            obtain ⟨h3, h4⟩ := ba2 h2
            obtain ⟨vs, k1, k2⟩ := valsB_ok h4
            exact ⟨.ref a, rfl, fun as H => ⟨a, vs, rfl, .inr ⟨_, its, n, q, congrArg Value.type (of_decide_eq_true h1), rfl, of_decide_eq_true h3, k1⟩, k2 as H⟩⟩
          | _ => cases h
        | _ => cases dt <;> cases h
    | _ => simp [valB] at h
  | .ref _, u, h => by simp [valB] at h
  | .fn _, u, h => by simp [valB] at h
  | .lst _, u, h => by simp [valB] at h
  | .scr _, u, h => by simp [valB] at h
  | .dic _, u, h => by simp [valB] at h
  | .kdic _, u, h => by simp [valB] at h
  | .obj _ _, u, h => by simp [valB] at h
  | .exc _ _, u, h => by simp [valB] at h
theorem valsB_ok {κ : Kx} : ∀ {ds : List D} {us : List Value}, valsB κ.K ds us = true → ∃ vs, Vals vs us ∧ ∀ (as : List Addr) (H : Hp), IsDs κ as H ds vs
  | [], [], _ => ⟨[], .nil, fun _ _ => True.intro⟩
  | d :: ds, u :: us, h => by
    have h : (valB κ.K d u && valsB κ.K ds us) = true := by rw [valsB] at h; exact h
    obtain ⟨h1, h2⟩ := ba2 h
    obtain ⟨v, k1, k2⟩ := valB_ok h1
    obtain ⟨vs, k3, k4⟩ := valsB_ok h2
    exact ⟨v :: vs, .cons k1 k3, fun as H => ⟨k2 as H, k4 as H⟩⟩
  | [], _ :: _, h => by simp [valsB] at h
  | _ :: _, [], h => by simp [valsB] at h
end
/-- a written dict's keys are these texts -/
def keysB (K : PySem.W.Frag) (a : Addr) (ks : List Nm) : Bool := match K.lookup a with
  | some ⟨_, _, .dict es _, _⟩ => es.toList.all fun e => match e.key with
    | .str x _ => ks.any fun k => decide (x = tx k)
    | _ => false
  | _ => false
theorem keysB_ok {K : PySem.W.Frag} {a : Addr} {ks : List Nm} (h : keysB K a ks = true) : ∀ z : Nm, z ∉ ks → PySem.W.nsIn K a (tx z) = some none := fun z hz => by
  unfold keysB at h
  unfold PySem.W.nsIn
  split at h
  · rename_i o es n sl q
    have key : ∀ e ∈ es.toList, e.key.isStr (tx z) = false ∧ e.refKey = false := fun e he => by
      have := List.all_eq_true.mp h e he
      split at this
      · rename_i x t qk
        refine ⟨?_, by unfold DictEntry.refKey; rw [qk]⟩
        rw [qk]
        obtain ⟨k, hk, ek⟩ := List.any_eq_true.mp this
        have ek := of_decide_eq_true ek
        rw [Bool.eq_false_iff]
        intro hs
        have : x = tx z := by
          unfold Value.isStr at hs
          simpa using hs
        rw [ek] at this
        exact hz (tx_inj this ▸ hk)
      · cases this
    have e1 : es.toList.find? (·.key.isStr (tx z)) = none := List.find?_eq_none.mpr fun e he => by rw [(key e he).1]; exact Bool.false_ne_true
    have e2 : es.toList.any (·.refKey) = false := List.any_eq_false.mpr fun e he => by rw [(key e he).2]; exact Bool.false_ne_true
    rw [q]
    simp only [e1, e2]
    rfl
  · cases h
def entB (K : PySem.W.Frag) (a : Addr) : List (Nm × D) → Bool
  | [] => true
  | (k, d) :: r => (match PySem.W.nsIn K a (tx k) with
    | some (some u) => valB K d u
    | _ => false) && entB K a r
theorem entB_ok {κ : Kx} {a : Addr} : ∀ {kvs : List (Nm × D)}, entB κ.K a kvs = true → ∀ (as : List Addr) (H : Hp), IsZs κ as H a kvs
  | [], _ => fun _ _ => True.intro
  | (k, d) :: r, h => fun as H => by
    obtain ⟨h1, h2⟩ := ba2 (show ((match PySem.W.nsIn κ.K a (tx k) with
      | some (some u) => valB κ.K d u
      | _ => false) && entB κ.K a r) = true from h)
    refine ⟨?_, entB_ok h2 as H⟩
    cases q : PySem.W.nsIn κ.K a (tx k) with
    | none => rw [q] at h1; cases h1
    | some o =>
      cases o with
      | none => rw [q] at h1; cases h1
      | some u =>
        rw [q] at h1
        obtain ⟨v, k1, k2⟩ := valB_ok h1
        exact ⟨u, v, rfl, k1, k2 as H⟩
def cstB (K : PySem.W.Frag) (x : String) (d : D) : Bool := match d with
  | .kdic kvs => (He.Fa.glo (Str.ofString x)).ok K && (keysB K (He.ga K (Str.ofString x)) (kvs.map (·.1)) && entB K (He.ga K (Str.ofString x)) kvs)
  | d => match PySem.W.nsIn K mainGlobals (Str.ofString x) with
    | some (some u) => valB K d u
    | _ => false
/-- the tables -/
def tabOf (p : String × D) : Option He.Tab := match p.2 with
  | .kdic kvs => some (fun K => He.ga K (Str.ofString p.1), kvs.map fun q => tx q.1)
  | _ => none
def tabT (cs : List (String × D)) : List He.Tab := cs.filterMap tabOf
theorem tab_ok {fa : List He.Fa} {fn : List He.DefD} {w : World} {K : PySem.W.Frag} {cs : List (String × D)} (c : He.SaysT fa fn (tabT cs) w K) {x : String} {kvs : List (Nm × D)} (h : (x, .kdic kvs) ∈ cs) : ∃ es n, KDict K w (He.ga K (Str.ofString x)) es n := by
  have m : ((fun K => He.ga K (Str.ofString x), kvs.map fun q => tx q.1) : He.Tab) ∈ tabT cs := List.mem_filterMap.mpr ⟨_, h, rfl⟩
  obtain ⟨i, hi, e⟩ := List.getElem_of_mem m
  exact He.SaysT.tab c i (by rw [List.getElem?_eq_getElem hi, e])
theorem cst_ok {fa : List He.Fa} {fn : List He.DefD} {w : World} {K : PySem.W.Frag} {h : Heap} {mg : Str → Option Value} (X : K.In h) (G : h.Ns mainGlobals mg) {κ : Kx} (hκ : κ.K = K) (hw : κ.w = w) {cs : List (String × D)} (ct : He.SaysT fa fn (tabT cs) w K) {x : String} {d : D} (hm : (x, d) ∈ cs) (c : cstB K x d = true) :
    ∃ u v, mg (Str.ofString x) = some u ∧ RelV v u ∧ ∀ (as : List Addr) (H : Hp), IsD κ as H d v := by
  subst hκ hw
  have go : ∀ d, (match PySem.W.nsIn κ.K mainGlobals (Str.ofString x) with
    | some (some u) => valB κ.K d u
    | _ => false) = true → ∃ u v, mg (Str.ofString x) = some u ∧ RelV v u ∧ ∀ (as : List Addr) (H : Hp), IsD κ as H d v := fun d c => by
    cases q : PySem.W.nsIn κ.K mainGlobals (Str.ofString x) with
    | none => rw [q] at c; cases c
    | some o =>
      cases o with
      | none => rw [q] at c; cases c
      | some u =>
        rw [q] at c
        obtain ⟨v, k1, k2⟩ := valB_ok c
        exact ⟨u, v, PySem.W.mg_of X G q, k1, k2⟩
  cases d with
  | kdic kvs =>
    obtain ⟨c1, c2⟩ := ba2 (show ((He.Fa.glo (Str.ofString x)).ok κ.K && (keysB κ.K (He.ga κ.K (Str.ofString x)) (kvs.map (·.1)) && entB κ.K (He.ga κ.K (Str.ofString x)) kvs)) = true from c)
    obtain ⟨c2, c3⟩ := ba2 c2
    obtain ⟨es, n, kd⟩ := tab_ok ct hm
    exact ⟨_, .ref _, He.glo_ok X G c1, rfl, fun as H => ⟨_, rfl, ⟨kd.low, keysB_ok c2, es, n, kd⟩, entB_ok c3 as H⟩⟩
  | _ => exact go _ c
/-! ### the law -/
def defE (e : Ent) : He.DefD := ⟨(e.x, none), e.x, e.x, defArgs e.st, defBody e.st, defScope e.st, [], []⟩
def fnT (T : List Ent) : List He.DefD := T.map defE
def faT (T : List Ent) : List He.Fa := T.map (fun e => He.Fa.glo e.x) ++ bltNames.map fun b => He.Fa.free (Str.ofString b)
def exT (cs : List (String × D)) (K : PySem.W.Frag) : Bool := cs.all fun p => cstB K p.1 p.2
theorem only_scr {K : PySem.W.Frag} {H : Hp} {a : Addr} {ns : List Int} {κ : Kx} (hκ : κ.K = K) (hO : Only H) (h : SqL K H a (ns.map V.int)) : IsD κ [] H (.scr ns) (.ref a) := by
  refine ⟨a, rfl, ?_⟩
  rcases h with h | h
  · rcases h with h | ⟨o, h⟩
    · rcases hO a with z | ⟨o, xs, z⟩
      · rw [h] at z; cases z
      · rw [h] at z; cases z
    · exact .inl ⟨o, h⟩
  · rw [hκ]; exact .inr h
/-- the law's def keeps what its little program says -/
theorem law_fn {P : Program} {w : World} {h : Heap} {K : PySem.W.Frag} {mg : Str → Option Value} {T : List Ent} {cs : List (String × D)} {j n : Nat} {e : Ent} {fa : Addr} {x : Str} (hT : chkTab T cs = true) (hj : T[j]? = some e) (hx : (defArgs e.st).args.map (·.arg) = [x]) (X : K.In h) (G : h.Ns mainGlobals mg)
    (c : He.SaysX (faT T) (fnT T) (tabT cs) [] (exT cs) w h K) (hm : mg e.x = some (.ref fa)) :
    ∃ fdd : FuncData, (∀ (s : Shared) (u : Value), BindsTo s fdd ⟨[u], []⟩ [(x, u)]) ∧ ∀ base : Heap, K.In base → base.Ns mainGlobals mg → FnOk P w K mg base (L2.CX P w) n fa fdd [x] (spOf ⟨K, w, fun _ => x⟩ (call (progOf T) n j)) := by
  have glo : ∀ e ∈ T, mg e.x = some (.ref (He.ga K e.x)) := fun e he => He.glo_ok X G (c.t.d.facts (List.mem_append_left _ (List.mem_map.mpr ⟨e, he, rfl⟩)))
  have fun_ : ∀ e ∈ T, ∃ fdd, FunD K e.x e.x (defArgs e.st) (defBody e.st) (defScope e.st) [] [] (He.ga K e.x) fdd := fun e he => c.t.d.defs (d := defE e) (List.mem_map.mpr ⟨e, he, rfl⟩)
  have hb : ∀ x ∈ bltNames, mg (Str.ofString x) = none := fun b hb => He.free_ok X G (c.t.d.facts (List.mem_append_right _ (List.mem_map.mpr ⟨b, hb, rfl⟩)))
  have hF : ∀ e ∈ T, ∃ (a : Addr) (fdd : FuncData), mg e.x = some (.ref a) ∧ PySem.W.keepIn K (.ref a) = true ∧ FunD K e.x e.x (defArgs e.st) (defBody e.st) (defScope e.st) [] [] a fdd := fun e he => by
    obtain ⟨fdd, F⟩ := fun_ e he
    exact ⟨_, fdd, glo e he, F.kp, F⟩
  have hcs : ∀ y d, (y, d) ∈ cs → ∃ u v, mg (Str.ofString y) = some u ∧ RelV v u ∧ ∀ (as : List Addr) (H : Hp), IsD ⟨K, w, fun _ => x⟩ as H d v := fun y d hy => cst_ok X G rfl rfl c.t hy (List.all_eq_true.mp c.more (y, d) hy)
  have he := List.mem_of_getElem? hj
  have g := glo e he
  rw [hm] at g
  cases g
  obtain ⟨fdd, F⟩ := fun_ e he
  have hc := List.all_eq_true.mp hT e he
  have hbi : ∀ (s : Shared) (us : List Value), us.length = ((defArgs e.st).args.map (·.arg)).length → BindsTo s fdd ⟨us, []⟩ (((defArgs e.st).args.map (·.arg)).zip us) := FunD.bindsA F fun kV doc pm an cdv ct us hl => bind_plain (chkF_plain hc) (chkF_nd hc) hl
  rw [hx] at hbi
  refine ⟨fdd, fun s u => hbi s [u] rfl, fun base hKb hNb => ?_⟩
  have := (prog_ok (P := P) (w := w) (base := base) (κ := ⟨K, w, fun _ => x⟩) rfl rfl hT hb hF hcs n j e hj _ fdd (glo e he) F).1
  rw [hx] at this
  exact this
theorem walk_ofEB {l : PySem.W.OpenLaw} {n k : Nat} {q : Program} {loose : List Str} {XP : (Str → Option Value) → Heap → Prop} {YP : World → Heap → Prop} {d : DefRec} {CX : World → CXT} {x : Str}
    (hn : l.most = some n) (hn2 : n ≤ sizeLine) (hdf : d.params.defaults = []) (hr : Room k callerA)
    (F : ∀ (w : World) (mg : Str → Option Value) (fa : Addr) (h : Heap), YP w h → h.Ns mainGlobals mg → mg d.name = some (.ref fa) →
      ∃ (K : PySem.W.Frag) (fd : FuncData) (sp : Sp), K.In h ∧ (∀ (s : Shared) (u : Value), BindsTo s fd ⟨[u], []⟩ [(x, u)]) ∧
        (∀ (H : Hp) (a : Addr) (ns : List Int), ns.length ≤ n → (∀ z ∈ ns, Builtin.Int.intBits z ≤ 1048576) → Only H → SqL K H a (ns.map V.int) → sp [.ref a] H (fun v _ => v = .bl true) fun _ _ _ => False) ∧
        ∀ base : Heap, K.In base → base.Ns mainGlobals mg → FnOk l.prog w K mg base (CX w) k fa fd [x] sp)
    (hCX : ∀ (w : World) (H : Hp) (s : Shared) (e : Value) (s' : Shared), CX w [] H s (fun _ _ _ => False) e s' → False) :
    PySem.W.WalkO q loose XP YP l.row.toRowW d [] (fun f vs => PySem.call f vs) := by
  refine Att.attach_callB hn hdf fun w s₀ s₁ mg mb fa o pm cd doc a vs ns G Y ho hd hcd hmg hobj hints hlen hbits hg => ?_
  obtain ⟨K, fd, sp, KX, hb, hsp, hF⟩ := F w mg fa _ Y G.T.g hmg
  exact law_call KX G.T.g G.T.b G.T.builtins G.T.nolimit hg hobj hints (Nat.le_trans hlen hn2) hr hF hb (fun H hO hS => hsp H a ns hlen hbits hO hS) fun H e s' => hCX w H s₁ e s'
theorem cx_none {P : Program} {w : World} {H : Hp} {s : Shared} {e : Value} {s' : Shared} (h : L2.CX P w [] H s (fun _ _ _ => False) e s') : False := by
  obtain ⟨_, _, _, _, _, _, _, _, _, _, _, _, z⟩ := h
  exact z
/-- a small int of the script -/
theorem bits_lt {z : Int} (h : Builtin.Int.intBits z ≤ 1048576) : z.natAbs < 2 ^ 1048576 := by
  unfold Builtin.Int.intBits at h
  by_cases q : (z == 0) = true
  · have : z = 0 := eq_of_beq q
    rw [this]
    exact Nat.pow_pos (by decide)
  · rw [if_neg q] at h
    have ne : z.natAbs ≠ 0 := fun e => q (by rw [Int.natAbs_eq_zero.mp e]; rfl)
    exact (Nat.log2_lt ne).mp (by omega)
end Ev
set_option maxHeartbeats 4000000
/-! Ev, part 30: to compute with the evaluator. -/
namespace Ev
def progT (tab : List Fd) : Nat → Fd := fun j => match tab[j]? with
  | some f => f
  | none => ⟨0, 0, [], none⟩
/-- what a function's end is -/
def endF : R Fl → R W
  | .ok (.nx _) S => .ok (.d .non) S
  | .ok (.rt w) S => .ok w S
  | .ok (.ex e _) S => .exc e S
  | _ => .bad
section
variable {α β : Type} {S : Sto} {ρ : Env}
@[simp] theorem bind_okE {a : α} {f : α → Sto → R β} : (R.ok a S).bind f = f a S := id rfl
@[simp] theorem bind_excE {e : D} {f : α → Sto → R β} : (R.exc e S).bind f = .exc e S := id rfl
@[simp] theorem bind_badE {f : α → Sto → R β} : (R.bad).bind f = .bad := id rfl
@[simp] theorem lift_okE {a : α} {f : α → Sto → R Fl} : R.lift ρ (R.ok a S) f = f a S := id rfl
@[simp] theorem lift_excE {e : D} {f : α → Sto → R Fl} : R.lift ρ (R.exc e S) f = .ok (.ex e ρ) S := id rfl
@[simp] theorem lift_badE {f : α → Sto → R Fl} : R.lift ρ (R.bad) f = .bad := id rfl
@[simp] theorem nx_nx {f : Env → Sto → R Fl} : (R.ok (Fl.nx ρ) S).nx f = f ρ S := id rfl
@[simp] theorem nx_rt {w : W} {f : Env → Sto → R Fl} : (R.ok (Fl.rt w) S).nx f = .ok (.rt w) S := id rfl
@[simp] theorem nx_bk {f : Env → Sto → R Fl} : (R.ok (Fl.bk ρ) S).nx f = .ok (.bk ρ) S := id rfl
@[simp] theorem nx_ct {f : Env → Sto → R Fl} : (R.ok (Fl.ct ρ) S).nx f = .ok (.ct ρ) S := id rfl
@[simp] theorem nx_ex {e : D} {f : Env → Sto → R Fl} : (R.ok (Fl.ex e ρ) S).nx f = .ok (.ex e ρ) S := id rfl
@[simp] theorem nx_bad {f : Env → Sto → R Fl} : (R.bad : R Fl).nx f = .bad := id rfl
@[simp] theorem loop_nx {f : Env → Sto → R Fl} : (R.ok (Fl.nx ρ) S).loop f = f ρ S := id rfl
@[simp] theorem loop_ct {f : Env → Sto → R Fl} : (R.ok (Fl.ct ρ) S).loop f = f ρ S := id rfl
@[simp] theorem loop_bk {f : Env → Sto → R Fl} : (R.ok (Fl.bk ρ) S).loop f = .ok (.nx ρ) S := id rfl
@[simp] theorem loop_rt {w : W} {f : Env → Sto → R Fl} : (R.ok (Fl.rt w) S).loop f = .ok (.rt w) S := id rfl
@[simp] theorem loop_ex {e : D} {f : Env → Sto → R Fl} : (R.ok (Fl.ex e ρ) S).loop f = .ok (.ex e ρ) S := id rfl
@[simp] theorem loop_bad {f : Env → Sto → R Fl} : (R.bad : R Fl).loop f = .bad := id rfl
@[simp] theorem d_ok {x : D} : (R.ok (W.d x) S).d = .ok x S := id rfl
@[simp] theorem d_own {c : Cell} : (R.ok (W.own c) S).d = .bad := id rfl
@[simp] theorem d_exc {e : D} : (R.exc e S).d = .exc e S := id rfl
@[simp] theorem d_bad : (R.bad).d = .bad := id rfl
@[simp] theorem w_ok {x : D} : (R.ok x S).w = .ok (.d x) S := id rfl
@[simp] theorem w_exc {e : D} : (R.exc e S).w = .exc e S := id rfl
@[simp] theorem w_bad : (R.bad).w = .bad := id rfl
@[simp] theorem t_ok {w : W} : (R.ok w S).t = truD S (w.vw S) := id rfl
@[simp] theorem t_exc {e : D} : (R.exc e S).t = .exc e S := id rfl
@[simp] theorem t_bad : (R.bad).t = .bad := id rfl
@[simp] theorem chk_true {r : R α} : R.chk true r = r := id rfl
@[simp] theorem chk_false {r : R α} : R.chk false r = .bad := id rfl
@[simp] theorem of_some {a : α} : R.of S (some a) = .ok a S := id rfl
@[simp] theorem of_none : R.of S (none : Option α) = .bad := id rfl
@[simp] theorem noexc_ok' {a : α} : (R.ok a S).noexc = .ok a S := id rfl
@[simp] theorem noexc_bad : (R.bad : R α).noexc = .bad := id rfl
@[simp] theorem end_nx : endF (.ok (.nx ρ) S) = .ok (.d .non) S := id rfl
@[simp] theorem end_rt {w : W} : endF (.ok (.rt w) S) = .ok w S := id rfl
@[simp] theorem end_ex {e : D} : endF (.ok (.ex e ρ) S) = .exc e S := id rfl
@[simp] theorem end_bad : endF .bad = .bad := id rfl
@[simp] theorem get_zero {x : Option W} {r : Env} : Env.get (x :: r) 0 = x := id rfl
@[simp] theorem get_succ {x : Option W} {r : Env} {n : Nat} : Env.get (x :: r) (n + 1) = Env.get r n := id rfl
@[simp] theorem put_zero {x : Option W} {r : Env} {d : W} : Env.put (x :: r) 0 d = some d :: r := id rfl
@[simp] theorem put_succ {x : Option W} {r : Env} {n : Nat} {d : W} : Env.put (x :: r) (n + 1) d = x :: Env.put r n d := id rfl
@[simp] theorem del_zero {x : Option W} {r : Env} : Env.del (x :: r) 0 = none :: r := id rfl
@[simp] theorem del_succ {x : Option W} {r : Env} {n : Nat} : Env.del (x :: r) (n + 1) = x :: Env.del r n := id rfl
@[simp] theorem dels_nil : Env.dels ρ [] = ρ := id rfl
@[simp] theorem dels_cons {i : Nat} {is : List Nat} : Env.dels ρ (i :: is) = Env.dels (ρ.del i) is := id rfl
/-! what stands under a test -/
theorem ite_ok {c : Prop} [Decidable c] {a b : α} : (if c then R.ok a S else R.ok b S) = R.ok (if c then a else b) S := by by_cases h : c <;> simp [h]
theorem ite_Wd {c : Prop} [Decidable c] {a b : D} : (if c then W.d a else W.d b) = W.d (if c then a else b) := by by_cases h : c <;> simp [h]
theorem ite_bl {c : Prop} [Decidable c] {a b : Bool} : (if c then D.bl a else D.bl b) = D.bl (if c then a else b) := by by_cases h : c <;> simp [h]
theorem ite_int {c : Prop} [Decidable c] {a b : Int} : (if c then D.int a else D.int b) = D.int (if c then a else b) := by by_cases h : c <;> simp [h]
theorem ite_str {c : Prop} [Decidable c] {a b : Nm} : (if c then D.str a else D.str b) = D.str (if c then a else b) := by by_cases h : c <;> simp [h]
theorem bind_ite {c : Prop} [Decidable c] {a b : R α} {f : α → Sto → R β} : (if c then a else b).bind f = if c then a.bind f else b.bind f := by by_cases h : c <;> simp [h]
theorem lift_ite {c : Prop} [Decidable c] {a b : R α} {f : α → Sto → R Fl} : R.lift ρ (if c then a else b) f = if c then R.lift ρ a f else R.lift ρ b f := by by_cases h : c <;> simp [h]
theorem nx_ite {c : Prop} [Decidable c] {a b : R Fl} {f : Env → Sto → R Fl} : (if c then a else b).nx f = if c then a.nx f else b.nx f := by by_cases h : c <;> simp [h]
theorem loop_ite {c : Prop} [Decidable c] {a b : R Fl} {f : Env → Sto → R Fl} : (if c then a else b).loop f = if c then a.loop f else b.loop f := by by_cases h : c <;> simp [h]
theorem end_ite {c : Prop} [Decidable c] {a b : R Fl} : endF (if c then a else b) = if c then endF a else endF b := by by_cases h : c <;> simp [h]
end
@[simp] theorem vw_int {S : Sto} {i : Int} : vw S (.int i) = .int i := id rfl
@[simp] theorem vw_bl {S : Sto} {i : Bool} : vw S (.bl i) = .bl i := id rfl
@[simp] theorem vw_str {S : Sto} {i : Nm} : vw S (.str i) = .str i := id rfl
@[simp] theorem vw_non {S : Sto} : vw S .non = .non := id rfl
@[simp] theorem vw_tup {S : Sto} {i : List D} : vw S (.tup i) = .tup i := id rfl
@[simp] theorem vw_lst {S : Sto} {i : List D} : vw S (.lst i) = .lst i := id rfl
@[simp] theorem vw_scr {S : Sto} {i : List Int} : vw S (.scr i) = .scr i := id rfl
@[simp] theorem vw_dic {S : Sto} {i : List (Ky × D)} : vw S (.dic i) = .dic i := id rfl
@[simp] theorem Wvw_d {S : Sto} {x : D} : (W.d x).vw S = vw S x := id rfl
@[simp] theorem Wvw_own {S : Sto} {c : Cell} : (W.own c).vw S = c.vw := id rfl
@[simp] theorem cvw_lst {xs : List D} : (Cell.lst xs).vw = .lst xs := id rfl
@[simp] theorem cvw_dct {xs : List (Ky × D)} : (Cell.dct xs).vw = .dic xs := id rfl
theorem vw_ref {S : Sto} {a : Nat} {c : Cell} (h : S[a]? = some c) : vw S (.ref a) = c.vw := by unfold vw; simp only [h]
theorem call_eq {tab : List Fd} {n f : Nat} {ds : List D} {S : Sto} {fd : Fd} (h : tab[f]? = some fd) (hp : ds.length = fd.ps) (hi : fd.ini = none) :
    call (progT tab) (n + 1) f ds S = endF (evSs (call (progT tab) n) fd.body (ds.map (fun d => some (.d d)) ++ List.replicate (fd.nn - ds.length) none) S) := by
  have e : progT tab f = fd := by unfold progT; rw [h]
  show evF (call (progT tab) n) (progT tab f) ds S = _
  rw [e]
  unfold evF
  rw [if_pos hp]
  simp only [hi]
  cases evSs (call (progT tab) n) fd.body (ds.map (fun d => some (.d d)) ++ List.replicate (fd.nn - ds.length) none) S with
  | bad => rfl
  | exc e S1 => rfl
  | ok fl S1 => cases fl <;> rfl
theorem chk_of {α : Type} {b : Bool} {r : R α} (h : b = true) : R.chk b r = r := by rw [h]; rfl
theorem fdvOk_of {j : Int} (h1 : 0 < j) (h2 : j < 1073741824) : fdvOk j = true := by
  unfold fdvOk
  rw [decide_eq_true h1, decide_eq_true h2]
  rfl
theorem szOk_in {n : Nat} (h : n ≤ 16777216) : szOk n = true := decide_eq_true h
/-! ### the evaluator's rows -/
def srcK {β : Type} (o : Option (List D)) (f : List D → R β) : R β := match o with
  | none => .bad
  | some ds => f ds
theorem srcK_some {β : Type} {ds : List D} {f : List D → R β} : srcK (some ds) f = f ds := id rfl
section
variable {Φ : Fn} {ρ : Env} {o : Option W} {S : Sto}
theorem x_nil : evSs Φ [] ρ S = .ok (.nx ρ) S := by rw [evSs]
theorem x_cons {s : St} {ss : List St} : evSs Φ (s :: ss) (o :: ρ) S = (evS Φ s (o :: ρ) S).nx fun ρ1 S1 => evSs Φ ss ρ1 S1 := by rw [evSs]
theorem x_asg {t : Tg} {e : Ex} : evS Φ (.asg t e) (o :: ρ) S = R.lift (o :: ρ) (evW Φ (o :: ρ) e S).d fun d S1 => setT Φ d t (o :: ρ) S1 := by rw [evS] <;> rfl
theorem x_unp {ts : List Tg} {e : Ex} : evS Φ (.unp ts e) (o :: ρ) S = R.lift (o :: ρ) (evW Φ (o :: ρ) e S).d fun d S1 => match d with
    | .tup ds => R.chk (decide (ds.length = ts.length)) (setTs Φ ts ds (o :: ρ) S1)
    | .lst ds => R.chk (decide (ds.length = ts.length)) (setTs Φ ts ds (o :: ρ) S1)
    | _ => .bad := by rw [evS] <;> rfl
theorem x_par {is : List Nat} {es : List Ex} : evS Φ (.par is es) (o :: ρ) S = R.lift (o :: ρ) (evEs Φ (o :: ρ) es S) fun ds S1 => match setAll is ds (o :: ρ) with
    | some ρ' => .ok (.nx ρ') S1
    | none => .bad := by rw [evS] <;> rfl
theorem x_own {i : Nat} {n : Nw} : evS Φ (.own i n) (o :: ρ) S = R.lift (o :: ρ) (evN Φ (o :: ρ) n S) fun c S1 => .ok (.nx (Env.put (o :: ρ) i (.own c))) S1 := by rw [evS]
theorem x_omut {i : Nat} {m : Mu} {es : List Ex} : evS Φ (.omut i m es) (o :: ρ) S = match Env.get (o :: ρ) i with
    | some (.own (.lst xs)) => R.lift (o :: ρ) (evEs Φ (o :: ρ) es S) fun ds S1 => match mutC m (.lst xs) (if m matches .extend then ds.map (vw S1) else ds) with
      | some (c', _) => .ok (.nx (Env.put (o :: ρ) i (.own c'))) S1
      | none => .bad
    | _ => .bad := by cases m <;> rw [evS] <;> first | rfl | (intro z; cases z)
theorem x_fz {i : Nat} : evS Φ (.fz i) (o :: ρ) S = match Env.get (o :: ρ) i with
    | some (.own c) => .ok (.nx (Env.put (o :: ρ) i (.d c.vw))) S
    | some (.d _) => .ok (.nx (o :: ρ)) S
    | none => .bad := by rw [evS] <;> rfl
theorem x_kill {is : List Nat} : evS Φ (.kill is) (o :: ρ) S = .ok (.nx (Env.dels (o :: ρ) is)) S := by rw [evS]
theorem x_exp {e : Ex} : evS Φ (.exp e) (o :: ρ) S = R.lift (o :: ρ) (evW Φ (o :: ρ) e S).d fun _ S1 => .ok (.nx (o :: ρ)) S1 := by rw [evS] <;> rfl
theorem x_ret {e : Ex} : evS Φ (.ret e) (o :: ρ) S = R.lift (o :: ρ) (evW Φ (o :: ρ) e S).d fun d S1 => .ok (.rt (.d d)) S1 := by rw [evS] <;> rfl
theorem x_retN : evS Φ .retN (o :: ρ) S = .ok (.rt (.d .non)) S := by rw [evS]
theorem x_retO {i : Nat} : evS Φ (.retO i) (o :: ρ) S = match Env.get (o :: ρ) i with
    | some (.own c) => .ok (.rt (.own c)) S
    | _ => .bad := by rw [evS] <;> rfl
theorem x_retF {i : Nat} : evS Φ (.retF i) (o :: ρ) S = match Env.get (o :: ρ) i with
    | some (.own c) => .ok (.rt (.d c.vw)) S
    | some (.d x) => .ok (.rt (.d x)) S
    | none => .bad := by rw [evS] <;> rfl
theorem x_retW {n : Nw} : evS Φ (.retW n) (o :: ρ) S = R.lift (o :: ρ) (evN Φ (o :: ρ) n S) fun c S1 => .ok (.rt (.own c)) S1 := by rw [evS]
theorem x_ifS {c : Ex} {a b : List St} : evS Φ (.ifS c a b) (o :: ρ) S = R.lift (o :: ρ) (evW Φ (o :: ρ) c S).t fun r S1 => if r = true then evSs Φ a (o :: ρ) S1 else evSs Φ b (o :: ρ) S1 := by rw [evS] <;> rfl
/-- a while loop -/
noncomputable def runW (Φ : Fn) (c : Ex) (a : List St) (ρ : Env) (S : Sto) : R Fl := whl (fun ρ1 S1 => evT Φ ρ1 c S1) (fun ρ1 S1 => evSs Φ a ρ1 S1) ρ S
/-- a for loop over these -/
noncomputable def runF (Φ : Fn) (tg : List Nat) (a : List St) (g : Sto → Prop) (ds : List D) (ρ : Env) (S : Sto) : R Fl := forGo (fun d ρ => setTg tg d ρ) (fun ρ1 S1 => evSs Φ a ρ1 S1) g ds ρ S
theorem x_whl {c : Ex} {a : List St} : evS Φ (.whl c a) (o :: ρ) S = runW Φ c a (o :: ρ) S := by rw [evS] <;> rfl
theorem x_forS {tg : List Nat} {k : Sk} {src : List Ex} {a : List St} : evS Φ (.forS tg k src a) (o :: ρ) S = R.lift (o :: ρ) (evWs Φ (o :: ρ) src S) fun ws S1 => if allD ws = true then (srcK (srcD k ws S1) fun ds => runF Φ tg a (srcG ws S1) ds (o :: ρ) S1) else .bad := by rw [evS] <;> rfl
theorem x_pass : evS Φ .pass (o :: ρ) S = .ok (.nx (o :: ρ)) S := by rw [evS]
theorem x_brk : evS Φ .brk (o :: ρ) S = .ok (.bk (o :: ρ)) S := by rw [evS]
theorem x_cnt : evS Φ .cnt (o :: ρ) S = .ok (.ct (o :: ρ)) S := by rw [evS]
theorem t_nm {d : D} {i : Nat} : setT Φ d (.nm i) (o :: ρ) S = .ok (.nx (Env.put (o :: ρ) i (.d d))) S := id rfl
theorem t_sub {d : D} {a i : Ex} : setT Φ d (.sub a i) (o :: ρ) S = R.lift (o :: ρ) (evW Φ (o :: ρ) a S).d fun x S1 => R.lift (o :: ρ) (evW Φ (o :: ρ) i S1).d fun y S2 => R.lift (o :: ρ) (mutS .set x [y, d] S2) fun _ S3 => .ok (.nx (o :: ρ)) S3 := id rfl
theorem t_osub {d : D} {j : Nat} {i : Ex} : setT Φ d (.osub j i) (o :: ρ) S = match Env.get (o :: ρ) j with
    | some (.own c) => R.lift (o :: ρ) (evW Φ (o :: ρ) i S).d fun y S1 => match mutC .set c [y, d] with
      | some (c', _) => .ok (.nx (Env.put (o :: ρ) j (.own c'))) S1
      | none => .bad
    | _ => .bad := rfl
theorem t_nil : setTs Φ [] [] ρ S = .ok (.nx ρ) S := id rfl
theorem t_cons {t : Tg} {ts : List Tg} {d : D} {ds : List D} : setTs Φ (t :: ts) (d :: ds) (o :: ρ) S = (setT Φ d t (o :: ρ) S).nx fun ρ1 S1 => setTs Φ ts ds ρ1 S1 := id rfl
theorem sa_nil : setAll [] [] ρ = some ρ := id rfl
theorem sa_cons {i : Nat} {is : List Nat} {d : D} {ds : List D} : setAll (i :: is) (d :: ds) ρ = setAll is ds (ρ.put i (.d d)) := id rfl
theorem sg_one {i : Nat} {d : D} : setTg [i] d ρ = some (ρ.put i (.d d)) := id rfl
theorem sg_many {i j : Nat} {is : List Nat} {ds : List D} : setTg (i :: j :: is) (.tup ds) ρ = setAll (i :: j :: is) ds ρ := id rfl
/-! expressions -/
theorem e_var {i : Nat} : evW Φ ρ (.var i) S = R.of S (ρ.get i) := by rw [evW]
theorem e_cst {d : D} : evW Φ ρ (.cst d) S = .ok (.d d) S := by rw [evW]
theorem e_glo {x : String} {d : D} : evW Φ ρ (.glo x d) S = .ok (.d d) S := by rw [evW]
theorem e_bin {p : Bop} {a b : Ex} : evW Φ ρ (.bin p a b) S = (evW Φ ρ a S).bind fun x S1 => (evW Φ ρ b S1).bind fun y S2 => (binD p (x.vw S2) (y.vw S2) S2).w := by rw [evW]
theorem e_neg {a : Ex} : evW Φ ρ (.neg a) S = (evW Φ ρ a S).d.bind fun x S1 => match x with
    | .int i => .ok (.d (.int (-i))) S1
    | _ => .bad := by rw [evW] <;> rfl
theorem e_cmp {p : Cop} {a b : Ex} : evW Φ ρ (.cmp p a b) S = (evW Φ ρ a S).bind fun x S1 => (evW Φ ρ b S1).bind fun y S2 => (cmpD p (x.vw S2) (y.vw S2) S2).bind fun r S3 => .ok (.d (.bl r)) S3 := by rw [evW]
theorem e_chn {p p' : Cop} {a b c : Ex} : evW Φ ρ (.chn p p' a b c) S = (evW Φ ρ a S).bind fun x S1 => (evW Φ ρ b S1).bind fun y S2 => (cmpD p (x.vw S2) (y.vw S2) S2).bind fun r S3 =>
      if r = true then (evW Φ ρ c S3).bind fun z S4 => (cmpD p' (y.vw S4) (z.vw S4) S4).bind fun r S5 => .ok (.d (.bl r)) S5 else .ok (.d (.bl false)) S3 := by rw [evW]
theorem e_bop {b : Bool} {es : List Ex} : evW Φ ρ (.bop b es) S = evB Φ ρ b es S := by rw [evW]
theorem e_not {a : Ex} : evW Φ ρ (.not a) S = (evW Φ ρ a S).t.bind fun b S1 => .ok (.d (.bl !b)) S1 := by rw [evW]
theorem e_ife {c a b : Ex} : evW Φ ρ (.ife c a b) S = (evW Φ ρ c S).t.bind fun r S1 => if r = true then (evW Φ ρ a S1).d.w else (evW Φ ρ b S1).d.w := by rw [evW]
theorem e_tup {es : List Ex} : evW Φ ρ (.tup es) S = (evEs Φ ρ es S).bind fun ds S1 => .ok (.d (.tup ds)) S1 := by rw [evW]
theorem e_idx {a i : Ex} : evW Φ ρ (.idx a i) S = (evW Φ ρ a S).bind fun x S1 => (evW Φ ρ i S1).d.bind fun y S2 => (idxD (x.vw S2) y S2).w := by rw [evW]
theorem e_slc {a : Ex} {lo hi : List Ex} : evW Φ ρ (.slc a lo hi) S = (evW Φ ρ a S).bind fun x S1 => ((evEs Φ ρ lo S1).bind fun l S2 => R.of S2 (partD l)).bind fun l S2 => ((evEs Φ ρ hi S2).bind fun u S3 => R.of S3 (partD u)).bind fun u S3 => (slcD (x.vw S3) l u S3).w := by rw [evW]
theorem e_call {f : Nat} {es : List Ex} : evW Φ ρ (.call f es) S = (evEs Φ ρ es S).bind fun ds S1 => (Φ f ds S1).d.w := by rw [evW]
theorem e_blt {b : Blt} {es : List Ex} : evW Φ ρ (.blt b es) S = (evWs Φ ρ es S).bind fun ws S1 => (bltD b (ws.map (W.vw S1)) S1).w := by rw [evW]
theorem e_mth {m : Mth} {a : Ex} {es : List Ex} : evW Φ ρ (.mth m a es) S = (evW Φ ρ a S).bind fun x S1 => R.chk (rcv m (x.vw S1)) ((evEs Φ ρ es S1).bind fun ds S2 => (mthD m (x.vw S2) ds S2).w) := by rw [evW]
theorem e_join {a b : Ex} : evW Φ ρ (.join a b) S = (evW Φ ρ a S).d.bind fun x S1 => match x with
    | .str s => (evW Φ ρ b S1).bind fun y S2 => (joinD s (y.vw S2) S2).w
    | _ => .bad := by rw [evW] <;> rfl
theorem e_mut {m : Mu} {a : Ex} {es : List Ex} : evW Φ ρ (.mut m a es) S = (evW Φ ρ a S).d.bind fun x S1 => (evEs Φ ρ es S1).bind fun ds S2 => (mutS m x ds S2).w := by rw [evW]
theorem e_isi {a : Ex} {cs : List String} : evW Φ ρ (.isi a cs) S = (evW Φ ρ a S).bind fun x S1 => R.chk (isiOk (x.vw S1)) (.ok (.d (.bl (cs.any (isiD (x.vw S1))))) S1) := by rw [evW]
theorem e_frz {n : Nw} : evW Φ ρ (.frz n) S = (evN Φ ρ n S).bind fun c S1 => .ok (.d c.vw) S1 := by rw [evW]
theorem e_cel {n : Nw} : evW Φ ρ (.cel n) S = (evN Φ ρ n S).bind fun c S1 => .ok (.d (.ref S1.length)) (S1 ++ [c]) := by rw [evW]
theorem es0 : evEs Φ ρ [] S = .ok [] S := by rw [evEs]
theorem es1 {e : Ex} {es : List Ex} : evEs Φ ρ (e :: es) S = (evW Φ ρ e S).d.bind fun d S1 => (evEs Φ ρ es S1).bind fun ds S2 => .ok (d :: ds) S2 := by rw [evEs]
theorem ws0 : evWs Φ ρ [] S = .ok [] S := by rw [evWs]
theorem ws1 {e : Ex} {es : List Ex} : evWs Φ ρ (e :: es) S = (evW Φ ρ e S).bind fun d S1 => (evWs Φ ρ es S1).bind fun ds S2 => .ok (d :: ds) S2 := by rw [evWs]
theorem eb1 {b : Bool} {e : Ex} : evB Φ ρ b [e] S = (evW Φ ρ e S).d.w := by rw [evB]
theorem eb2 {b : Bool} {e e2 : Ex} {es : List Ex} : evB Φ ρ b (e :: e2 :: es) S = (evW Φ ρ e S).d.bind fun x S1 => (truD S1 (vw S1 x)).bind fun r S2 => if r = b then evB Φ ρ b (e2 :: es) S2 else .ok (.d x) S2 := by rw [evB]
theorem n_lst {es : List Ex} : evN Φ ρ (.lst es) S = (evEs Φ ρ es S).bind fun ds S1 => .ok (.lst ds) S1 := by rw [evN]
theorem n_dic {es : List Ex} : evN Φ ρ (.dic es) S = (evEs Φ ρ es S).bind fun ds S1 => match pairUp ds with
    | some kvs => .ok (.dct (mergeK [] kvs)) S1
    | none => .bad := by rw [evN] <;> rfl
/-- a comprehension over these -/
noncomputable def runC (Φ : Fn) (tg : List Nat) (cond : List Ex) (elt : Ex) (g : Sto → Prop) (ds : List D) (ρ : Env) (S : Sto) : R (List D) :=
  lcGo (fun d S => (R.of S (setTg tg d (ρ.dels tg))).bind fun ρ' S => (evC Φ ρ' cond S).bind fun b S1 => if b = true then (evW Φ ρ' elt S1).d.bind fun x S2 => .ok (some x) S2 else .ok none S1) g ds S
theorem n_comp {tg : List Nat} {k : Sk} {src cond : List Ex} {elt : Ex} : evN Φ ρ (.comp tg k src cond elt) S = (evWs Φ ρ src S).bind fun xs S1 => srcK (srcD k xs S1) fun ds => (runC Φ tg cond elt (srcG xs S1) ds ρ S1).noexc.bind fun r S2 => .ok (.lst r) S2 := by rw [evN] <;> rfl
theorem n_cat {a b : Ex} : evN Φ ρ (.cat a b) S = (evW Φ ρ a S).bind fun x S1 => (evW Φ ρ b S1).bind fun y S2 => match x.vw S2, y.vw S2 with
    | .lst xs, .lst ys => R.chk (szOk (xs.length + ys.length)) (.ok (.lst (xs ++ ys)) S2)
    | _, _ => .bad := by rw [evN] <;> rfl
theorem n_rep {a b : Ex} : evN Φ ρ (.rep a b) S = (evW Φ ρ a S).bind fun x S1 => (evW Φ ρ b S1).d.bind fun y S2 => match x.vw S2, y with
    | .lst xs, .int j => R.chk (repOk xs.length j) (.ok (.lst (List.replicate j.toNat xs).flatten) S2)
    | _, _ => .bad := by rw [evN] <;> rfl
theorem n_slc {a : Ex} {lo hi : List Ex} : evN Φ ρ (.slc a lo hi) S = (evW Φ ρ a S).bind fun x S1 => ((evEs Φ ρ lo S1).bind fun l S2 => R.of S2 (partD l)).bind fun l S2 => ((evEs Φ ρ hi S2).bind fun u S3 => R.of S3 (partD u)).bind fun u S3 => match x.vw S3 with
    | .lst xs => .ok (.lst (cutL xs l u)) S3
    | .scr ns => .ok (.lst ((cutL ns l u).map .int)) S3
    | _ => .bad := by rw [evN] <;> rfl
theorem n_list {a : Ex} : evN Φ ρ (.list a) S = (evW Φ ρ a S).bind fun x S1 => (R.of S1 (itemsD (x.vw S1))).bind fun xs S1 => .ok (.lst xs) S1 := by rw [evN]
theorem n_call {f : Nat} {es : List Ex} : evN Φ ρ (.call f es) S = (evEs Φ ρ es S).bind fun ds S1 => (Φ f ds S1).bind wC := by rw [evN]
theorem wC_own {c : Cell} : wC (.own c) S = .ok c S := id rfl
theorem c_nil : evC Φ ρ [] S = .ok true S := by rw [evC]
theorem c_one {c : Ex} : evC Φ ρ [c] S = (evW Φ ρ c S).t := by rw [evC]
end
section
variable {S : Sto}
theorem b_add {i j : Int} : binD .add (.int i) (.int j) S = .ok (.int (i + j)) S := id rfl
theorem b_sub {i j : Int} : binD .sub (.int i) (.int j) S = .ok (.int (i - j)) S := id rfl
theorem b_mul {i j : Int} : binD .mul (.int i) (.int j) S = R.chk (mulOk i j) (.ok (.int (i * j)) S) := id rfl
theorem b_fdv {i j : Int} : binD .fdv (.int i) (.int j) S = R.chk (fdvOk j) (.ok (.int (i / j)) S) := id rfl
theorem b_mod {i j : Int} : binD .mod (.int i) (.int j) S = R.chk (decide (0 < j)) (.ok (.int (i % j)) S) := id rfl
theorem b_pow {i j : Int} : binD .pow (.int i) (.int j) S = R.chk (powOk i j) (.ok (.int (i ^ j.toNat)) S) := id rfl
theorem b_adds {i j : Nm} : binD .add (.str i) (.str j) S = R.chk (szOk (i.length + j.length)) (.ok (.str (i ++ j)) S) := id rfl
theorem b_addt {i j : List D} : binD .add (.tup i) (.tup j) S = R.chk (szOk (i.length + j.length)) (.ok (.tup (i ++ j)) S) := id rfl
theorem o_eqi {i j : Int} : cmpD .eq (.int i) (.int j) S = .ok (i == j) S := id rfl
theorem o_nei {i j : Int} : cmpD .ne (.int i) (.int j) S = .ok (!(i == j)) S := id rfl
theorem o_lti {i j : Int} : cmpD .lt (.int i) (.int j) S = .ok (decide (i < j)) S := id rfl
theorem o_lei {i j : Int} : cmpD .le (.int i) (.int j) S = .ok (decide (i ≤ j)) S := id rfl
theorem o_gti {i j : Int} : cmpD .gt (.int i) (.int j) S = .ok (decide (j < i)) S := id rfl
theorem o_gei {i j : Int} : cmpD .ge (.int i) (.int j) S = .ok (decide (j ≤ i)) S := id rfl
theorem o_eqs {i j : Nm} : cmpD .eq (.str i) (.str j) S = .ok (i == j) S := id rfl
theorem o_nes {i j : Nm} : cmpD .ne (.str i) (.str j) S = .ok (!(i == j)) S := id rfl
theorem tr_bl {b : Bool} : truD S (.bl b) = .ok b S := id rfl
theorem tr_int {i : Int} : truD S (.int i) = .ok (i != 0) S := id rfl
theorem tr_lst {xs : List D} : truD S (.lst xs) = .ok (!xs.isEmpty) S := id rfl
theorem tr_tup {xs : List D} : truD S (.tup xs) = .ok (!xs.isEmpty) S := id rfl
theorem i_lst {xs : List D} {i : Int} : idxD (.lst xs) (.int i) S = R.of S (atI xs i) := id rfl
theorem i_tup {xs : List D} {i : Int} : idxD (.tup xs) (.int i) S = R.of S (atI xs i) := id rfl
theorem i_scr {xs : List Int} {i : Int} : idxD (.scr xs) (.int i) S = R.of S ((atI xs i).map .int) := id rfl
theorem i_str {xs : Nm} {i : Int} : idxD (.str xs) (.int i) S = R.of S ((atI xs i).map fun c => .str [c]) := id rfl
theorem i_dics {xs : List (Ky × D)} {i : Nm} : idxD (.dic xs) (.str i) S = R.of S (lookK xs (.inr i)) := id rfl
theorem l1 {b : Blt} {x : D} : bltD b [x] S = blt1 b x S := id rfl
theorem l2 {b : Blt} {x y : D} : bltD b [x, y] S = blt2 b x y S := id rfl
theorem l_lenl {xs : List D} : blt1 .len (.lst xs) S = .ok (.int xs.length) S := id rfl
theorem l_lent {xs : List D} : blt1 .len (.tup xs) S = .ok (.int xs.length) S := id rfl
theorem l_lenc {xs : List Int} : blt1 .len (.scr xs) S = .ok (.int xs.length) S := id rfl
theorem l_lens {xs : Nm} : blt1 .len (.str xs) S = .ok (.int xs.length) S := id rfl
theorem l_inti {i : Int} : blt1 .int (.int i) S = .ok (.int i) S := id rfl
theorem l_intb {b : Bool} : blt1 .int (.bl b) S = .ok (.int (if b then 1 else 0)) S := id rfl
theorem l_min {i j : Int} : blt2 .min (.int i) (.int j) S = .ok (.int (if j < i then j else i)) S := id rfl
theorem l_max {i j : Int} : blt2 .max (.int i) (.int j) S = .ok (.int (if i < j then j else i)) S := id rfl
theorem l_dm {i j : Int} : blt2 .divmod (.int i) (.int j) S = R.chk (fdvOk j) (.ok (.tup [.int (i / j), .int (i % j)]) S) := id rfl
theorem l_sum {x : D} : blt1 .sum x S = R.of S (((listD x).bind toInts).map fun ns => .int ns.sum) := id rfl
end
/-! loops -/
theorem runF_nil {Φ : Fn} {tg : List Nat} {a : List St} {g : Sto → Prop} {ρ : Env} {S : Sto} : runF Φ tg a g [] ρ S = .ok (.nx ρ) S := id rfl
open Classical in
theorem runF_cons {Φ : Fn} {tg : List Nat} {a : List St} {g : Sto → Prop} {d : D} {ds : List D} {ρ : Env} {S : Sto} : runF Φ tg a g (d :: ds) ρ S = match setTg tg d ρ with
    | none => .bad
    | some ρ1 => (evSs Φ a ρ1 S).loop fun ρ2 S2 => if g S2 then runF Φ tg a g ds ρ2 S2 else .bad := rfl
theorem runC_nil {Φ : Fn} {tg : List Nat} {c : List Ex} {e : Ex} {g : Sto → Prop} {ρ : Env} {S : Sto} : runC Φ tg c e g [] ρ S = .ok [] S := id rfl
open Classical in
theorem runC_cons {Φ : Fn} {tg : List Nat} {c : List Ex} {e : Ex} {g : Sto → Prop} {d : D} {ds : List D} {ρ : Env} {S : Sto} : runC Φ tg c e g (d :: ds) ρ S = ((R.of S (setTg tg d (ρ.dels tg))).bind fun ρ' S => (evC Φ ρ' c S).bind fun b S1 => if b = true then (evW Φ ρ' e S1).d.bind fun x S2 => .ok (some x) S2 else .ok none S1).bind fun r S1 => if g S1 then (runC Φ tg c e g ds ρ S1).bind fun ys S2 => .ok (r.toList ++ ys) S2 else .bad := id rfl
/-- a comprehension without a test that leaves the store -/
theorem runC_map {Φ : Fn} {tg : List Nat} {e : Ex} {g : Sto → Prop} {ρ : Env} {S : Sto} {f : D → D} (hg : g S) : ∀ {ds : List D}, (∀ d ∈ ds, ∃ ρ', setTg tg d (ρ.dels tg) = some ρ' ∧ evW Φ ρ' e S = .ok (.d (f d)) S) → runC Φ tg [] e g ds ρ S = .ok (ds.map f) S
  | [], _ => rfl
  | d :: ds, h => by
    obtain ⟨ρ', h1, h2⟩ := h d List.mem_cons_self
    rw [runC_cons, h1]
    simp only [of_some, bind_okE, c_nil, if_true, h2, d_ok]
    rw [if_pos hg, runC_map hg fun x hx => h x (List.mem_cons_of_mem _ hx)]
    rfl
theorem srcG_refl {ws : List W} {S : Sto} : srcG ws S S := fun x _ => by
  cases x with
  | d x => cases x <;> trivial
  | own c => trivial
/-- one turn of a while loop -/
theorem whl_of {test : Env → Sto → R Bool} {body : Env → Sto → R Fl} {ρ : Env} {S : Sto} {n : Nat} (h : whlN test body n ρ S ≠ .bad) : whl test body ρ S = whlN test body n ρ S := by
  have mono : ∀ (k : Nat) (ρ : Env) (S : Sto), whlN test body k ρ S ≠ .bad → whlN test body (k + 1) ρ S = whlN test body k ρ S := by
    intro k
    induction k with
    | zero => intro ρ S h; exact absurd rfl h
    | succ k ih =>
      intro ρ S h
      unfold whlN at h ⊢
      cases q : test ρ S with
      | bad => rfl
      | exc e S1 => rfl
      | ok b S1 =>
        rw [q] at h
        simp only [lift_okE] at h ⊢
        cases b with
        | false => rfl
        | true =>
          simp only [if_true] at h ⊢
          cases r : body ρ S1 with
          | bad => rfl
          | exc e S2 => rfl
          | ok f S2 =>
            rw [r] at h
            cases f with
            | nx ρ2 => exact ih ρ2 S2 h
            | ct ρ2 => exact ih ρ2 S2 h
            | bk ρ2 => rfl
            | rt w => rfl
            | ex e ρ2 => rfl
  have up : ∀ j k, whlN test body k ρ S ≠ .bad → whlN test body (k + j) ρ S = whlN test body k ρ S := by
    intro j
    induction j with
    | zero => intro k _; rfl
    | succ j ih =>
      intro k hk
      have e := ih k hk
      have : whlN test body (k + j + 1) ρ S = whlN test body (k + j) ρ S := mono _ _ _ (by rw [e]; exact hk)
      exact this.trans e
  unfold whl
  have ex : ∃ n, whlN test body n ρ S ≠ .bad := ⟨n, h⟩
  rw [dif_pos ex]
  have h2 := Classical.choose_spec ex
  generalize Classical.choose ex = m at h2 ⊢
  rcases Nat.le_total n m with z | z
  · obtain ⟨j, rfl⟩ := Nat.exists_eq_add_of_le z
    exact up j n h
  · obtain ⟨j, rfl⟩ := Nat.exists_eq_add_of_le z
    exact (up j m h2).symm
theorem log_small {n k : Nat} (hk : 0 < k) (h : n < 2 ^ k) : n.log2 < k := by
  by_cases z : n = 0
  · rw [z]; exact hk
  · exact (Nat.log2_lt z).mpr h
theorem mulOk_bits {i j : Int} (h1 : i.natAbs < 2 ^ 2000000) (h2 : j.natAbs < 2 ^ 2000000) : mulOk i j = true := by
  unfold mulOk
  have a := log_small (by decide) h1
  have b := log_small (by decide) h2
  rw [decide_eq_true (show i.natAbs.log2 < 30000000 by omega), decide_eq_true (show j.natAbs.log2 < 30000000 by omega)]
  rfl
theorem mulOk_small {i j : Int} (h1 : -(10 ^ 60) ≤ i) (h2 : i ≤ 10 ^ 60) (h3 : -(10 ^ 60) ≤ j) (h4 : j ≤ 10 ^ 60) : mulOk i j = true := by
  unfold mulOk
  have p : (2 : Nat) ^ 200 > 10 ^ 60 := by decide
  have a := log_small (n := i.natAbs) (k := 200) (by decide) (by omega)
  have b := log_small (n := j.natAbs) (k := 200) (by decide) (by omega)
  rw [decide_eq_true (show i.natAbs.log2 < 30000000 by omega), decide_eq_true (show j.natAbs.log2 < 30000000 by omega)]
  rfl
theorem src_rng2 {m n : Int} {S : Sto} (h : rngOk m n = true) : srcD .range [.d (.int m), .d (.int n)] S = some (rngD m n) := by
  show (if rngOk m n = true then _ else _) = _
  rw [if_pos h]
theorem src_rng1 {n : Int} {S : Sto} (h : rngOk 0 n = true) : srcD .range [.d (.int n)] S = some (rngD 0 n) := by
  show (if rngOk 0 n = true then _ else _) = _
  rw [if_pos h]
theorem rngOk_in {m n : Int} (h1 : -1000000000 ≤ m) (h2 : m ≤ 1000000000) (h3 : -1000000000 ≤ n) (h4 : n ≤ 1000000000) (h5 : n - m < 16777216) : rngOk m n = true := by
  unfold rngOk
  simp only [Bool.and_eq_true, decide_eq_true_eq]
  omega
theorem toInts_map {α : Type} (f : α → Int) : ∀ l : List α, toInts (l.map fun x => D.int (f x)) = some (l.map f)
  | [] => rfl
  | a :: l => by
    show (toInts (l.map fun x => D.int (f x))).map (f a :: ·) = _
    rw [toInts_map f l]
    rfl
theorem listD_lst {xs : List D} : listD (.lst xs) = some xs := id rfl
theorem runC_rng {Φ : Fn} {tg : List Nat} {e : Ex} {g : Sto → Prop} {ρ : Env} {S : Sto} {f : Int → D} {a b : Int} (hg : g S) (h : ∀ i : Int, a ≤ i → i < b → ∃ ρ', setTg tg (.int i) (ρ.dels tg) = some ρ' ∧ evW Φ ρ' e S = .ok (.d (f i)) S) :
    runC Φ tg [] e g (rngD a b) ρ S = .ok ((List.range (b - a).toNat).map fun (k : Nat) => f (a + (k : Int))) S := by
  have := runC_map (Φ := Φ) (tg := tg) (e := e) (g := g) (ρ := ρ) (S := S) (f := fun d => match d with
    | .int i => f i
    | d => d) hg (ds := rngD a b) (fun d hd => by
      obtain ⟨k, hk, rfl⟩ := List.mem_map.mp hd
      have := List.mem_range.mp hk
      exact h (a + (k : Int)) (by omega) (by omega))
  rw [this]
  unfold rngD
  rw [List.map_map]
  rfl
theorem whlN_succ {test : Env → Sto → R Bool} {body : Env → Sto → R Fl} {k : Nat} {ρ : Env} {S : Sto} : whlN test body (k + 1) ρ S = R.lift ρ (test ρ S) fun b S1 => if b = true then (body ρ S1).loop (whlN test body k) else .ok (.nx ρ) S1 := id rfl
theorem x_T {Φ : Fn} {ρ : Env} {c : Ex} {S : Sto} : evT Φ ρ c S = (evW Φ ρ c S).t := id rfl
theorem runW_of {Φ : Fn} {c : Ex} {a : List St} {ρ ρ' : Env} {S S' : Sto} (k : Nat) (h : whlN (fun ρ1 S1 => evT Φ ρ1 c S1) (fun ρ1 S1 => evSs Φ a ρ1 S1) k ρ S = .ok (.nx ρ') S') : runW Φ c a ρ S = .ok (.nx ρ') S' := by
  unfold runW
  rw [whl_of (n := k) (by rw [h]; simp), h]
theorem atI_in {α : Type} {xs : List α} {i : Int} (h1 : 0 ≤ i) : atI xs i = xs[i.toNat]? := by unfold atI; rw [if_pos h1]
end Ev
set_option maxHeartbeats 4000000
/-! Ev, part 31: more to compute with. -/
namespace Ev
theorem vw_isi {S : Sto} {x : D} (h : isiOk x = true) : vw S x = x := by
  cases x <;> first | rfl | cases h
mutual
/-- data without cells, objects and the like -/
def clD : D → Bool
  | .non => true
  | .bl _ => true
  | .int _ => true
  | .str _ => true
  | .dic _ => true
  | .tup xs => clDs xs
  | .lst xs => clDs xs
  | _ => false
def clDs : List D → Bool
  | [] => true
  | x :: xs => clD x && clDs xs
end
theorem clD_isi {x : D} (h : clD x = true) : isiOk x = true := by
  cases x <;> first | rfl | cases h
theorem clDs_cons {x : D} {xs : List D} (h : clDs (x :: xs) = true) : clD x = true ∧ clDs xs = true := by
  have h : (clD x && clDs xs) = true := h
  simpa using h
theorem clD_vw {S : Sto} {x : D} (h : clD x = true) : vw S x = x := vw_isi (clD_isi h)
theorem clDs_get : ∀ {xs : List D} {i : Nat} {x : D}, clDs xs = true → xs[i]? = some x → clD x = true
  | [], _, _, _, h => by simp at h
  | y :: ys, 0, x, h, e => by simp at e; subst e; exact (clDs_cons h).1
  | y :: ys, i + 1, x, h, e => clDs_get (clDs_cons h).2 (by simpa using e)
theorem sub_one {c : Nat} {b : Nm} : subS [c] b = decide (c ∈ b) := by
  unfold subS
  have := PySem.StrLaws.found_one ⟨b.toArray⟩ c
  have e : (⟨b.toArray⟩ : PySem.Str).length = b.length := by show b.toArray.size = b.length; simp
  rw [e] at this
  rw [show (⟨[c].toArray⟩ : PySem.Str) = ⟨#[c]⟩ from rfl, this]
theorem toBools_map {α : Type} (f : α → Bool) : ∀ l : List α, toBools (l.map fun x => D.bl (f x)) = some (l.map f)
  | [] => rfl
  | a :: l => by
    show (toBools (l.map fun x => D.bl (f x))).map (f a :: ·) = _
    rw [toBools_map f l]
    rfl
theorem toStrs_map {α : Type} (f : α → Nm) : ∀ l : List α, toStrs (l.map fun x => D.str (f x)) = some (l.map f)
  | [] => rfl
  | a :: l => by
    show (toStrs (l.map fun x => D.str (f x))).map (f a :: ·) = _
    rw [toStrs_map f l]
    rfl
theorem q_nn   : eqv (.non) (.non) = true := id rfl
theorem q_nb  {b : Bool} : eqv (.non) (.bl b) = false := id rfl
theorem q_ni  {b : Int} : eqv (.non) (.int b) = false := id rfl
theorem q_ns  {b : Nm} : eqv (.non) (.str b) = false := id rfl
theorem q_nt  {b : List D} : eqv (.non) (.tup b) = false := id rfl
theorem q_nl  {b : List D} : eqv (.non) (.lst b) = false := id rfl
theorem q_nd  {b : List (Ky × D)} : eqv (.non) (.dic b) = false := id rfl
theorem q_bn {a : Bool}  : eqv (.bl a) (.non) = false := id rfl
theorem q_bb {a : Bool} {b : Bool} : eqv (.bl a) (.bl b) = (a == b) := id rfl
theorem q_bi {a : Bool} {b : Int} : eqv (.bl a) (.int b) = ((if a then 1 else 0) == b) := id rfl
theorem q_bs {a : Bool} {b : Nm} : eqv (.bl a) (.str b) = false := id rfl
theorem q_bt {a : Bool} {b : List D} : eqv (.bl a) (.tup b) = false := id rfl
theorem q_bl {a : Bool} {b : List D} : eqv (.bl a) (.lst b) = false := id rfl
theorem q_bd {a : Bool} {b : List (Ky × D)} : eqv (.bl a) (.dic b) = false := id rfl
theorem q_in {a : Int}  : eqv (.int a) (.non) = false := id rfl
theorem q_ib {a : Int} {b : Bool} : eqv (.int a) (.bl b) = (a == (if b then 1 else 0)) := id rfl
theorem q_ii {a : Int} {b : Int} : eqv (.int a) (.int b) = (a == b) := id rfl
theorem q_is {a : Int} {b : Nm} : eqv (.int a) (.str b) = false := id rfl
theorem q_it {a : Int} {b : List D} : eqv (.int a) (.tup b) = false := id rfl
theorem q_il {a : Int} {b : List D} : eqv (.int a) (.lst b) = false := id rfl
theorem q_id {a : Int} {b : List (Ky × D)} : eqv (.int a) (.dic b) = false := id rfl
theorem q_sn {a : Nm}  : eqv (.str a) (.non) = false := id rfl
theorem q_sb {a : Nm} {b : Bool} : eqv (.str a) (.bl b) = false := id rfl
theorem q_si {a : Nm} {b : Int} : eqv (.str a) (.int b) = false := id rfl
theorem q_ss {a : Nm} {b : Nm} : eqv (.str a) (.str b) = (a == b) := id rfl
theorem q_st {a : Nm} {b : List D} : eqv (.str a) (.tup b) = false := id rfl
theorem q_sl {a : Nm} {b : List D} : eqv (.str a) (.lst b) = false := id rfl
theorem q_sd {a : Nm} {b : List (Ky × D)} : eqv (.str a) (.dic b) = false := id rfl
theorem q_tn {a : List D}  : eqv (.tup a) (.non) = false := id rfl
theorem q_tb {a : List D} {b : Bool} : eqv (.tup a) (.bl b) = false := id rfl
theorem q_ti {a : List D} {b : Int} : eqv (.tup a) (.int b) = false := id rfl
theorem q_ts {a : List D} {b : Nm} : eqv (.tup a) (.str b) = false := id rfl
theorem q_tt {a : List D} {b : List D} : eqv (.tup a) (.tup b) = eqvs a b := id rfl
theorem q_tl {a : List D} {b : List D} : eqv (.tup a) (.lst b) = false := id rfl
theorem q_td {a : List D} {b : List (Ky × D)} : eqv (.tup a) (.dic b) = false := id rfl
theorem q_ln {a : List D}  : eqv (.lst a) (.non) = false := id rfl
theorem q_lb {a : List D} {b : Bool} : eqv (.lst a) (.bl b) = false := id rfl
theorem q_li {a : List D} {b : Int} : eqv (.lst a) (.int b) = false := id rfl
theorem q_ls {a : List D} {b : Nm} : eqv (.lst a) (.str b) = false := id rfl
theorem q_lt {a : List D} {b : List D} : eqv (.lst a) (.tup b) = false := id rfl
theorem q_ll {a : List D} {b : List D} : eqv (.lst a) (.lst b) = eqvs a b := id rfl
theorem q_ld {a : List D} {b : List (Ky × D)} : eqv (.lst a) (.dic b) = false := id rfl
theorem q_dn {a : List (Ky × D)}  : eqv (.dic a) (.non) = false := id rfl
theorem q_db {a : List (Ky × D)} {b : Bool} : eqv (.dic a) (.bl b) = false := id rfl
theorem q_di {a : List (Ky × D)} {b : Int} : eqv (.dic a) (.int b) = false := id rfl
theorem q_ds {a : List (Ky × D)} {b : Nm} : eqv (.dic a) (.str b) = false := id rfl
theorem q_dt {a : List (Ky × D)} {b : List D} : eqv (.dic a) (.tup b) = false := id rfl
theorem q_dl {a : List (Ky × D)} {b : List D} : eqv (.dic a) (.lst b) = false := id rfl
theorem q_dd {a : List (Ky × D)} {b : List (Ky × D)} : eqv (.dic a) (.dic b) = false := id rfl
theorem qs_nn : eqvs [] [] = true := id rfl
theorem qs_nc {x : D} {xs : List D} : eqvs [] (x :: xs) = false := id rfl
theorem qs_cn {x : D} {xs : List D} : eqvs (x :: xs) [] = false := id rfl
theorem qs_cc {x y : D} {xs ys : List D} : eqvs (x :: xs) (y :: ys) = (eqv x y && eqvs xs ys) := id rfl
@[simp] theorem vw_kdic {S : Sto} {i : List (Nm × D)} : vw S (.kdic i) = .kdic i := id rfl
theorem o_ins {S : Sto} {a b : Nm} : cmpD .inn (.str a) (.str b) S = .ok (subS a b) S := id rfl
theorem o_nis {S : Sto} {a b : Nm} : cmpD .nin (.str a) (.str b) S = .ok (!subS a b) S := id rfl
theorem o_int {S : Sto} {x : D} {ys : List D} : cmpD .inn x (.tup ys) S = R.chk (pl x && pls ys) (.ok (ys.any fun y => eqv y x) S) := by cases x <;> rfl
theorem o_nit {S : Sto} {x : D} {ys : List D} : cmpD .nin x (.tup ys) S = R.chk (pl x && pls ys) (.ok (!ys.any fun y => eqv y x) S) := by cases x <;> rfl
theorem o_inl {S : Sto} {x : D} {ys : List D} : cmpD .inn x (.lst ys) S = R.chk (pl x && pls ys) (.ok (ys.any fun y => eqv y x) S) := by cases x <;> rfl
theorem o_nil {S : Sto} {x : D} {ys : List D} : cmpD .nin x (.lst ys) S = R.chk (pl x && pls ys) (.ok (!ys.any fun y => eqv y x) S) := by cases x <;> rfl
theorem o_eq {S : Sto} {x y : D} : cmpD .eq x y S = R.chk (eqOk x y) (.ok (eqv x y) S) := id rfl
theorem o_ne {S : Sto} {x y : D} : cmpD .ne x y S = R.chk (eqOk x y) (.ok (!eqv x y) S) := id rfl
theorem o_eq_nn {S : Sto}   : cmpD .eq (.non) (.non) S = .ok (true) S := id rfl
theorem o_ne_nn {S : Sto}   : cmpD .ne (.non) (.non) S = .ok (!true) S := id rfl
theorem o_eq_nb {S : Sto}  {b : Bool} : cmpD .eq (.non) (.bl b) S = .ok (false) S := id rfl
theorem o_ne_nb {S : Sto}  {b : Bool} : cmpD .ne (.non) (.bl b) S = .ok (!false) S := id rfl
theorem o_eq_ni {S : Sto}  {b : Int} : cmpD .eq (.non) (.int b) S = .ok (false) S := id rfl
theorem o_ne_ni {S : Sto}  {b : Int} : cmpD .ne (.non) (.int b) S = .ok (!false) S := id rfl
theorem o_eq_ns {S : Sto}  {b : Nm} : cmpD .eq (.non) (.str b) S = .ok (false) S := id rfl
theorem o_ne_ns {S : Sto}  {b : Nm} : cmpD .ne (.non) (.str b) S = .ok (!false) S := id rfl
theorem o_eq_bn {S : Sto} {a : Bool}  : cmpD .eq (.bl a) (.non) S = .ok (false) S := id rfl
theorem o_ne_bn {S : Sto} {a : Bool}  : cmpD .ne (.bl a) (.non) S = .ok (!false) S := id rfl
theorem o_eq_bb {S : Sto} {a : Bool} {b : Bool} : cmpD .eq (.bl a) (.bl b) S = .ok ((a == b)) S := id rfl
theorem o_ne_bb {S : Sto} {a : Bool} {b : Bool} : cmpD .ne (.bl a) (.bl b) S = .ok (!(a == b)) S := id rfl
theorem o_eq_bi {S : Sto} {a : Bool} {b : Int} : cmpD .eq (.bl a) (.int b) S = .ok (((if a then 1 else 0) == b)) S := id rfl
theorem o_ne_bi {S : Sto} {a : Bool} {b : Int} : cmpD .ne (.bl a) (.int b) S = .ok (!((if a then 1 else 0) == b)) S := id rfl
theorem o_eq_bs {S : Sto} {a : Bool} {b : Nm} : cmpD .eq (.bl a) (.str b) S = .ok (false) S := id rfl
theorem o_ne_bs {S : Sto} {a : Bool} {b : Nm} : cmpD .ne (.bl a) (.str b) S = .ok (!false) S := id rfl
theorem o_eq_in {S : Sto} {a : Int}  : cmpD .eq (.int a) (.non) S = .ok (false) S := id rfl
theorem o_ne_in {S : Sto} {a : Int}  : cmpD .ne (.int a) (.non) S = .ok (!false) S := id rfl
theorem o_eq_ib {S : Sto} {a : Int} {b : Bool} : cmpD .eq (.int a) (.bl b) S = .ok ((a == (if b then 1 else 0))) S := id rfl
theorem o_ne_ib {S : Sto} {a : Int} {b : Bool} : cmpD .ne (.int a) (.bl b) S = .ok (!(a == (if b then 1 else 0))) S := id rfl
theorem o_eq_is {S : Sto} {a : Int} {b : Nm} : cmpD .eq (.int a) (.str b) S = .ok (false) S := id rfl
theorem o_ne_is {S : Sto} {a : Int} {b : Nm} : cmpD .ne (.int a) (.str b) S = .ok (!false) S := id rfl
theorem o_eq_sn {S : Sto} {a : Nm}  : cmpD .eq (.str a) (.non) S = .ok (false) S := id rfl
theorem o_ne_sn {S : Sto} {a : Nm}  : cmpD .ne (.str a) (.non) S = .ok (!false) S := id rfl
theorem o_eq_sb {S : Sto} {a : Nm} {b : Bool} : cmpD .eq (.str a) (.bl b) S = .ok (false) S := id rfl
theorem o_ne_sb {S : Sto} {a : Nm} {b : Bool} : cmpD .ne (.str a) (.bl b) S = .ok (!false) S := id rfl
theorem o_eq_si {S : Sto} {a : Nm} {b : Int} : cmpD .eq (.str a) (.int b) S = .ok (false) S := id rfl
theorem o_ne_si {S : Sto} {a : Nm} {b : Int} : cmpD .ne (.str a) (.int b) S = .ok (!false) S := id rfl
theorem o_eqT0 {S : Sto} {xs : List D} : cmpD .eq (.tup xs) (.tup []) S = .ok (eqvs xs []) S := id rfl
theorem o_neT0 {S : Sto} {xs : List D} : cmpD .ne (.tup xs) (.tup []) S = .ok (!eqvs xs []) S := id rfl
theorem pl_n : pl .non = true := id rfl
theorem pl_b {b : Bool} : pl (.bl b) = true := id rfl
theorem pl_i {b : Int} : pl (.int b) = true := id rfl
theorem pl_s {b : Nm} : pl (.str b) = true := id rfl
theorem pl_t {b : List D} : pl (.tup b) = okDs b 59 := id rfl
theorem pl_l {b : List D} : pl (.lst b) = okDs b 59 := id rfl
theorem pls_nil : pls [] = true := id rfl
theorem pls_cons {x : D} {xs : List D} : pls (x :: xs) = (pl x && pls xs) := id rfl
theorem ok_n {n : Nat} : okD .non n = true := id rfl
theorem ok_b {n : Nat} {b : Bool} : okD (.bl b) n = true := id rfl
theorem ok_i {n : Nat} {b : Int} : okD (.int b) n = true := id rfl
theorem ok_s {n : Nat} {b : Nm} : okD (.str b) n = true := id rfl
theorem ok_t {n : Nat} {b : List D} : okD (.tup b) (n + 1) = okDs b n := by show (decide (0 < n + 1) && okDs b n) = _; simp
theorem ok_l {n : Nat} {b : List D} : okD (.lst b) (n + 1) = okDs b n := by show (decide (0 < n + 1) && okDs b n) = _; simp
theorem oks_nil {n : Nat} : okDs [] n = true := id rfl
theorem oks_cons {n : Nat} {x : D} {xs : List D} : okDs (x :: xs) n = (okD x n && okDs xs n) := id rfl
theorem o_isN {S : Sto} {x : D} : cmpD .is x .non S = .ok (isNon x) S := id rfl
theorem o_isnN {S : Sto} {x : D} : cmpD .isn x .non S = .ok (!isNon x) S := id rfl
theorem eqOk_t0 {xs : List D} : eqOk (.tup xs) (.tup []) = true := id rfl
section
variable {Φ : Fn} {tg : List Nat} {c e : Ex} {g : Sto → Prop} {ρ : Env} {S : Sto} {α : Type}
theorem runC_mapL {v f : α → D} (hg : g S) : ∀ {l : List α}, (∀ a ∈ l, ∃ ρ', setTg tg (v a) (ρ.dels tg) = some ρ' ∧ evW Φ ρ' e S = .ok (.d (f a)) S) → runC Φ tg [] e g (l.map v) ρ S = .ok (l.map f) S
  | [], _ => rfl
  | a :: l, h => by
    obtain ⟨ρ', h1, h2⟩ := h a List.mem_cons_self
    rw [List.map_cons, runC_cons, h1]
    simp only [of_some, bind_okE, c_nil, if_true, h2, d_ok]
    rw [if_pos hg, runC_mapL hg fun x hx => h x (List.mem_cons_of_mem _ hx)]
    rfl
theorem runC_filL {v f : α → D} {p : α → Bool} (hg : g S) : ∀ {l : List α}, (∀ a ∈ l, ∃ ρ', setTg tg (v a) (ρ.dels tg) = some ρ' ∧ (evW Φ ρ' c S).t = .ok (p a) S ∧ (p a = true → evW Φ ρ' e S = .ok (.d (f a)) S)) → runC Φ tg [c] e g (l.map v) ρ S = .ok ((l.filter p).map f) S
  | [], _ => rfl
  | a :: l, h => by
    obtain ⟨ρ', h1, h2, h3⟩ := h a List.mem_cons_self
    have ih := runC_filL hg (l := l) fun x hx => h x (List.mem_cons_of_mem _ hx)
    rw [List.map_cons, runC_cons, h1]
    simp only [of_some, bind_okE, c_one, h2]
    by_cases q : p a = true
    · rw [if_pos q]
      simp only [h3 q, d_ok, bind_okE]
      rw [if_pos hg, ih, List.filter_cons, if_pos q]
      rfl
    · rw [if_neg q]
      simp only [bind_okE]
      rw [if_pos hg, ih, List.filter_cons, if_neg q]
      rfl
end
/-! comprehensions with a changing store -/
inductive Fa2 {α β : Type} (R : α → β → Prop) : List α → List β → Prop
  | nil : Fa2 R [] []
  | cons {a : α} {b : β} {l : List α} {m : List β} : R a b → Fa2 R l m → Fa2 R (a :: l) (b :: m)
theorem runC_inv {Φ : Fn} {tg : List Nat} {e : Ex} {g : Sto → Prop} {ρ : Env} {α : Type} {v : α → D} {Inv : Sto → Prop} {Pr : α → D → Prop} (hg : ∀ S, Inv S → g S) : ∀ (l : List α) (S : Sto), Inv S →
    (∀ a ∈ l, ∃ ρ', setTg tg (v a) (ρ.dels tg) = some ρ' ∧ ∀ S, Inv S → ∃ r S', evW Φ ρ' e S = .ok (.d r) S' ∧ Inv S' ∧ Pr a r) → ∃ rs S', runC Φ tg [] e g (l.map v) ρ S = .ok rs S' ∧ Inv S' ∧ Fa2 Pr l rs
  | [], S, i, _ => ⟨[], S, rfl, i, .nil⟩
  | a :: l, S, i, h => by
    obtain ⟨ρ', h1, h2⟩ := h a List.mem_cons_self
    obtain ⟨r, S1, h3, i1, p⟩ := h2 S i
    obtain ⟨rs, S2, h4, i2, q⟩ := runC_inv hg l S1 i1 fun x hx => h x (List.mem_cons_of_mem _ hx)
    refine ⟨r :: rs, S2, ?_, i2, .cons p q⟩
    rw [List.map_cons, runC_cons, h1]
    simp only [of_some, bind_okE, c_nil, if_true, h3, d_ok]
    rw [if_pos (hg _ i1), h4]
    rfl
/-- walked things that are no cells -/
def nrW : W → Bool
  | .d (.ref _) => false
  | _ => true
theorem srcG_nr {ws : List W} {S S' : Sto} (h : ws.all nrW = true) : srcG ws S S' := fun x hx => by
  have := List.all_eq_true.mp h x hx
  cases x with
  | d x => cases x <;> first | trivial | cases this
  | own c => trivial
theorem rngD_map {a b : Int} : rngD a b = (List.range (b - a).toNat).map fun (k : Nat) => D.int (a + (k : Int)) := id rfl
theorem join_one {α : Type} (f : α → Nat) : ∀ l : List α, joinS [] (l.map fun x => [f x]) = l.map f
  | [] => rfl
  | [a] => rfl
  | a :: b :: l => by
    have ih := join_one f (b :: l)
    show [f a] ++ [] ++ joinS [] ((b :: l).map fun x => [f x]) = _
    rw [ih]
    rfl
/-! one counter in the store -/
def pk (S : Sto) (a : Nat) (v : Int) : Sto := S.set a (.lst [.int v])
theorem pk_get {S : Sto} {a : Nat} {v : Int} (h : a < S.length) : (pk S a v)[a]? = some (.lst [.int v]) := by unfold pk; rw [List.getElem?_set_self h]
theorem pk_len {S : Sto} {a : Nat} {v : Int} : (pk S a v).length = S.length := by unfold pk; simp
theorem pk_pk {S : Sto} {a : Nat} {v w : Int} : (pk S a v).set a (.lst [.int w]) = pk S a w := by unfold pk; rw [List.set_set]
theorem pk_new {S : Sto} {v : Int} : S ++ [.lst [.int v]] = pk (S ++ [.lst [.int 0]]) S.length v := by
  unfold pk
  rw [List.set_append_right _ _ (Nat.le_refl _), Nat.sub_self]
  rfl
theorem pk_vw {S : Sto} {a : Nat} {v : Int} (h : a < S.length) : vw (pk S a v) (.ref a) = .lst [.int v] := vw_ref (c := .lst [.int v]) (pk_get h)
theorem pk_mut {S : Sto} {a : Nat} {v : Int} {q : Int} (h : a < S.length) : mutS .set (.ref a) [.int 0, .int q] (pk S a v) = .ok .non (pk S a q) := by
  unfold mutS
  simp only [pk_get h]
  show R.ok D.non ((pk S a v).set a (.lst [.int q])) = _
  rw [pk_pk]
theorem cut_map {α β : Type} (f : α → β) (l : List α) (lo hi : Option Int) : cutL (l.map f) lo hi = (cutL l lo hi).map f := by
  unfold cutL
  rw [List.map_take, List.map_drop, List.length_map]
theorem ex_map {α β : Type} {f : α → β} {p : β → Prop} {rs : List β} (h : ∀ r ∈ rs, ∃ a, r = f a ∧ p r) : ∃ l : List α, rs = l.map f ∧ ∀ a ∈ l, p (f a) := by
  induction rs with
  | nil => exact ⟨[], rfl, fun a h => by simp at h⟩
  | cons r rs ih =>
    obtain ⟨a, e, q⟩ := h r List.mem_cons_self
    obtain ⟨l, e2, q2⟩ := ih fun x hx => h x (List.mem_cons_of_mem _ hx)
    refine ⟨a :: l, by rw [e, e2]; rfl, fun b hb => ?_⟩
    rcases List.mem_cons.mp hb with rfl | hb
    · rw [← e]; exact q
    · exact q2 b hb
theorem fa2_right {α β : Type} {P : α → β → Prop} {l : List α} {rs : List β} (h : Fa2 P l rs) : ∀ r ∈ rs, ∃ a ∈ l, P a r := by
  induction h with
  | nil => intro r h; simp at h
  | cons p _ ih =>
    intro r hr
    rcases List.mem_cons.mp hr with rfl | hr
    · exact ⟨_, List.mem_cons_self, p⟩
    · obtain ⟨a, ha, q⟩ := ih r hr
      exact ⟨a, List.mem_cons_of_mem _ ha, q⟩
theorem fa2_len {α β : Type} {P : α → β → Prop} {l : List α} {rs : List β} (h : Fa2 P l rs) : l.length = rs.length := by
  induction h with
  | nil => rfl
  | cons _ _ ih => simp [ih]
theorem s_str {S : Sto} {z : Nm} {l u : Option Int} : slcD (.str z) l u S = .ok (.str (cutL z l u)) S := id rfl
theorem s_tup {S : Sto} {z : List D} {l u : Option Int} : slcD (.tup z) l u S = .ok (.tup (cutL z l u)) S := id rfl
theorem pd0 : partD [] = some none := id rfl
theorem pd1 {i : Int} : partD [.int i] = some (some i) := id rfl
theorem j_it {S : Sto} {a : Nm} {x : D} : joinD a x S = R.of S (((itemsD x).bind toStrs).bind fun zs => if szOk ((zs.map (·.length)).sum + zs.length * a.length) = true then some (.str (joinS a zs)) else none) := id rfl
theorem it_lst {xs : List D} : itemsD (.lst xs) = some xs := id rfl
theorem it_tup {xs : List D} : itemsD (.tup xs) = some xs := id rfl
theorem m_up {S : Sto} {z : Nm} : mthD .upper (.str z) [] S = R.chk (z.all (fun c => decide (c < 128)) && decide (z.length ≤ 5592405)) (.ok (.str (upS z)) S) := id rfl
theorem rc_up {z : Nm} : rcv .upper (.str z) = true := id rfl
theorem b_mult {S : Sto} {a : List D} {j : Int} : binD .mul (.tup a) (.int j) S = R.chk (decide (2 ≤ j) && decide (j ≤ 1000) && decide (a.length ≤ 1000) && !a.isEmpty) (.ok (.tup (List.replicate j.toNat a).flatten) S) := id rfl
theorem b_muls {S : Sto} {a : Nm} {j : Int} : binD .mul (.str a) (.int j) S = R.chk (repOk a.length j) (.ok (.str (List.replicate j.toNat a).flatten) S) := id rfl
theorem pu0 : pairUp [] = some [] := id rfl
theorem mk0 {kvs : List (Ky × D)} : mergeK kvs [] = kvs := id rfl
section
variable {Φ : Fn} {ρ : Env} {o : Option W} {S : Sto}
theorem e_rev {a : Ex} : evW Φ ρ (.rev a) S = (evW Φ ρ a S).bind fun x S1 => match x.vw S1 with
    | .tup xs => .ok (.d (.tup xs.reverse)) S1
    | _ => .bad := by rw [evW] <;> rfl
theorem n_rev {a : Ex} : evN Φ ρ (.rev a) S = (evW Φ ρ a S).bind fun x S1 => match x.vw S1 with
    | .lst xs => .ok (.lst xs.reverse) S1
    | _ => .bad := by rw [evN] <;> rfl
theorem n_range {es : List Ex} : evN Φ ρ (.range es) S = (evEs Φ ρ es S).bind fun ds S1 => (R.of S1 (srcD .range (ds.map W.d) S1)).bind fun xs S1 => .ok (.lst xs) S1 := by rw [evN]
theorem n_sorted {a : Ex} : evN Φ ρ (.sorted a) S = (evW Φ ρ a S).bind fun x S1 => (R.of S1 (itemsS (x.vw S1))).bind fun xs S1 => R.chk (ordOk xs) (.ok (.lst (sortD xs)) S1) := by rw [evN]
theorem n_sortSet {a : Ex} : evN Φ ρ (.sortSet a) S = (evW Φ ρ a S).bind fun x S1 => (R.of S1 (itemsD (x.vw S1))).bind fun xs S1 => R.chk (ordOk xs) (.ok (.lst (sortD (dedup xs))) S1) := by rw [evN]
theorem x_rais {c : String} {fs : List String} {es : List Ex} : evS Φ (.rais c fs es) (o :: ρ) S = R.lift (o :: ρ) (evEs Φ (o :: ρ) es S) fun ds S1 => .ok (.ex (.exc c (fs.zip ds)) (o :: ρ)) S1 := by rw [evS]
end
theorem tr_str {S : Sto} {z : Nm} : truD S (.str z) = .ok (!z.isEmpty) S := id rfl
theorem tr_non {S : Sto} : truD S .non = .ok false S := id rfl
theorem src_seqR {S : Sto} {w : W} : srcD .seq [w] S = seqD S w := id rfl
theorem seq_lst {S : Sto} {xs : List D} : seqD S (.d (.lst xs)) = some xs := id rfl
theorem seq_tup {S : Sto} {xs : List D} : seqD S (.d (.tup xs)) = some xs := id rfl
theorem seq_str {S : Sto} {z : Nm} : seqD S (.d (.str z)) = some (z.map fun c => .str [c]) := id rfl
theorem seq_own {S : Sto} {xs : List D} : seqD S (.own (.lst xs)) = some xs := id rfl
theorem l_all {S : Sto} {x : D} : blt1 .all x S = R.of S (((listD x).bind toBools).map fun bs => .bl (bs.all id)) := id rfl
theorem l_any {S : Sto} {x : D} : blt1 .any x S = R.of S (((listD x).bind toBools).map fun bs => .bl (bs.any id)) := id rfl
theorem l_tupl {S : Sto} {xs : List D} : blt1 .tup (.lst xs) S = .ok (.tup xs) S := id rfl
theorem l_tupt {S : Sto} {xs : List D} : blt1 .tup (.tup xs) S = .ok (.tup xs) S := id rfl
theorem l_tup {S : Sto} {x : D} : blt1 .tup x S = R.of S ((itemsD x).map .tup) := id rfl
theorem cutL_mem {α : Type} {l : List α} {lo hi : Option Int} {x : α} (h : x ∈ cutL l lo hi) : x ∈ l := List.mem_of_mem_drop (List.mem_of_mem_take h)
theorem cutL_len {α : Type} {l : List α} {lo hi : Option Int} : (cutL l lo hi).length ≤ l.length := by
  unfold cutL
  rw [List.length_take, List.length_drop]
  omega
theorem cutL_hi {α : Type} {l : List α} {i : Int} (h : 0 ≤ i) : cutL l none (some i) = l.take i.toNat := by
  unfold cutL slcI
  simp only [List.drop_zero, Nat.sub_zero]
  rw [if_neg (by omega)]
  by_cases z : i.toNat ≤ l.length
  · rw [Nat.min_eq_left z]
  · rw [Nat.min_eq_right (by omega), List.take_length, List.take_of_length_le (by omega)]
theorem cutL_lo {α : Type} {l : List α} {i : Int} (h : 0 ≤ i) : cutL l (some i) none = l.drop i.toNat := by
  unfold cutL slcI
  simp only
  rw [if_neg (by omega)]
  by_cases z : i.toNat ≤ l.length
  · rw [Nat.min_eq_left z, List.take_of_length_le (by rw [List.length_drop]; omega)]
  · rw [Nat.min_eq_right (by omega), List.drop_eq_nil_of_le (by omega), List.drop_eq_nil_of_le (by omega)]
    simp
theorem join_chars : ∀ cs : Nm, joinS [] (cs.map fun c => [c]) = cs := fun cs => by
  have := join_one (fun c => c) cs
  rw [this]
  simp
theorem sum_one : ∀ cs : Nm, ((cs.map fun c => [c]).map (·.length)).sum = cs.length
  | [] => rfl
  | c :: cs => by
    have ih := sum_one cs
    simp only [List.map_cons, List.sum_cons, List.length_cons, List.length_nil] at ih ⊢
    omega
/-- "".join of signs -/
theorem joinD_chars {S : Sto} {cs : Nm} (h : cs.length ≤ 1000000) : joinD [] (.lst (cs.map fun c => D.str [c])) S = .ok (.str cs) S := by
  have e : toStrs (cs.map fun c => D.str [c]) = some (cs.map fun c => [c]) := toStrs_map (fun c => [c]) cs
  rw [j_it, it_lst, Option.bind_some, e, Option.bind_some, sum_one, join_chars]
  rw [if_pos (szOk_in (by simp; omega))]
  rfl
theorem sg_l {S S' : Sto} {xs : List D} : srcG [.d (.lst xs)] S S' = True := eq_true (srcG_nr rfl)
theorem sg_t {S S' : Sto} {xs : List D} : srcG [.d (.tup xs)] S S' = True := eq_true (srcG_nr rfl)
theorem sg_s {S S' : Sto} {xs : Nm} : srcG [.d (.str xs)] S S' = True := eq_true (srcG_nr rfl)
theorem sg_d {S S' : Sto} {xs : List (Ky × D)} : srcG [.d (.dic xs)] S S' = True := eq_true (srcG_nr rfl)
theorem sg_i {S S' : Sto} {i : Int} : srcG [.d (.int i)] S S' = True := eq_true (srcG_nr rfl)
theorem sg_ii {S S' : Sto} {i j : Int} : srcG [.d (.int i), .d (.int j)] S S' = True := eq_true (srcG_nr rfl)
theorem sg_ll {S S' : Sto} {i j : List D} : srcG [.d (.lst i), .d (.lst j)] S S' = True := eq_true (srcG_nr rfl)
theorem sg_tt {S S' : Sto} {i j : List D} : srcG [.d (.tup i), .d (.tup j)] S S' = True := eq_true (srcG_nr rfl)
theorem sg_o {S S' : Sto} {c : Cell} : srcG [.own c] S S' = True := eq_true (srcG_nr rfl)
theorem sg_refl {S : Sto} {ws : List W} : srcG ws S S = True := eq_true srcG_refl
theorem st_one {i : Nat} {d : D} {ρ : Env} : setTg [i] d ρ = some (ρ.put i (.d d)) := id rfl
theorem st_two {i j : Nat} {d e : D} {ρ : Env} : setTg [i, j] (.tup [d, e]) ρ = some ((ρ.put i (.d d)).put j (.d e)) := id rfl
theorem st_three {i j k : Nat} {d e f : D} {ρ : Env} : setTg [i, j, k] (.tup [d, e, f]) ρ = some (((ρ.put i (.d d)).put j (.d e)).put k (.d f)) := id rfl
theorem mu_app {ds es : List D} : mutC .append (.lst ds) [.lst es] = if szOk (ds.length + 1) = true then some (.lst (ds ++ [.lst es]), .non) else none := id rfl
theorem mu_appd {ds : List D} {x : D} (h : szOk (ds.length + 1) = true) : mutC .append (.lst ds) [x] = some (.lst (ds ++ [x]), .non) := by show (if szOk (ds.length + 1) = true then _ else _) = _; rw [if_pos h]
theorem mu_ext {ds es : List D} (h : szOk (ds.length + es.length) = true) : mutC .extend (.lst ds) [.lst es] = some (.lst (ds ++ es), .non) := by show (if szOk (ds.length + es.length) = true then _ else _) = _; rw [if_pos h]
/-- a loop by what holds at each turn -/
theorem runF_inv {Φ : Fn} {tg : List Nat} {body : List St} {g : Sto → Prop} {α : Type} {v : α → D} {Inv : List α → Env → Sto → Prop} (hg : ∀ l ρ S, Inv l ρ S → g S) (h : ∀ a l ρ S, Inv (a :: l) ρ S → ∃ ρ1 ρ2 S2, setTg tg (v a) ρ = some ρ1 ∧ evSs Φ body ρ1 S = .ok (.nx ρ2) S2 ∧ Inv l ρ2 S2) :
    ∀ l ρ S, Inv l ρ S → ∃ ρ' S', runF Φ tg body g (l.map v) ρ S = .ok (.nx ρ') S' ∧ Inv [] ρ' S'
  | [], ρ, S, i => ⟨ρ, S, rfl, i⟩
  | a :: l, ρ, S, i => by
    obtain ⟨ρ1, ρ2, S2, h1, h2, h3⟩ := h a l ρ S i
    obtain ⟨ρ', S', h4, h5⟩ := runF_inv hg h l ρ2 S2 h3
    refine ⟨ρ', S', ?_, h5⟩
    rw [List.map_cons, runF_cons, h1]
    simp only [h2, loop_nx]
    rw [if_pos (hg _ _ _ h3), h4]
/-- a loop that appends one thing a turn -/
theorem runF_map {Φ : Fn} {tg : List Nat} {body : List St} {g : Sto → Prop} {S : Sto} {α : Type} {v f : α → D} {E : Option W → List D → Env} {B : Nat} (hg : g S) (hs : ∀ x o acc, setTg tg x (E o acc) = some (E (some (.d x)) acc)) :
    ∀ (l : List α) (o : Option W) (acc : List D), (∀ a ∈ l, ∀ acc, acc.length < B → evSs Φ body (E (some (.d (v a))) acc) S = .ok (.nx (E (some (.d (v a))) (acc ++ [f a]))) S) → acc.length + l.length ≤ B → ∃ o', runF Φ tg body g (l.map v) (E o acc) S = .ok (.nx (E o' (acc ++ l.map f))) S
  | [], o, acc, _, _ => ⟨o, by rw [List.map_nil, List.map_nil, List.append_nil]; rfl⟩
  | a :: l, o, acc, hb, hl => by
    rw [List.length_cons] at hl
    obtain ⟨o', e⟩ := runF_map hg hs l (some (.d (v a))) (acc ++ [f a]) (fun x hx => hb x (List.mem_cons_of_mem _ hx)) (by rw [List.length_append, List.length_cons, List.length_nil]; omega)
    refine ⟨o', ?_⟩
    rw [List.map_cons, runF_cons, hs]
    simp only [hb a List.mem_cons_self acc (by omega), loop_nx]
    rw [if_pos hg, e, List.map_cons, List.append_assoc]
    rfl
theorem runC_true {Φ : Fn} {tg : List Nat} {e : Ex} {g : Sto → Prop} {ρ : Env} {S : Sto} {b : Bool} (hg : g S) {xs : List D} (h : ∀ x ∈ xs, ∃ ρ', setTg tg x (ρ.dels tg) = some ρ' ∧ evW Φ ρ' e S = .ok (.d (.bl b)) S) : runC Φ tg [] e g xs ρ S = .ok (xs.map fun _ => D.bl b) S := by
  have := runC_mapL (Φ := Φ) (tg := tg) (e := e) (g := g) (ρ := ρ) (S := S) (v := id) (f := fun _ => D.bl b) hg (l := xs) h
  rw [List.map_id] at this
  exact this
theorem all_tt {S : Sto} {α : Type} {xs : List α} : blt1 .all (.lst (xs.map fun _ => D.bl true)) S = .ok (.bl true) S := by
  rw [l_all, listD_lst, Option.bind_some, toBools_map]
  have : (xs.map fun _ => true).all id = true := List.all_eq_true.mpr fun x hx => by obtain ⟨_, _, rfl⟩ := List.mem_map.mp hx; rfl
  rw [Option.map_some, this]
  rfl
theorem any_ff {S : Sto} {α : Type} {xs : List α} : blt1 .any (.lst (xs.map fun _ => D.bl false)) S = .ok (.bl false) S := by
  rw [l_any, listD_lst, Option.bind_some, toBools_map]
  have : (xs.map fun _ => false).any id = false := by
    rw [List.any_eq_false]
    intro x hx
    obtain ⟨_, _, rfl⟩ := List.mem_map.mp hx
    simp
  rw [Option.map_some, this]
  rfl
/-- a loop that only looks -/
theorem runF_look {Φ : Fn} {tg : List Nat} {body : List St} {g : Sto → Prop} {S : Sto} {E : Option W → Env} (hg : g S) (hs : ∀ x o, setTg tg x (E o) = some (E (some (.d x)))) :
    ∀ (l : List D) (o : Option W), (∀ a ∈ l, evSs Φ body (E (some (.d a))) S = .ok (.nx (E (some (.d a)))) S) → ∃ o', runF Φ tg body g l (E o) S = .ok (.nx (E o')) S
  | [], o, _ => ⟨o, rfl⟩
  | a :: l, o, hb => by
    obtain ⟨o', e⟩ := runF_look hg hs l (some (.d a)) fun x hx => hb x (List.mem_cons_of_mem _ hx)
    refine ⟨o', ?_⟩
    rw [runF_cons, hs]
    simp only [hb a List.mem_cons_self, loop_nx]
    rw [if_pos hg, e]
theorem at_mem {α : Type} {xs : List α} {i : Int} (h0 : 0 ≤ i) (h1 : i < xs.length) : ∃ x, x ∈ xs ∧ atI xs i = some x := by
  have h : i.toNat < xs.length := by omega
  exact ⟨xs[i.toNat], List.getElem_mem h, by rw [atI_in h0, List.getElem?_eq_getElem h]⟩
/-- the law's outermost range -/
theorem outer_K {len : Nat} {m : Int} (hm : 1 ≤ m) (hm2 : m ≤ 100) : ∃ K : Int, (if 1 < (if m < (len : Int) then m else (len : Int)) then (if m < (len : Int) then m else (len : Int)) else 1) = K ∧ 1 ≤ K ∧ K ≤ 100 := ⟨_, rfl, by split <;> omega, by split <;> (try split) <;> omega⟩
theorem al_0 {S : Sto} : blt1 .all (.lst []) S = .ok (.bl true) S := id rfl
theorem al_t {S : Sto} {xs : List D} : blt1 .all (.lst (.bl true :: xs)) S = blt1 .all (.lst xs) S := by
  rw [l_all, l_all, listD_lst, listD_lst, Option.bind_some, Option.bind_some]
  show R.of S (Option.map _ ((toBools xs).map (true :: ·))) = _
  cases toBools xs <;> rfl
theorem an_0 {S : Sto} : blt1 .any (.lst []) S = .ok (.bl false) S := id rfl
theorem an_f {S : Sto} {xs : List D} : blt1 .any (.lst (.bl false :: xs)) S = blt1 .any (.lst xs) S := by
  rw [l_any, l_any, listD_lst, listD_lst, Option.bind_some, Option.bind_some]
  show R.of S (Option.map _ ((toBools xs).map (false :: ·))) = _
  cases toBools xs <;> rfl
/-! written words -/
theorem lb_cc {a b : Nat} {as bs : Nm} : ((a :: as : Nm) == (b :: bs)) = (a == b && as == bs) := by
  rw [Bool.eq_iff_iff]
  simp
theorem lb_nn : (([] : Nm) == []) = true := id rfl
theorem lb_nc {b : Nat} {bs : Nm} : (([] : Nm) == b :: bs) = false := id rfl
theorem lb_cn {b : Nat} {bs : Nm} : ((b :: bs : Nm) == []) = false := id rfl
/-! a turn of the law's loop: what is fixed, and how many names there are beside -/
def EndsNx (fix : List (Option W)) (m : Nat) (r : R Fl) : Prop := ∃ os S', os.length = m ∧ r = .ok (.nx (fix ++ os)) S'
theorem law_outer {Φ : Fn} {body : List St} {g : Sto → Prop} {a : Option W} {m : Nat} (hg : ∀ S, g S) (h : ∀ (k : Int), 0 ≤ k → k ≤ 1000 → ∀ (os : List (Option W)) (S : Sto), os.length = m → EndsNx [a, some (.d (.int k))] m (evSs Φ body (a :: some (.d (.int k)) :: os) S)) :
    ∀ (ks : List Int) (o : Option W) (os : List (Option W)) (S : Sto), os.length = m → (∀ k ∈ ks, 0 ≤ k ∧ k ≤ 1000) → ∃ ρ' S', runF Φ [1] body g (ks.map D.int) (a :: o :: os) S = .ok (.nx (a :: ρ')) S'
  | [], o, os, S, _, _ => ⟨o :: os, S, rfl⟩
  | k :: ks, o, os, S, hl, hk => by
    have hk0 := hk k List.mem_cons_self
    obtain ⟨os1, S1, hl1, c⟩ := h k hk0.1 hk0.2 os S hl
    obtain ⟨ρ', S', ih⟩ := law_outer hg h ks (some (.d (.int k))) os1 S1 hl1 fun w hw => hk w (List.mem_cons_of_mem _ hw)
    refine ⟨ρ', S', ?_⟩
    rw [List.map_cons, runF_cons, st_one]
    show R.loop (evSs Φ body (a :: some (.d (.int k)) :: os) S) _ = _
    rw [c, loop_nx, if_pos (hg _)]
    exact ih
theorem rng_ints {K : Int} : ((List.range (K - 0).toNat).map fun (i : Nat) => 0 + (i : Int)).map D.int = rngD 0 K := by unfold rngD; rw [List.map_map]; rfl
theorem rng_in {K : Int} (h : K ≤ 1000) : ∀ k ∈ (List.range (K - 0).toNat).map fun (i : Nat) => 0 + (i : Int), 0 ≤ k ∧ k ≤ 1000 := fun k hk => by
  obtain ⟨i, hi, rfl⟩ := List.mem_map.mp hk
  have := List.mem_range.mp hi
  omega
theorem src_zts {S : Sto} {xs : List D} {z : Nm} : srcD .zip [.d (.tup xs), .d (.str z)] S = some (List.zipWith (fun a b => D.tup [a, b]) xs (z.map fun c => .str [c])) := id rfl
theorem src_ztt {S : Sto} {xs ys : List D} : srcD .zip [.d (.tup xs), .d (.tup ys)] S = some (List.zipWith (fun a b => D.tup [a, b]) xs ys) := id rfl
theorem src_zll {S : Sto} {xs ys : List D} : srcD .zip [.d (.lst xs), .d (.lst ys)] S = some (List.zipWith (fun a b => D.tup [a, b]) xs ys) := id rfl
theorem m_getk {S : Sto} {kvs : List (Nm × D)} {z : Nm} : mthD .get (.kdic kvs) [.str z] S = .ok ((lookN kvs z).getD .non) S := id rfl
theorem rc_getk {kvs : List (Nm × D)} : rcv .get (.kdic kvs) = true := id rfl
theorem is_lst {xs : List D} : itemsS (.lst xs) = some xs := id rfl
end Ev
set_option maxHeartbeats 4000000
/-! Ev, part 32: all rows in one (printed by genrows.py). -/
namespace Ev
theorem r_map_cons {α β : Type} {f : α → β} {a : α} {l : List α} : List.map f (a :: l) = f a :: List.map f l := by simp
theorem r_map_nil {α β : Type} {f : α → β} : List.map f [] = [] := by simp
theorem r_len_cons {α : Type} {a : α} {l : List α} : (a :: l).length = l.length + 1 := by simp
theorem r_len_nil {α : Type} : ([] : List α).length = 0 := by simp
theorem r_ie_nil {α : Type} : ([] : List α).isEmpty = true := by simp
theorem r_ie_cons {α : Type} {a : α} {l : List α} : (a :: l).isEmpty = false := by simp
theorem r_any_cons {α : Type} {a : α} {l : List α} {p : α → Bool} : (a :: l).any p = (p a || l.any p) := by simp
theorem r_omap_some {α β : Type} {f : α → β} {a : α} : Option.map f (some a) = some (f a) := by simp
theorem r_obind_some {α β : Type} {f : α → Option β} {a : α} : (some a).bind f = f a := by simp
theorem r_any_nil {α : Type} {p : α → Bool} : ([] : List α).any p = false := by simp
theorem EVR : type_of% (And.intro @r_map_cons (And.intro @r_map_nil (And.intro @r_len_cons (And.intro @r_len_nil (And.intro @r_ie_nil (And.intro @r_ie_cons (And.intro @r_any_cons (And.intro @r_omap_some (And.intro @r_obind_some (And.intro @r_any_nil (And.intro @bind_okE (And.intro @bind_excE (And.intro @bind_badE (And.intro @lift_okE (And.intro @lift_excE (And.intro @lift_badE (And.intro @nx_nx (And.intro @nx_rt (And.intro @nx_bk (And.intro @nx_ct (And.intro @nx_ex (And.intro @nx_bad (And.intro @loop_nx (And.intro @loop_ct (And.intro @loop_bk (And.intro @loop_rt (And.intro @loop_ex (And.intro @loop_bad (And.intro @d_ok (And.intro @d_own (And.intro @d_exc (And.intro @d_bad (And.intro @w_ok (And.intro @w_exc (And.intro @w_bad (And.intro @t_ok (And.intro @t_exc (And.intro @t_bad (And.intro @chk_true (And.intro @chk_false (And.intro @of_some (And.intro @of_none (And.intro @noexc_ok' (And.intro @noexc_bad (And.intro @end_nx (And.intro @end_rt (And.intro @end_ex (And.intro @end_bad (And.intro @get_zero (And.intro @get_succ (And.intro @put_zero (And.intro @put_succ (And.intro @del_zero (And.intro @del_succ (And.intro @dels_nil (And.intro @dels_cons (And.intro @vw_int (And.intro @vw_bl (And.intro @vw_str (And.intro @vw_non (And.intro @vw_tup (And.intro @vw_lst (And.intro @vw_scr (And.intro @vw_dic (And.intro @Wvw_d (And.intro @Wvw_own (And.intro @cvw_lst (And.intro @cvw_dct (And.intro @chk_of (And.intro @srcK_some (And.intro @x_nil (And.intro @x_cons (And.intro @x_asg (And.intro @x_unp (And.intro @x_par (And.intro @x_own (And.intro @x_omut (And.intro @x_fz (And.intro @x_kill (And.intro @x_exp (And.intro @x_ret (And.intro @x_retN (And.intro @x_retO (And.intro @x_retF (And.intro @x_retW (And.intro @x_ifS (And.intro @x_whl (And.intro @x_forS (And.intro @x_pass (And.intro @x_brk (And.intro @x_cnt (And.intro @t_nm (And.intro @t_sub (And.intro @t_osub (And.intro @t_nil (And.intro @t_cons (And.intro @sa_nil (And.intro @sa_cons (And.intro @sg_one (And.intro @sg_many (And.intro @e_var (And.intro @e_cst (And.intro @e_glo (And.intro @e_bin (And.intro @e_neg (And.intro @e_cmp (And.intro @e_chn (And.intro @e_bop (And.intro @e_not (And.intro @e_ife (And.intro @e_tup (And.intro @e_idx (And.intro @e_slc (And.intro @e_call (And.intro @e_blt (And.intro @e_mth (And.intro @e_join (And.intro @e_mut (And.intro @e_isi (And.intro @e_frz (And.intro @e_cel (And.intro @es0 (And.intro @es1 (And.intro @ws0 (And.intro @ws1 (And.intro @eb1 (And.intro @eb2 (And.intro @n_lst (And.intro @n_dic (And.intro @n_comp (And.intro @n_cat (And.intro @n_rep (And.intro @n_slc (And.intro @n_list (And.intro @n_call (And.intro @wC_own (And.intro @c_nil (And.intro @c_one (And.intro @b_add (And.intro @b_sub (And.intro @b_mul (And.intro @b_fdv (And.intro @b_mod (And.intro @b_pow (And.intro @b_adds (And.intro @b_addt (And.intro @o_eqi (And.intro @o_nei (And.intro @o_lti (And.intro @o_lei (And.intro @o_gti (And.intro @o_gei (And.intro @o_eqs (And.intro @o_nes (And.intro @tr_bl (And.intro @tr_int (And.intro @tr_lst (And.intro @tr_tup (And.intro @i_lst (And.intro @i_tup (And.intro @i_scr (And.intro @i_str (And.intro @i_dics (And.intro @l1 (And.intro @l2 (And.intro @l_lenl (And.intro @l_lent (And.intro @l_lenc (And.intro @l_lens (And.intro @l_inti (And.intro @l_intb (And.intro @l_min (And.intro @l_max (And.intro @l_dm (And.intro @l_sum (And.intro @src_rng2 (And.intro @src_rng1 (And.intro @listD_lst (And.intro @x_T (And.intro @q_nn (And.intro @q_nb (And.intro @q_ni (And.intro @q_ns (And.intro @q_nt (And.intro @q_nl (And.intro @q_nd (And.intro @q_bn (And.intro @q_bb (And.intro @q_bi (And.intro @q_bs (And.intro @q_bt (And.intro @q_bl (And.intro @q_bd (And.intro @q_in (And.intro @q_ib (And.intro @q_ii (And.intro @q_is (And.intro @q_it (And.intro @q_il (And.intro @q_id (And.intro @q_sn (And.intro @q_sb (And.intro @q_si (And.intro @q_ss (And.intro @q_st (And.intro @q_sl (And.intro @q_sd (And.intro @q_tn (And.intro @q_tb (And.intro @q_ti (And.intro @q_ts (And.intro @q_tt (And.intro @q_tl (And.intro @q_td (And.intro @q_ln (And.intro @q_lb (And.intro @q_li (And.intro @q_ls (And.intro @q_lt (And.intro @q_ll (And.intro @q_ld (And.intro @q_dn (And.intro @q_db (And.intro @q_di (And.intro @q_ds (And.intro @q_dt (And.intro @q_dl (And.intro @q_dd (And.intro @qs_nn (And.intro @qs_nc (And.intro @qs_cn (And.intro @qs_cc (And.intro @vw_kdic (And.intro @o_ins (And.intro @o_nis (And.intro @o_int (And.intro @o_nit (And.intro @o_inl (And.intro @o_nil (And.intro @o_eq_nn (And.intro @o_ne_nn (And.intro @o_eq_nb (And.intro @o_ne_nb (And.intro @o_eq_ni (And.intro @o_ne_ni (And.intro @o_eq_ns (And.intro @o_ne_ns (And.intro @o_eq_bn (And.intro @o_ne_bn (And.intro @o_eq_bb (And.intro @o_ne_bb (And.intro @o_eq_bi (And.intro @o_ne_bi (And.intro @o_eq_bs (And.intro @o_ne_bs (And.intro @o_eq_in (And.intro @o_ne_in (And.intro @o_eq_ib (And.intro @o_ne_ib (And.intro @o_eq_is (And.intro @o_ne_is (And.intro @o_eq_sn (And.intro @o_ne_sn (And.intro @o_eq_sb (And.intro @o_ne_sb (And.intro @o_eq_si (And.intro @o_ne_si (And.intro @o_eqT0 (And.intro @o_neT0 (And.intro @pl_n (And.intro @pl_b (And.intro @pl_i (And.intro @pl_s (And.intro @pl_t (And.intro @pl_l (And.intro @pls_nil (And.intro @pls_cons (And.intro @ok_n (And.intro @ok_b (And.intro @ok_i (And.intro @ok_s (And.intro @ok_t (And.intro @ok_l (And.intro @oks_nil (And.intro @oks_cons (And.intro @o_isN (And.intro @o_isnN (And.intro @eqOk_t0 (And.intro @s_str (And.intro @s_tup (And.intro @pd0 (And.intro @pd1 (And.intro @it_lst (And.intro @it_tup (And.intro @m_up (And.intro @rc_up (And.intro @b_mult (And.intro @b_muls (And.intro @pu0 (And.intro @mk0 (And.intro @e_rev (And.intro @n_rev (And.intro @n_range (And.intro @n_sorted (And.intro @n_sortSet (And.intro @x_rais (And.intro @tr_str (And.intro @tr_non (And.intro @src_seqR (And.intro @seq_lst (And.intro @seq_tup (And.intro @seq_str (And.intro @seq_own (And.intro @l_tupl (And.intro @l_tupt (And.intro @st_one (And.intro @st_two (And.intro @st_three (And.intro @mu_appd (And.intro @mu_ext (And.intro @all_tt (And.intro @any_ff (And.intro @al_0 (And.intro @al_t (And.intro @an_0 (And.intro @an_f (And.intro @lb_cc (And.intro @lb_nn (And.intro @lb_nc (And.intro @lb_cn (And.intro @src_zts (And.intro @src_ztt (And.intro @src_zll (And.intro @m_getk (And.intro @rc_getk (@is_lst)))))))))))))))))))))))))))))))))))))))))))))))))))))))))))))))))))))))))))))))))))))))))))))))))))))))))))))))))))))))))))))))))))))))))))))))))))))))))))))))))))))))))))))))))))))))))))))))))))))))))))))))))))))))))))))))))))))))))))))))))))))))))))))))))))))))))))))))))))))))))))))))))))))))))))))))))))))))))))))))))))))))))))))))) := And.intro @r_map_cons (And.intro @r_map_nil (And.intro @r_len_cons (And.intro @r_len_nil (And.intro @r_ie_nil (And.intro @r_ie_cons (And.intro @r_any_cons (And.intro @r_omap_some (And.intro @r_obind_some (And.intro @r_any_nil (And.intro @bind_okE (And.intro @bind_excE (And.intro @bind_badE (And.intro @lift_okE (And.intro @lift_excE (And.intro @lift_badE (And.intro @nx_nx (And.intro @nx_rt (And.intro @nx_bk (And.intro @nx_ct (And.intro @nx_ex (And.intro @nx_bad (And.intro @loop_nx (And.intro @loop_ct (And.intro @loop_bk (And.intro @loop_rt (And.intro @loop_ex (And.intro @loop_bad (And.intro @d_ok (And.intro @d_own (And.intro @d_exc (And.intro @d_bad (And.intro @w_ok (And.intro @w_exc (And.intro @w_bad (And.intro @t_ok (And.intro @t_exc (And.intro @t_bad (And.intro @chk_true (And.intro @chk_false (And.intro @of_some (And.intro @of_none (And.intro @noexc_ok' (And.intro @noexc_bad (And.intro @end_nx (And.intro @end_rt (And.intro @end_ex (And.intro @end_bad (And.intro @get_zero (And.intro @get_succ (And.intro @put_zero (And.intro @put_succ (And.intro @del_zero (And.intro @del_succ (And.intro @dels_nil (And.intro @dels_cons (And.intro @vw_int (And.intro @vw_bl (And.intro @vw_str (And.intro @vw_non (And.intro @vw_tup (And.intro @vw_lst (And.intro @vw_scr (And.intro @vw_dic (And.intro @Wvw_d (And.intro @Wvw_own (And.intro @cvw_lst (And.intro @cvw_dct (And.intro @chk_of (And.intro @srcK_some (And.intro @x_nil (And.intro @x_cons (And.intro @x_asg (And.intro @x_unp (And.intro @x_par (And.intro @x_own (And.intro @x_omut (And.intro @x_fz (And.intro @x_kill (And.intro @x_exp (And.intro @x_ret (And.intro @x_retN (And.intro @x_retO (And.intro @x_retF (And.intro @x_retW (And.intro @x_ifS (And.intro @x_whl (And.intro @x_forS (And.intro @x_pass (And.intro @x_brk (And.intro @x_cnt (And.intro @t_nm (And.intro @t_sub (And.intro @t_osub (And.intro @t_nil (And.intro @t_cons (And.intro @sa_nil (And.intro @sa_cons (And.intro @sg_one (And.intro @sg_many (And.intro @e_var (And.intro @e_cst (And.intro @e_glo (And.intro @e_bin (And.intro @e_neg (And.intro @e_cmp (And.intro @e_chn (And.intro @e_bop (And.intro @e_not (And.intro @e_ife (And.intro @e_tup (And.intro @e_idx (And.intro @e_slc (And.intro @e_call (And.intro @e_blt (And.intro @e_mth (And.intro @e_join (And.intro @e_mut (And.intro @e_isi (And.intro @e_frz (And.intro @e_cel (And.intro @es0 (And.intro @es1 (And.intro @ws0 (And.intro @ws1 (And.intro @eb1 (And.intro @eb2 (And.intro @n_lst (And.intro @n_dic (And.intro @n_comp (And.intro @n_cat (And.intro @n_rep (And.intro @n_slc (And.intro @n_list (And.intro @n_call (And.intro @wC_own (And.intro @c_nil (And.intro @c_one (And.intro @b_add (And.intro @b_sub (And.intro @b_mul (And.intro @b_fdv (And.intro @b_mod (And.intro @b_pow (And.intro @b_adds (And.intro @b_addt (And.intro @o_eqi (And.intro @o_nei (And.intro @o_lti (And.intro @o_lei (And.intro @o_gti (And.intro @o_gei (And.intro @o_eqs (And.intro @o_nes (And.intro @tr_bl (And.intro @tr_int (And.intro @tr_lst (And.intro @tr_tup (And.intro @i_lst (And.intro @i_tup (And.intro @i_scr (And.intro @i_str (And.intro @i_dics (And.intro @l1 (And.intro @l2 (And.intro @l_lenl (And.intro @l_lent (And.intro @l_lenc (And.intro @l_lens (And.intro @l_inti (And.intro @l_intb (And.intro @l_min (And.intro @l_max (And.intro @l_dm (And.intro @l_sum (And.intro @src_rng2 (And.intro @src_rng1 (And.intro @listD_lst (And.intro @x_T (And.intro @q_nn (And.intro @q_nb (And.intro @q_ni (And.intro @q_ns (And.intro @q_nt (And.intro @q_nl (And.intro @q_nd (And.intro @q_bn (And.intro @q_bb (And.intro @q_bi (And.intro @q_bs (And.intro @q_bt (And.intro @q_bl (And.intro @q_bd (And.intro @q_in (And.intro @q_ib (And.intro @q_ii (And.intro @q_is (And.intro @q_it (And.intro @q_il (And.intro @q_id (And.intro @q_sn (And.intro @q_sb (And.intro @q_si (And.intro @q_ss (And.intro @q_st (And.intro @q_sl (And.intro @q_sd (And.intro @q_tn (And.intro @q_tb (And.intro @q_ti (And.intro @q_ts (And.intro @q_tt (And.intro @q_tl (And.intro @q_td (And.intro @q_ln (And.intro @q_lb (And.intro @q_li (And.intro @q_ls (And.intro @q_lt (And.intro @q_ll (And.intro @q_ld (And.intro @q_dn (And.intro @q_db (And.intro @q_di (And.intro @q_ds (And.intro @q_dt (And.intro @q_dl (And.intro @q_dd (And.intro @qs_nn (And.intro @qs_nc (And.intro @qs_cn (And.intro @qs_cc (And.intro @vw_kdic (And.intro @o_ins (And.intro @o_nis (And.intro @o_int (And.intro @o_nit (And.intro @o_inl (And.intro @o_nil (And.intro @o_eq_nn (And.intro @o_ne_nn (And.intro @o_eq_nb (And.intro @o_ne_nb (And.intro @o_eq_ni (And.intro @o_ne_ni (And.intro @o_eq_ns (And.intro @o_ne_ns (And.intro @o_eq_bn (And.intro @o_ne_bn (And.intro @o_eq_bb (And.intro @o_ne_bb (And.intro @o_eq_bi (And.intro @o_ne_bi (And.intro @o_eq_bs (And.intro @o_ne_bs (And.intro @o_eq_in (And.intro @o_ne_in (And.intro @o_eq_ib (And.intro @o_ne_ib (And.intro @o_eq_is (And.intro @o_ne_is (And.intro @o_eq_sn (And.intro @o_ne_sn (And.intro @o_eq_sb (And.intro @o_ne_sb (And.intro @o_eq_si (And.intro @o_ne_si (And.intro @o_eqT0 (And.intro @o_neT0 (And.intro @pl_n (And.intro @pl_b (And.intro @pl_i (And.intro @pl_s (And.intro @pl_t (And.intro @pl_l (And.intro @pls_nil (And.intro @pls_cons (And.intro @ok_n (And.intro @ok_b (And.intro @ok_i (And.intro @ok_s (And.intro @ok_t (And.intro @ok_l (And.intro @oks_nil (And.intro @oks_cons (And.intro @o_isN (And.intro @o_isnN (And.intro @eqOk_t0 (And.intro @s_str (And.intro @s_tup (And.intro @pd0 (And.intro @pd1 (And.intro @it_lst (And.intro @it_tup (And.intro @m_up (And.intro @rc_up (And.intro @b_mult (And.intro @b_muls (And.intro @pu0 (And.intro @mk0 (And.intro @e_rev (And.intro @n_rev (And.intro @n_range (And.intro @n_sorted (And.intro @n_sortSet (And.intro @x_rais (And.intro @tr_str (And.intro @tr_non (And.intro @src_seqR (And.intro @seq_lst (And.intro @seq_tup (And.intro @seq_str (And.intro @seq_own (And.intro @l_tupl (And.intro @l_tupt (And.intro @st_one (And.intro @st_two (And.intro @st_three (And.intro @mu_appd (And.intro @mu_ext (And.intro @all_tt (And.intro @any_ff (And.intro @al_0 (And.intro @al_t (And.intro @an_0 (And.intro @an_f (And.intro @lb_cc (And.intro @lb_nn (And.intro @lb_nc (And.intro @lb_cn (And.intro @src_zts (And.intro @src_ztt (And.intro @src_zll (And.intro @m_getk (And.intro @rc_getk (@is_lst)))))))))))))))))))))))))))))))))))))))))))))))))))))))))))))))))))))))))))))))))))))))))))))))))))))))))))))))))))))))))))))))))))))))))))))))))))))))))))))))))))))))))))))))))))))))))))))))))))))))))))))))))))))))))))))))))))))))))))))))))))))))))))))))))))))))))))))))))))))))))))))))))))))))))))))))))))))))))))))))))))))))))))))))
end Ev
set_option maxHeartbeats 4000000
/-! Ev, part 33: what sorted gives: texts, numbers. -/
namespace Ev
open PySem PySem.W PyProof.Rows
theorem le_str {a b : Nm} : dataLe false pdD (.str a) (.str b) = !decide (b < a) := by
  have h : ∀ x y : Nm, PyProof.Rows.strKind.blt x y = decide (x < y) := fun x y => by first | rfl | (simp [PyProof.Rows.strKind])
  show (!(PyProof.Rows.lexLt itemOrd [.inr b] [.inr a])) = _
  rw [PyProof.Rows.lex_cons]
  show (!(PyProof.Rows.strKind.blt b a || (!PyProof.Rows.strKind.blt a b && false))) = _
  rw [h, h, Bool.and_false, Bool.or_false]
theorem le_int {a b : Int} : dataLe false pdD (.int a) (.int b) = !decide (b < a) := by
  show (!(PyProof.Rows.lexLt itemOrd [.inl b] [.inl a])) = _
  rw [PyProof.Rows.lex_cons]
  show (!(decide (b < a) || (!decide (a < b) && false))) = _
  rw [Bool.and_false, Bool.or_false]
theorem tot (a b : D) : dataLe false pdD a b = true ∨ dataLe false pdD b a = true := (sortLe_total (listOrd itemOrd) false fun b => keyToks (pdD b)).total a b
theorem tra (a b c : D) (h1 : dataLe false pdD a b = true) (h2 : dataLe false pdD b c = true) : dataLe false pdD a c = true := (sortLe_total (listOrd itemOrd) false fun b => keyToks (pdD b)).trans a b c h1 h2
theorem sortD_pair (xs : List D) : (sortD xs).Pairwise fun a b => dataLe false pdD a b = true :=
  List.pairwise_mergeSort (fun a b c h1 h2 => tra a b c h1 h2) (fun a b => by simpa using tot a b) xs
theorem sortD_perm (xs : List D) : (sortD xs).Perm xs := List.mergeSort_perm ..
theorem sortD_strs (ns : List Nm) : ∃ zs : List Nm, sortD (ns.map D.str) = zs.map D.str ∧ zs.Perm ns ∧ zs.Pairwise fun a b => ¬ b < a := by
  refine ⟨ns.mergeSort fun a b => dataLe false pdD (.str a) (.str b), (List.map_mergeSort (f := D.str) (s := dataLe false pdD) (r := fun a b => dataLe false pdD (.str a) (.str b)) (l := ns) fun _ _ _ _ => rfl).symm, List.mergeSort_perm .., ?_⟩
  have := List.pairwise_mergeSort (le := fun a b : Nm => dataLe false pdD (.str a) (.str b)) (fun a b c h1 h2 => tra _ _ _ h1 h2) (fun a b => by simpa using tot _ _) ns
  refine this.imp fun h => ?_
  rw [le_str] at h
  simpa using h
theorem sortD_ints (ns : List Int) : ∃ zs : List Int, sortD (ns.map D.int) = zs.map D.int ∧ zs.Perm ns ∧ zs.Pairwise fun a b => a ≤ b := by
  refine ⟨ns.mergeSort fun a b => dataLe false pdD (.int a) (.int b), (List.map_mergeSort (f := D.int) (s := dataLe false pdD) (r := fun a b => dataLe false pdD (.int a) (.int b)) (l := ns) fun _ _ _ _ => rfl).symm, List.mergeSort_perm .., ?_⟩
  have := List.pairwise_mergeSort (le := fun a b : Int => dataLe false pdD (.int a) (.int b)) (fun a b c h1 h2 => tra _ _ _ h1 h2) (fun a b => by simpa using tot _ _) ns
  refine this.imp fun {a b} h => ?_
  rw [le_int] at h
  have h : ¬ b < a := by simpa using h
  omega
theorem okDs_strs {n : Nat} : ∀ ns : List Nm, okDs (ns.map D.str) n = true
  | [] => rfl
  | _ :: ns => by
    show (true && okDs (ns.map D.str) n) = true
    rw [okDs_strs ns]; rfl
theorem okDs_ints {n : Nat} : ∀ ns : List Int, okDs (ns.map D.int) n = true
  | [] => rfl
  | _ :: ns => by
    show (true && okDs (ns.map D.int) n) = true
    rw [okDs_ints ns]; rfl
theorem ordOk_strs (ns : List Nm) : ordOk (ns.map D.str) = true := by
  have h1 : (ns.map D.str).all isS = true := by rw [List.all_map]; exact List.all_eq_true.mpr fun _ _ => rfl
  have h2 : ((ns.map D.str).all fun x => (ns.map D.str).all fun y => alike (pdD x) (pdD y)) = true := by
    rw [List.all_map]
    refine List.all_eq_true.mpr fun _ _ => ?_
    show ((ns.map D.str).all _) = true
    rw [List.all_map]
    exact List.all_eq_true.mpr fun _ _ => rfl
  unfold ordOk
  rw [okDs_strs, h1, h2, Bool.true_or, Bool.or_true]
  rfl
theorem ordOk_ints (ns : List Int) : ordOk (ns.map D.int) = true := by
  have h1 : (ns.map D.int).all isI = true := by rw [List.all_map]; exact List.all_eq_true.mpr fun _ _ => rfl
  have h2 : ((ns.map D.int).all fun x => (ns.map D.int).all fun y => alike (pdD x) (pdD y)) = true := by
    rw [List.all_map]
    refine List.all_eq_true.mpr fun _ _ => ?_
    show ((ns.map D.int).all _) = true
    rw [List.all_map]
    exact List.all_eq_true.mpr fun _ _ => rfl
  unfold ordOk
  rw [okDs_ints, h1, h2, Bool.true_or]
  rfl
end Ev
set_option maxHeartbeats 0
/-! the little programs of k08, printed by genlaw.py -/
namespace Ev
abbrev F_is_whole : Nat := 0
abbrev F_is_day : Nat := 1
abbrev F_is_name : Nat := 2
abbrev F_is_since : Nat := 3
abbrev F_is_span_told : Nat := 4
abbrev F_is_rule : Nat := 5
abbrev F_are_makers : Nat := 6
abbrev F_is_aim : Nat := 7
abbrev F_fits_form : Nat := 8
abbrev F_is_deed : Nat := 9
abbrev F_quarrel : Nat := 10
abbrev F_go_together : Nat := 11
abbrev F__law_mixed : Nat := 12
abbrev F__law_pack : Nat := 13
abbrev F__law_take : Nat := 14
abbrev F__law_names : Nat := 15
abbrev F__law_parts : Nat := 16
abbrev F__law_deed : Nat := 17
abbrev F__law_put : Nat := 18
abbrev F__law_once : Nat := 19
abbrev F__law_quarrel : Nat := 20
abbrev F__law_is : Nat := 21
abbrev F__law_pairs_right : Nat := 22
abbrev F__law_together : Nat := 23
abbrev F_law : Nat := 24
def c_LAST_DAY : D := (.int 99999)
def c_LETTERS : D := (.str [97,98,99,100,101,102,103,104,105,106,107,108,109,110,111,112,113,114,115,116,117,118,119,120,121,122])
def c_UNITS : D := (.tup [(.str [100,97,121,115]), (.str [109,111,110,116,104,115]), (.str [121,101,97,114,115])])
def c_MOST_LETTERS : D := (.int 8)
def c_MOST_MANY : D := (.int 999)
def c_MOST_MAKERS : D := (.int 4)
def c_FORMS : D := (.kdic [([112, 97, 112, 101, 114], (.str [110,110,109])), ([104, 97, 112, 112, 101, 110, 115], (.str [110,110])), ([114, 117, 108, 101], (.str [110,114])), ([101, 110, 100], (.str [110])), ([104, 111, 108, 100], (.str [110,116,98])), ([108, 105, 102, 116], (.str [110])), ([108, 101, 97, 118, 101], (.str [110,110]))])
def c_TURNED : D := (.tup [(.tup [(.str [114,117,108,101]), (.str [101,110,100])]), (.tup [(.str [104,111,108,100]), (.str [108,105,102,116])])])
def b_is_whole : Fd where
  ps := 1
  nn := 1
  body := [
  .ret (.bop true [.isi (.var 0) ["int"], .not (.isi (.var 0) ["bool"])])]

def b_is_day : Fd where
  ps := 1
  nn := 1
  body := [
  .ret (.bop true [.call F_is_whole [.var 0], .chn .le .le (.cst (.int 0)) (.var 0) (.glo "LAST_DAY" c_LAST_DAY)])]

def m_is_name_1 : Ex := .cmp .inn (.var 1) (.glo "LETTERS" c_LETTERS)
def b_is_name : Fd where
  ps := 1
  nn := 2
  body := [
  .ifS (.bop false [.not (.isi (.var 0) ["str"]), .not (.chn .le .le (.cst (.int 1)) (.blt .len [.var 0]) (.glo "MOST_LETTERS" c_MOST_LETTERS))]) [
    .ret (.cst (.bl false))] [],
  .ret (.blt .all [.frz (.comp [1] .seq [.var 0] [] m_is_name_1)])]

def b_is_since : Fd where
  ps := 1
  nn := 1
  body := [
  .ifS (.bop false [.not (.isi (.var 0) ["tuple"]), .cmp .eq (.var 0) (.tup []), .not (.isi (.idx (.var 0) (.cst (.int 0))) ["str"])]) [
    .ret (.cst (.bl false))] [],
  .ifS (.cmp .eq (.idx (.var 0) (.cst (.int 0))) (.cst (.str [99,111,109,105,110,103]))) [
    .ret (.cmp .eq (.blt .len [.var 0]) (.cst (.int 1)))] [],
  .ret (.bop true [.cmp .eq (.blt .len [.var 0]) (.cst (.int 2)), .cmp .inn (.idx (.var 0) (.cst (.int 0))) (.tup [.cst (.str [102,105,114,115,116]), .cst (.str [108,97,115,116])]), .call F_is_name [.idx (.var 0) (.cst (.int 1))]])]

def b_is_span_told : Fd where
  ps := 2
  nn := 2
  body := [
  .ifS (.bop false [.not (.call F_is_whole [.var 0]), .not (.chn .le .le (.cst (.int 0)) (.var 0) (.glo "MOST_MANY" c_MOST_MANY))]) [
    .ret (.cst (.bl false))] [],
  .ret (.bop true [.isi (.var 1) ["str"], .cmp .inn (.var 1) (.glo "UNITS" c_UNITS)])]

def b_is_rule : Fd where
  ps := 1
  nn := 1
  body := [
  .ifS (.bop false [.not (.isi (.var 0) ["tuple"]), .cmp .nin (.blt .len [.var 0]) (.tup [.cst (.int 2), .cst (.int 5)]), .not (.isi (.idx (.var 0) (.cst (.int 0))) ["str"])]) [
    .ret (.cst (.bl false))] [],
  .ifS (.not (.call F_is_name [.idx (.var 0) (.cst (.int 1))])) [
    .ret (.cst (.bl false))] [],
  .ifS (.cmp .eq (.blt .len [.var 0]) (.cst (.int 2))) [
    .ret (.cmp .inn (.idx (.var 0) (.cst (.int 0))) (.tup [.cst (.str [119,104,105,108,101]), .cst (.str [102,111,108,108,111,119]), .cst (.str [108,101,97,118,101])]))] [],
  .ret (.bop true [.cmp .inn (.idx (.var 0) (.cst (.int 0))) (.tup [.cst (.str [107,101,101,112]), .cst (.str [103,111,110,101])]), .call F_is_since [.idx (.var 0) (.cst (.int 2))], .call F_is_span_told [.idx (.var 0) (.cst (.int 3)), .idx (.var 0) (.cst (.int 4))]])]

def m_are_makers_1 : Ex := .call F_is_name [.var 2]
def m_are_makers_2 : Ex := .cmp .lt (.idx (.var 0) (.var 1)) (.idx (.var 0) (.bin .add (.var 1) (.cst (.int 1))))
def b_are_makers : Fd where
  ps := 1
  nn := 3
  body := [
  .ifS (.bop false [.not (.isi (.var 0) ["tuple"]), .cmp .gt (.blt .len [.var 0]) (.glo "MOST_MAKERS" c_MOST_MAKERS), .not (.blt .all [.frz (.comp [2] .seq [.var 0] [] m_are_makers_1)])]) [
    .ret (.cst (.bl false))] [],
  .ret (.blt .all [.frz (.comp [1] .range [.bin .sub (.blt .len [.var 0]) (.cst (.int 1))] [] m_are_makers_2)])]

def b_is_aim : Fd where
  ps := 1
  nn := 1
  body := [
  .ifS (.bop false [.not (.isi (.var 0) ["tuple"]), .cmp .ne (.blt .len [.var 0]) (.cst (.int 2)), .not (.isi (.idx (.var 0) (.cst (.int 0))) ["str"])]) [
    .ret (.cst (.bl false))] [],
  .ret (.bop true [.cmp .inn (.idx (.var 0) (.cst (.int 0))) (.tup [.cst (.str [112,97,112,101,114]), .cst (.str [107,105,110,100])]), .call F_is_name [.idx (.var 0) (.cst (.int 1))]])]

def b_fits_form : Fd where
  ps := 2
  nn := 2
  body := [
  .ifS (.cmp .eq (.var 1) (.cst (.str [110]))) [
    .ret (.call F_is_name [.var 0])] [],
  .ifS (.cmp .eq (.var 1) (.cst (.str [109]))) [
    .ret (.call F_are_makers [.var 0])] [],
  .ifS (.cmp .eq (.var 1) (.cst (.str [114]))) [
    .ret (.call F_is_rule [.var 0])] [],
  .ifS (.cmp .eq (.var 1) (.cst (.str [116]))) [
    .ret (.call F_is_aim [.var 0])] [],
  .ret (.isi (.var 0) ["bool"])]

def m_is_deed_1 : Ex := .call F_fits_form [.var 2, .var 3]
def b_is_deed : Fd where
  ps := 1
  nn := 4
  body := [
  .ifS (.bop false [.not (.isi (.var 0) ["tuple"]), .cmp .lt (.blt .len [.var 0]) (.cst (.int 3)), .not (.isi (.idx (.var 0) (.cst (.int 0))) ["str"])]) [
    .ret (.cst (.bl false))] [],
  .asg (.nm 1) (.mth .get (.glo "FORMS" c_FORMS) [.idx (.var 0) (.cst (.int 0))]),
  .ifS (.bop false [.cmp .is (.var 1) (.cst (.non)), .cmp .ne (.blt .len [.var 1]) (.bin .sub (.blt .len [.var 0]) (.cst (.int 2))), .not (.call F_is_day [.idx (.var 0) (.cst (.int 1))])]) [
    .ret (.cst (.bl false))] [],
  .ret (.blt .all [.frz (.comp [2, 3] .zip [.slc (.var 0) [.cst (.int 2)] [], .var 1] [] m_is_deed_1)])]

def m_quarrel_1 : Ex := .bop true [.cmp .inn (.idx (.var 0) (.cst (.int 0))) (.var 2), .cmp .inn (.idx (.var 1) (.cst (.int 0))) (.var 2)]
def b_quarrel : Fd where
  ps := 2
  nn := 3
  body := [
  .ifS (.cmp .eq (.var 0) (.var 1)) [
    .ret (.cst (.bl true))] [],
  .ifS (.cmp .ne (.idx (.var 0) (.cst (.int 2))) (.idx (.var 1) (.cst (.int 2)))) [
    .ret (.cst (.bl false))] [],
  .ifS (.bop true [.cmp .eq (.idx (.var 0) (.cst (.int 0))) (.idx (.var 1) (.cst (.int 0))), .cmp .inn (.idx (.var 0) (.cst (.int 0))) (.tup [.cst (.str [112,97,112,101,114]), .cst (.str [108,101,97,118,101])])]) [
    .ret (.cst (.bl true))] [],
  .ret (.bop true [.cmp .eq (.idx (.var 0) (.cst (.int 1))) (.idx (.var 1) (.cst (.int 1))), .blt .any [.frz (.comp [2] .seq [.glo "TURNED" c_TURNED] [] m_quarrel_1)]])]

def m_go_together_1 : Ex := .call F_quarrel [.idx (.var 0) (.var 2), .idx (.var 0) (.var 1)]
def l_go_together_2 : List St := [
  .ifS (.blt .any [.frz (.comp [2] .range [.var 1] [] m_go_together_1)]) [
    .ret (.cst (.bl false))] []]
def b_go_together : Fd where
  ps := 1
  nn := 3
  body := [
  .forS [1] .range [.blt .len [.var 0]] l_go_together_2,
  .ret (.cst (.bl true))]

def b__law_mixed : Fd where
  ps := 1
  nn := 1
  body := [
  .ret (.bin .mod (.bin .mul (.var 0) (.cst (.int 161803398874989484820458683436563811772030917980576286213547))) (.bin .pow (.cst (.int 10)) (.cst (.int 60))))]

def b__law_pack : Fd where
  ps := 2
  nn := 2
  body := [
  .ifS (.cmp .lt (.var 1) (.blt .len [.var 0])) [
    .retW (.lst [.call F__law_mixed [.bin .add (.idx (.var 0) (.var 1)) (.bin .mul (.cst (.int 31)) (.var 1))]])] [],
  .retW (.lst [.call F__law_mixed [.bin .add (.bin .mul (.cst (.int 7919)) (.var 1)) (.cst (.int 11))]])]

def b__law_take : Fd where
  ps := 2
  nn := 3
  body := [
  .unp [.sub (.var 0) (.cst (.int 0)), .nm 2] (.blt .divmod [.idx (.var 0) (.cst (.int 0)), .var 1]),
  .ret (.var 2)]

def m__law_names_1 : Ex := .slc (.var 1) [] [.bin .add (.bin .add (.cst (.int 1)) (.var 5)) (.bin .mod (.var 4) (.cst (.int 6)))]
def m__law_names_2 : Ex := .bin .add (.bin .add (.slc (.var 1) [.cst (.int 9)] [.bin .add (.cst (.int 9)) (.var 2)]) (.idx (.var 1) (.var 5))) (.slc (.var 1) [.bin .add (.cst (.int 9)) (.var 2)] [.bin .add (.cst (.int 9)) (.var 4)])
def b__law_names : Fd where
  ps := 1
  nn := 6
  body := [
  .asg (.nm 1) (.cst (.str [97,98,99,100,101,102,103,104,105,106,107,108,109,110,111,112,113,114,115,116,117,118,119,120,121,122])),
  .unp [.nm 3, .nm 4] (.tup [.call F__law_take [.var 0, .cst (.int 26)], .call F__law_take [.var 0, .cst (.int 8)]]),
  .asg (.nm 1) (.bin .add (.slc (.var 1) [.var 3] []) (.slc (.var 1) [] [.var 3])),
  .ifS (.cmp .eq (.call F__law_take [.var 0, .cst (.int 3)]) (.cst (.int 0))) [
    .ret (.frz (.comp [5] .range [.bin .add (.cst (.int 2)) (.call F__law_take [.var 0, .cst (.int 2)])] [] m__law_names_1))] [],
  .asg (.nm 2) (.call F__law_take [.var 0, .bin .add (.var 4) (.cst (.int 1))]),
  .ret (.frz (.comp [5] .range [.bin .add (.cst (.int 2)) (.call F__law_take [.var 0, .cst (.int 2)])] [] m__law_names_2))]

def b__law_parts : Fd where
  ps := 2
  nn := 5
  body := [
  .asg (.nm 2) (.idx (.var 1) (.call F__law_take [.var 0, .blt .len [.var 1]])),
  .asg (.nm 3) (.idx (.frz (.lst [.cst (.str [107,101,101,112]), .cst (.str [103,111,110,101]), .cst (.str [119,104,105,108,101]), .cst (.str [102,111,108,108,111,119]), .cst (.str [108,101,97,118,101])])) (.call F__law_take [.var 0, .cst (.int 5)])),
  .asg (.nm 4) (.idx (.frz (.lst [.tup [.cst (.str [99,111,109,105,110,103])], .tup [.cst (.str [102,105,114,115,116]), .idx (.var 1) (.cst (.int 0))], .tup [.cst (.str [108,97,115,116]), .idx (.var 1) (.cst (.int 0))]])) (.call F__law_take [.var 0, .cst (.int 3)])),
  .ifS (.cmp .inn (.var 3) (.tup [.cst (.str [107,101,101,112]), .cst (.str [103,111,110,101])])) [
    .ret (.tup [.var 3, .var 2, .var 4, .idx (.frz (.lst [.cst (.int 0), .cst (.int 1), .cst (.int 999)])) (.call F__law_take [.var 0, .cst (.int 3)]), .idx (.frz (.lst [.cst (.str [100,97,121,115]), .cst (.str [109,111,110,116,104,115]), .cst (.str [121,101,97,114,115])])) (.call F__law_take [.var 0, .cst (.int 3)])])] [],
  .ret (.tup [.var 3, .var 2])]

def b__law_deed : Fd where
  ps := 2
  nn := 6
  body := [
  .asg (.nm 2) (.idx (.frz (.lst [.call F__law_take [.var 0, .cst (.int 4)], .call F__law_take [.var 0, .cst (.int 100000)]])) (.blt .int [.cmp .eq (.call F__law_take [.var 0, .cst (.int 4)]) (.cst (.int 0))])),
  .par [4, 5] [.idx (.var 1) (.call F__law_take [.var 0, .blt .len [.var 1]]), .idx (.var 1) (.call F__law_take [.var 0, .blt .len [.var 1]])],
  .asg (.nm 3) (.call F__law_take [.var 0, .cst (.int 7)]),
  .ifS (.cmp .eq (.var 3) (.cst (.int 0))) [
    .ret (.tup [.cst (.str [112,97,112,101,114]), .var 2, .var 4, .var 5, .blt .tup [.frz (.slc (.frz (.sorted (.var 1))) [] [.call F__law_take [.var 0, .cst (.int 3)]])]])] [],
  .ifS (.cmp .eq (.var 3) (.cst (.int 1))) [
    .ret (.tup [.cst (.str [104,97,112,112,101,110,115]), .var 2, .var 4, .var 5])] [],
  .ifS (.cmp .eq (.var 3) (.cst (.int 2))) [
    .ret (.tup [.cst (.str [114,117,108,101]), .var 2, .var 4, .call F__law_parts [.var 0, .var 1]])] [],
  .ifS (.cmp .eq (.var 3) (.cst (.int 3))) [
    .ret (.tup [.cst (.str [101,110,100]), .var 2, .var 4])] [],
  .ifS (.cmp .eq (.var 3) (.cst (.int 4))) [
    .ret (.tup [.cst (.str [104,111,108,100]), .var 2, .var 4, .tup [.idx (.frz (.lst [.cst (.str [112,97,112,101,114]), .cst (.str [107,105,110,100])])) (.call F__law_take [.var 0, .cst (.int 2)]), .var 5], .cmp .eq (.call F__law_take [.var 0, .cst (.int 2)]) (.cst (.int 0))])] [],
  .ifS (.cmp .eq (.var 3) (.cst (.int 5))) [
    .ret (.tup [.cst (.str [108,105,102,116]), .var 2, .var 4])] [],
  .ret (.tup [.cst (.str [108,101,97,118,101]), .var 2, .var 4, .var 5])]

def b__law_put : Fd where
  ps := 3
  nn := 5
  body := [
  .asg (.nm 3) (.call F__law_deed [.var 1, .var 2]),
  .asg (.nm 4) (.call F__law_take [.var 1, .cst (.int 5)]),
  .ifS (.cmp .eq (.var 4) (.cst (.int 0))) [
    .ret (.bin .add (.tup [.idx (.var 0) (.cst (.int 0)), .idx (.var 3) (.cst (.int 1))]) (.slc (.var 0) [.cst (.int 2)] []))] [],
  .ifS (.cmp .eq (.var 4) (.cst (.int 1))) [
    .ret (.bin .add (.bin .add (.slc (.var 0) [] [.cst (.int 2)]) (.tup [.idx (.var 3) (.cst (.int 2))])) (.slc (.var 0) [.cst (.int 3)] []))] [],
  .ifS (.cmp .eq (.var 4) (.cst (.int 2))) [
    .ret (.bin .add (.bin .add (.tup [.idx (.var 3) (.cst (.int 0))]) (.slc (.var 0) [.cst (.int 1)] [.cst (.int 3)])) (.slc (.var 3) [.cst (.int 3)] []))] [],
  .ifS (.bop true [.cmp .eq (.var 4) (.cst (.int 3)), .cmp .eq (.idx (.var 3) (.cst (.int 0))) (.idx (.var 0) (.cst (.int 0)))]) [
    .ret (.bin .add (.slc (.var 0) [] [.cst (.int 3)]) (.slc (.var 3) [.cst (.int 3)] []))] [],
  .ret (.var 0)]

def b__law_once : Fd where
  ps := 1
  nn := 2
  body := [
  .own 1 (.lst [.var 0]),
  .ifS (.cmp .inn (.idx (.var 0) (.cst (.int 0))) (.tup [.cst (.str [112,97,112,101,114]), .cst (.str [108,101,97,118,101])])) [
    .omut 1 .append [.tup [.idx (.var 0) (.cst (.int 0)), .idx (.var 0) (.cst (.int 2))]]] [],
  .ifS (.cmp .inn (.idx (.var 0) (.cst (.int 0))) (.tup [.cst (.str [114,117,108,101]), .cst (.str [101,110,100])])) [
    .omut 1 .append [.tup [.cst (.str [114,117,108,101,32,111,114,32,101,110,100]), .idx (.var 0) (.cst (.int 1)), .idx (.var 0) (.cst (.int 2))]]] [],
  .ifS (.cmp .inn (.idx (.var 0) (.cst (.int 0))) (.tup [.cst (.str [104,111,108,100]), .cst (.str [108,105,102,116])])) [
    .omut 1 .append [.tup [.cst (.str [104,111,108,100,32,111,114,32,108,105,102,116]), .idx (.var 0) (.cst (.int 1)), .idx (.var 0) (.cst (.int 2))]]] [],
  .retF 1]

def m__law_quarrel_1 : Ex := .cmp .inn (.var 2) (.call F__law_once [.var 1])
def b__law_quarrel : Fd where
  ps := 2
  nn := 3
  body := [
  .ret (.blt .any [.frz (.comp [2] .seq [.call F__law_once [.var 0]] [] m__law_quarrel_1)])]

def b__law_is : Fd where
  ps := 2
  nn := 2
  body := [
  .ret (.bop true [.isi (.var 0) ["bool"], .cmp .eq (.var 0) (.var 1)])]

def l__law_pairs_right_1 : List St := [
  .asg (.nm 3) (.call F__law_quarrel [.var 1, .var 2]),
  .ifS (.bop false [.not (.call F__law_is [.call F_quarrel [.var 1, .var 2], .var 3]), .not (.call F__law_is [.call F_go_together [.tup [.var 1, .var 2]], .not (.var 3)])]) [
    .ret (.cst (.bl false))] []]
def l__law_pairs_right_2 : List St := [
  .forS [2] .seq [.var 0] l__law_pairs_right_1]
def b__law_pairs_right : Fd where
  ps := 1
  nn := 4
  body := [
  .forS [1] .seq [.var 0] l__law_pairs_right_2,
  .ret (.cst (.bl true))]

def m__law_together_1 : Ex := .call F__law_quarrel [.idx (.var 0) (.var 1), .var 2]
def l__law_together_2 : List St := [
  .ifS (.blt .any [.frz (.comp [2] .seq [.frz (.slc (.var 0) [] [.var 1])] [] m__law_together_1)]) [
    .ret (.cst (.bl false))] []]
def b__law_together : Fd where
  ps := 1
  nn := 3
  body := [
  .forS [1] .range [.blt .len [.var 0]] l__law_together_2,
  .ret (.cst (.bl true))]

def l_law_1 : List St := [
  .asg (.nm 6) (.cel (.call F__law_pack [.var 0, .var 3])),
  .asg (.nm 7) (.call F__law_deed [.var 6, .var 1]),
  .ifS (.bop true [.cmp .ne (.var 2) (.frz (.lst [])), .cmp .eq (.call F__law_take [.var 6, .cst (.int 2)]) (.cst (.int 0))]) [
    .asg (.nm 7) (.call F__law_put [.idx (.var 2) (.call F__law_take [.var 6, .blt .len [.var 2]]), .var 6, .var 1])] [],
  .omut 2 .append [.var 7]]
def m_law_2 : Ex := .call F__law_is [.call F_is_deed [.var 7], .cst (.bl true)]
def m_law_3 : Ex := .call F__law_quarrel [.idx (.var 2) (.var 3), .var 8]
def l_law_4 : List St := [
  .ifS (.not (.call F__law_is [.call F_go_together [.blt .tup [.frz (.slc (.var 2) [] [.var 3])]], .call F__law_together [.frz (.slc (.var 2) [] [.var 3])]])) [
    .ret (.cst (.bl false))] [],
  .ifS (.not (.blt .any [.frz (.comp [8] .seq [.var 4] [] m_law_3)])) [
    .omut 4 .append [.idx (.var 2) (.var 3)]] []]
def l_law_5 : List St := [
  .fz 2,
  .ifS (.not (.call F__law_is [.call F_go_together [.blt .tup [.var 5]], .call F__law_together [.var 2]])) [
    .ret (.cst (.bl false))] []]
def l_law_6 : List St := [
  .ifS (.not (.call F__law_is [.call F_go_together [.blt .tup [.frz (.cat (.frz (.slc (.var 4) [] [.var 3])) (.frz (.slc (.var 4) [.bin .add (.var 3) (.cst (.int 1))] [])))]], .cst (.bl true)])) [
    .ret (.cst (.bl false))] [],
  .ifS (.not (.call F__law_is [.call F_go_together [.blt .tup [.frz (.cat (.var 4) (.frz (.slc (.var 4) [.var 3] [.bin .add (.var 3) (.cst (.int 1))])))]], .cst (.bl false)])) [
    .ret (.cst (.bl false))] []]
def b_law : Fd where
  ps := 1
  nn := 9
  body := [
  .asg (.nm 1) (.call F__law_names [.cel (.call F__law_pack [.var 0, .cst (.int 0)])]),
  .own 2 (.lst []),
  .forS [3] .range [.cst (.int 1), .blt .max [.cst (.int 5), .blt .min [.blt .len [.var 0], .cst (.int 17)]]] l_law_1,
  .fz 2,
  .ifS (.bop false [.not (.blt .all [.frz (.comp [7] .seq [.var 2] [] m_law_2)]), .not (.call F__law_pairs_right [.var 2])]) [
    .ret (.cst (.bl false))] [],
  .own 4 (.lst []),
  .forS [3] .range [.blt .len [.var 2]] l_law_4,
  .forS [5] .seq [.frz (.lst [.frz (.rev (.var 2)), .frz (.cat (.frz (.slc (.var 2) [.cst (.int 1)] [])) (.frz (.slc (.var 2) [] [.cst (.int 1)]))), .var 2])] l_law_5,
  .forS [3] .range [.blt .len [.var 4]] l_law_6,
  .ret (.bop true [.call F__law_is [.call F_go_together [.blt .tup [.var 4]], .cst (.bl true)], .call F__law_is [.call F_go_together [.blt .tup [.frz (.rev (.var 4))]], .cst (.bl true)]])]

def tab : List Fd := [b_is_whole, b_is_day, b_is_name, b_is_since, b_is_span_told, b_is_rule, b_are_makers, b_is_aim, b_fits_form, b_is_deed, b_quarrel, b_go_together, b__law_mixed, b__law_pack, b__law_take, b__law_names, b__law_parts, b__law_deed, b__law_put, b__law_once, b__law_quarrel, b__law_is, b__law_pairs_right, b__law_together, b_law]
theorem run_is_whole {n : Nat} {a0 : D} {S : Sto} : call (progT tab) (n + 1) F_is_whole [a0] S = endF (evSs (call (progT tab) n) b_is_whole.body [some (.d a0)] S) := call_eq (fd := b_is_whole) rfl rfl rfl
theorem run_is_day {n : Nat} {a0 : D} {S : Sto} : call (progT tab) (n + 1) F_is_day [a0] S = endF (evSs (call (progT tab) n) b_is_day.body [some (.d a0)] S) := call_eq (fd := b_is_day) rfl rfl rfl
theorem run_is_name {n : Nat} {a0 : D} {S : Sto} : call (progT tab) (n + 1) F_is_name [a0] S = endF (evSs (call (progT tab) n) b_is_name.body [some (.d a0), none] S) := call_eq (fd := b_is_name) rfl rfl rfl
theorem run_is_since {n : Nat} {a0 : D} {S : Sto} : call (progT tab) (n + 1) F_is_since [a0] S = endF (evSs (call (progT tab) n) b_is_since.body [some (.d a0)] S) := call_eq (fd := b_is_since) rfl rfl rfl
theorem run_is_span_told {n : Nat} {a0 a1 : D} {S : Sto} : call (progT tab) (n + 1) F_is_span_told [a0, a1] S = endF (evSs (call (progT tab) n) b_is_span_told.body [some (.d a0), some (.d a1)] S) := call_eq (fd := b_is_span_told) rfl rfl rfl
theorem run_is_rule {n : Nat} {a0 : D} {S : Sto} : call (progT tab) (n + 1) F_is_rule [a0] S = endF (evSs (call (progT tab) n) b_is_rule.body [some (.d a0)] S) := call_eq (fd := b_is_rule) rfl rfl rfl
theorem run_are_makers {n : Nat} {a0 : D} {S : Sto} : call (progT tab) (n + 1) F_are_makers [a0] S = endF (evSs (call (progT tab) n) b_are_makers.body [some (.d a0), none, none] S) := call_eq (fd := b_are_makers) rfl rfl rfl
theorem run_is_aim {n : Nat} {a0 : D} {S : Sto} : call (progT tab) (n + 1) F_is_aim [a0] S = endF (evSs (call (progT tab) n) b_is_aim.body [some (.d a0)] S) := call_eq (fd := b_is_aim) rfl rfl rfl
theorem run_fits_form {n : Nat} {a0 a1 : D} {S : Sto} : call (progT tab) (n + 1) F_fits_form [a0, a1] S = endF (evSs (call (progT tab) n) b_fits_form.body [some (.d a0), some (.d a1)] S) := call_eq (fd := b_fits_form) rfl rfl rfl
theorem run_is_deed {n : Nat} {a0 : D} {S : Sto} : call (progT tab) (n + 1) F_is_deed [a0] S = endF (evSs (call (progT tab) n) b_is_deed.body [some (.d a0), none, none, none] S) := call_eq (fd := b_is_deed) rfl rfl rfl
theorem run_quarrel {n : Nat} {a0 a1 : D} {S : Sto} : call (progT tab) (n + 1) F_quarrel [a0, a1] S = endF (evSs (call (progT tab) n) b_quarrel.body [some (.d a0), some (.d a1), none] S) := call_eq (fd := b_quarrel) rfl rfl rfl
theorem run_go_together {n : Nat} {a0 : D} {S : Sto} : call (progT tab) (n + 1) F_go_together [a0] S = endF (evSs (call (progT tab) n) b_go_together.body [some (.d a0), none, none] S) := call_eq (fd := b_go_together) rfl rfl rfl
theorem run__law_mixed {n : Nat} {a0 : D} {S : Sto} : call (progT tab) (n + 1) F__law_mixed [a0] S = endF (evSs (call (progT tab) n) b__law_mixed.body [some (.d a0)] S) := call_eq (fd := b__law_mixed) rfl rfl rfl
theorem run__law_pack {n : Nat} {a0 a1 : D} {S : Sto} : call (progT tab) (n + 1) F__law_pack [a0, a1] S = endF (evSs (call (progT tab) n) b__law_pack.body [some (.d a0), some (.d a1)] S) := call_eq (fd := b__law_pack) rfl rfl rfl
theorem run__law_take {n : Nat} {a0 a1 : D} {S : Sto} : call (progT tab) (n + 1) F__law_take [a0, a1] S = endF (evSs (call (progT tab) n) b__law_take.body [some (.d a0), some (.d a1), none] S) := call_eq (fd := b__law_take) rfl rfl rfl
theorem run__law_names {n : Nat} {a0 : D} {S : Sto} : call (progT tab) (n + 1) F__law_names [a0] S = endF (evSs (call (progT tab) n) b__law_names.body [some (.d a0), none, none, none, none, none] S) := call_eq (fd := b__law_names) rfl rfl rfl
theorem run__law_parts {n : Nat} {a0 a1 : D} {S : Sto} : call (progT tab) (n + 1) F__law_parts [a0, a1] S = endF (evSs (call (progT tab) n) b__law_parts.body [some (.d a0), some (.d a1), none, none, none] S) := call_eq (fd := b__law_parts) rfl rfl rfl
theorem run__law_deed {n : Nat} {a0 a1 : D} {S : Sto} : call (progT tab) (n + 1) F__law_deed [a0, a1] S = endF (evSs (call (progT tab) n) b__law_deed.body [some (.d a0), some (.d a1), none, none, none, none] S) := call_eq (fd := b__law_deed) rfl rfl rfl
theorem run__law_put {n : Nat} {a0 a1 a2 : D} {S : Sto} : call (progT tab) (n + 1) F__law_put [a0, a1, a2] S = endF (evSs (call (progT tab) n) b__law_put.body [some (.d a0), some (.d a1), some (.d a2), none, none] S) := call_eq (fd := b__law_put) rfl rfl rfl
theorem run__law_once {n : Nat} {a0 : D} {S : Sto} : call (progT tab) (n + 1) F__law_once [a0] S = endF (evSs (call (progT tab) n) b__law_once.body [some (.d a0), none] S) := call_eq (fd := b__law_once) rfl rfl rfl
theorem run__law_quarrel {n : Nat} {a0 a1 : D} {S : Sto} : call (progT tab) (n + 1) F__law_quarrel [a0, a1] S = endF (evSs (call (progT tab) n) b__law_quarrel.body [some (.d a0), some (.d a1), none] S) := call_eq (fd := b__law_quarrel) rfl rfl rfl
theorem run__law_is {n : Nat} {a0 a1 : D} {S : Sto} : call (progT tab) (n + 1) F__law_is [a0, a1] S = endF (evSs (call (progT tab) n) b__law_is.body [some (.d a0), some (.d a1)] S) := call_eq (fd := b__law_is) rfl rfl rfl
theorem run__law_pairs_right {n : Nat} {a0 : D} {S : Sto} : call (progT tab) (n + 1) F__law_pairs_right [a0] S = endF (evSs (call (progT tab) n) b__law_pairs_right.body [some (.d a0), none, none, none] S) := call_eq (fd := b__law_pairs_right) rfl rfl rfl
theorem run__law_together {n : Nat} {a0 : D} {S : Sto} : call (progT tab) (n + 1) F__law_together [a0] S = endF (evSs (call (progT tab) n) b__law_together.body [some (.d a0), none, none] S) := call_eq (fd := b__law_together) rfl rfl rfl
theorem run_law {n : Nat} {a0 : D} {S : Sto} : call (progT tab) (n + 1) F_law [a0] S = endF (evSs (call (progT tab) n) b_law.body [some (.d a0), none, none, none, none, none, none, none, none] S) := call_eq (fd := b_law) rfl rfl rfl
end Ev
set_option maxHeartbeats 4000000
namespace Ev
abbrev P : Nat → Fd := progT tab
variable {n : Nat} {S : Sto}
abbrev letters : Nm := [97,98,99,100,101,102,103,104,105,106,107,108,109,110,111,112,113,114,115,116,117,118,119,120,121,122]
/-- a name -/
def isNm (z : Nm) : Bool := decide (1 ≤ z.length) && decide (z.length ≤ 8) && z.all fun c => decide (c ∈ letters)
def nameD : D → Bool
  | .str z => isNm z
  | _ => false
abbrev wComing : Nm := [99,111,109,105,110,103]
abbrev wFirst : Nm := [102,105,114,115,116]
abbrev wLast : Nm := [108,97,115,116]
def unitB (u : Nm) : Bool := decide (u ∈ [[100,97,121,115], [109,111,110,116,104,115], [121,101,97,114,115]])
theorem mem2 {w a b : Nm} : decide (w ∈ [a, b]) = (a == w || b == w) := by
  rw [Bool.eq_iff_iff]
  simp only [decide_eq_true_eq, List.mem_cons, List.not_mem_nil, or_false, Bool.or_eq_true, beq_iff_eq]
  exact ⟨fun h => h.imp Eq.symm Eq.symm, fun h => h.imp Eq.symm Eq.symm⟩
theorem mem3 {w a b c : Nm} : decide (w ∈ [a, b, c]) = (a == w || (b == w || c == w)) := by
  rw [Bool.eq_iff_iff]
  simp only [decide_eq_true_eq, List.mem_cons, List.not_mem_nil, or_false, Bool.or_eq_true, beq_iff_eq]
  exact ⟨fun h => h.imp Eq.symm (fun h => h.imp Eq.symm Eq.symm), fun h => h.imp Eq.symm (fun h => h.imp Eq.symm Eq.symm)⟩
theorem ite_w2 {c : Bool} {a : Bool} {S : Sto} : (if c = true then R.ok (W.d (.bl a)) S else R.ok (W.d (.bl c)) S) = R.ok (W.d (.bl (c && a))) S := by cases c <;> rfl
theorem str_bne {a b : Nm} (h : ¬ a = b) : (a == b) = false := by simpa using h
end Ev
set_option maxHeartbeats 4000000
namespace Ev
local macro_rules | `(tactic| trivial) => `(tactic| first | assumption | omega | (apply rngOk_in <;> omega) | (apply mulOk_small <;> omega) | (apply fdvOk_of <;> omega) | (exact decide_eq_true (by omega)) | (apply szOk_in; omega) | (apply szOk_in; simp only [List.length_cons, List.length_nil, List.length_append, List.length_map]; omega) | rfl)
variable {n : Nat} {S : Sto}
theorem k_is_whole {x : D} (h : isiOk x = true) : call P (n + 1) F_is_whole [x] S = .ok (.d (.bl (x matches .int _))) S := by
  rw [run_is_whole]
  cases x <;> first | (cases h; done) | (simp (config := { maxSteps := 4000000 }) (disch := trivial) only [EVR, reduceIte, Bool.false_eq_true, Bool.true_eq_false, if_true, if_false, decide_true, decide_false, allD, isiD, isiOk, String.reduceBEq, Bool.or_true, Bool.true_or, Bool.or_false, Bool.false_or, Bool.and_true, Bool.true_and, Bool.and_false, Bool.false_and, Bool.not_true, Bool.not_false, Int.cast_ofNat_Int, Int.reduceBEq, Int.reduceBNe, Int.reduceEq, Int.reduceLT, Int.reduceLE, Int.reduceAdd, Int.reduceSub, Int.reduceMul, Int.reduceNeg, Int.reduceToNat, beq_self_eq_true, Nat.add_eq, Nat.reduceBEq, Nat.reduceAdd, Nat.reduceLeDiff, Nat.reduceLT, Nat.reduceEqDiff, Nat.reduceSub, Nat.reduceMul, b_is_whole])
theorem k_is_name {x : D} (h : isiOk x = true) : call P (n + 1) F_is_name [x] S = .ok (.d (.bl (nameD x))) S := by
  rw [run_is_name]
  cases x with
  | str z =>
    have hc : runC (call P n) [1] [] m_is_name_1 (srcG [.d (.str z)] S) (z.map fun c => D.str [c]) [some (.d (.str z)), none] S = .ok (z.map fun c => D.bl (decide (c ∈ letters))) S :=
      runC_mapL srcG_refl fun c hc => ⟨_, rfl, by simp (config := { maxSteps := 4000000 }) (disch := trivial) only [EVR, reduceIte, Bool.false_eq_true, Bool.true_eq_false, if_true, if_false, decide_true, decide_false, allD, isiD, isiOk, String.reduceBEq, Bool.or_true, Bool.true_or, Bool.or_false, Bool.false_or, Bool.and_true, Bool.true_and, Bool.and_false, Bool.false_and, Bool.not_true, Bool.not_false, Int.cast_ofNat_Int, Int.reduceBEq, Int.reduceBNe, Int.reduceEq, Int.reduceLT, Int.reduceLE, Int.reduceAdd, Int.reduceSub, Int.reduceMul, Int.reduceNeg, Int.reduceToNat, beq_self_eq_true, Nat.add_eq, Nat.reduceBEq, Nat.reduceAdd, Nat.reduceLeDiff, Nat.reduceLT, Nat.reduceEqDiff, Nat.reduceSub, Nat.reduceMul, m_is_name_1, c_LETTERS, sub_one]⟩
    unfold nameD isNm
    by_cases a : 1 ≤ z.length <;> by_cases b : z.length ≤ 8 <;> (have a' : _ ∨ _ := Nat.lt_or_ge 0 z.length; have e1 : decide ((1 : Int) ≤ (z.length : Int)) = decide (1 ≤ z.length) := (by simp only [decide_eq_decide]; omega); have e2 : decide ((z.length : Int) ≤ 8) = decide (z.length ≤ 8) := (by simp only [decide_eq_decide]; omega); simp (config := { maxSteps := 4000000 }) (disch := trivial) only [EVR, reduceIte, Bool.false_eq_true, Bool.true_eq_false, if_true, if_false, decide_true, decide_false, allD, isiD, isiOk, String.reduceBEq, Bool.or_true, Bool.true_or, Bool.or_false, Bool.false_or, Bool.and_true, Bool.true_and, Bool.and_false, Bool.false_and, Bool.not_true, Bool.not_false, Int.cast_ofNat_Int, Int.reduceBEq, Int.reduceBNe, Int.reduceEq, Int.reduceLT, Int.reduceLE, Int.reduceAdd, Int.reduceSub, Int.reduceMul, Int.reduceNeg, Int.reduceToNat, beq_self_eq_true, Nat.add_eq, Nat.reduceBEq, Nat.reduceAdd, Nat.reduceLeDiff, Nat.reduceLT, Nat.reduceEqDiff, Nat.reduceSub, Nat.reduceMul, b_is_name, c_MOST_LETTERS,  ite_Wd, ite_bl, ite_int, ite_str, bind_ite, lift_ite, nx_ite, loop_ite, end_ite, e1, e2, a, b, hc, l_all, listD_lst, toBools_map, Option.bind_some, Option.map_some])
    simp
  | _ => first | (cases h; done) | (simp (config := { maxSteps := 4000000 }) (disch := trivial) only [EVR, reduceIte, Bool.false_eq_true, Bool.true_eq_false, if_true, if_false, decide_true, decide_false, allD, isiD, isiOk, String.reduceBEq, Bool.or_true, Bool.true_or, Bool.or_false, Bool.false_or, Bool.and_true, Bool.true_and, Bool.and_false, Bool.false_and, Bool.not_true, Bool.not_false, Int.cast_ofNat_Int, Int.reduceBEq, Int.reduceBNe, Int.reduceEq, Int.reduceLT, Int.reduceLE, Int.reduceAdd, Int.reduceSub, Int.reduceMul, Int.reduceNeg, Int.reduceToNat, beq_self_eq_true, Nat.add_eq, Nat.reduceBEq, Nat.reduceAdd, Nat.reduceLeDiff, Nat.reduceLT, Nat.reduceEqDiff, Nat.reduceSub, Nat.reduceMul, b_is_name]; rfl)
def sinceD : D → Bool
  | .tup (.str w :: r) => if w = wComing then r.isEmpty else match r with
    | [x] => (decide (w = wFirst) || decide (w = wLast)) && nameD x
    | _ => false
  | _ => false
theorem k_is_since {x : D} (h : clD x = true) : call P (n + 2) F_is_since [x] S = .ok (.d (.bl (sinceD x))) S := by
  rw [run_is_since]
  cases x with
  | tup xs => cases xs with
    | nil => simp (config := { maxSteps := 4000000 }) (disch := trivial) only [EVR, reduceIte, Bool.false_eq_true, Bool.true_eq_false, if_true, if_false, decide_true, decide_false, allD, isiD, isiOk, String.reduceBEq, Bool.or_true, Bool.true_or, Bool.or_false, Bool.false_or, Bool.and_true, Bool.true_and, Bool.and_false, Bool.false_and, Bool.not_true, Bool.not_false, Int.cast_ofNat_Int, Int.reduceBEq, Int.reduceBNe, Int.reduceEq, Int.reduceLT, Int.reduceLE, Int.reduceAdd, Int.reduceSub, Int.reduceMul, Int.reduceNeg, Int.reduceToNat, beq_self_eq_true, Nat.add_eq, Nat.reduceBEq, Nat.reduceAdd, Nat.reduceLeDiff, Nat.reduceLT, Nat.reduceEqDiff, Nat.reduceSub, Nat.reduceMul, b_is_since]; rfl
    | cons y ys =>
      obtain ⟨h1, h2⟩ := clDs_cons h
      have i0 : atI (y :: ys) 0 = some y := rfl
      have vy := clD_vw (S := S) h1
      cases y with
      | str w =>
        by_cases q : w = wComing
        · subst q
          simp (config := { maxSteps := 4000000 }) (disch := trivial) only [EVR, reduceIte, Bool.false_eq_true, Bool.true_eq_false, if_true, if_false, decide_true, decide_false, allD, isiD, isiOk, String.reduceBEq, Bool.or_true, Bool.true_or, Bool.or_false, Bool.false_or, Bool.and_true, Bool.true_and, Bool.and_false, Bool.false_and, Bool.not_true, Bool.not_false, Int.cast_ofNat_Int, Int.reduceBEq, Int.reduceBNe, Int.reduceEq, Int.reduceLT, Int.reduceLE, Int.reduceAdd, Int.reduceSub, Int.reduceMul, Int.reduceNeg, Int.reduceToNat, beq_self_eq_true, Nat.add_eq, Nat.reduceBEq, Nat.reduceAdd, Nat.reduceLeDiff, Nat.reduceLT, Nat.reduceEqDiff, Nat.reduceSub, Nat.reduceMul, b_is_since, i0, eqOk_t0, beq_self_eq_true]
          cases ys <;> rfl
        · have q' : (w == wComing) = false := str_bne q
          cases ys with
          | nil =>
            simp (config := { maxSteps := 4000000 }) (disch := trivial) only [EVR, reduceIte, Bool.false_eq_true, Bool.true_eq_false, if_true, if_false, decide_true, decide_false, allD, isiD, isiOk, String.reduceBEq, Bool.or_true, Bool.true_or, Bool.or_false, Bool.false_or, Bool.and_true, Bool.true_and, Bool.and_false, Bool.false_and, Bool.not_true, Bool.not_false, Int.cast_ofNat_Int, Int.reduceBEq, Int.reduceBNe, Int.reduceEq, Int.reduceLT, Int.reduceLE, Int.reduceAdd, Int.reduceSub, Int.reduceMul, Int.reduceNeg, Int.reduceToNat, beq_self_eq_true, Nat.add_eq, Nat.reduceBEq, Nat.reduceAdd, Nat.reduceLeDiff, Nat.reduceLT, Nat.reduceEqDiff, Nat.reduceSub, Nat.reduceMul, b_is_since, i0, eqOk_t0, q']
            simp [sinceD, q]
          | cons z zs => cases zs with
            | nil =>
              have i1 : atI [D.str w, z] 1 = some z := rfl
              simp (config := { maxSteps := 4000000 }) (disch := trivial) only [EVR, reduceIte, Bool.false_eq_true, Bool.true_eq_false, if_true, if_false, decide_true, decide_false, allD, isiD, isiOk, String.reduceBEq, Bool.or_true, Bool.true_or, Bool.or_false, Bool.false_or, Bool.and_true, Bool.true_and, Bool.and_false, Bool.false_and, Bool.not_true, Bool.not_false, Int.cast_ofNat_Int, Int.reduceBEq, Int.reduceBNe, Int.reduceEq, Int.reduceLT, Int.reduceLE, Int.reduceAdd, Int.reduceSub, Int.reduceMul, Int.reduceNeg, Int.reduceToNat, beq_self_eq_true, Nat.add_eq, Nat.reduceBEq, Nat.reduceAdd, Nat.reduceLeDiff, Nat.reduceLT, Nat.reduceEqDiff, Nat.reduceSub, Nat.reduceMul, b_is_since, i0, i1, eqOk_t0, q', k_is_name (clD_isi (clDs_cons h2).1)]
              have s : sinceD (.tup [.str w, z]) = ((decide (w = wFirst) || decide (w = wLast)) && nameD z) := by simp [sinceD, q]
              rw [s]
              by_cases q1 : w = wFirst
              · subst q1
                simp (config := { maxSteps := 4000000 }) (disch := trivial) only [EVR, reduceIte, Bool.false_eq_true, Bool.true_eq_false, if_true, if_false, decide_true, decide_false, allD, isiD, isiOk, String.reduceBEq, Bool.or_true, Bool.true_or, Bool.or_false, Bool.false_or, Bool.and_true, Bool.true_and, Bool.and_false, Bool.false_and, Bool.not_true, Bool.not_false, Int.cast_ofNat_Int, Int.reduceBEq, Int.reduceBNe, Int.reduceEq, Int.reduceLT, Int.reduceLE, Int.reduceAdd, Int.reduceSub, Int.reduceMul, Int.reduceNeg, Int.reduceToNat, beq_self_eq_true, Nat.add_eq, Nat.reduceBEq, Nat.reduceAdd, Nat.reduceLeDiff, Nat.reduceLT, Nat.reduceEqDiff, Nat.reduceSub, Nat.reduceMul]
              · by_cases q2 : w = wLast
                · subst q2
                  simp (config := { maxSteps := 4000000 }) (disch := trivial) only [EVR, reduceIte, Bool.false_eq_true, Bool.true_eq_false, if_true, if_false, decide_true, decide_false, allD, isiD, isiOk, String.reduceBEq, Bool.or_true, Bool.true_or, Bool.or_false, Bool.false_or, Bool.and_true, Bool.true_and, Bool.and_false, Bool.false_and, Bool.not_true, Bool.not_false, Int.cast_ofNat_Int, Int.reduceBEq, Int.reduceBNe, Int.reduceEq, Int.reduceLT, Int.reduceLE, Int.reduceAdd, Int.reduceSub, Int.reduceMul, Int.reduceNeg, Int.reduceToNat, beq_self_eq_true, Nat.add_eq, Nat.reduceBEq, Nat.reduceAdd, Nat.reduceLeDiff, Nat.reduceLT, Nat.reduceEqDiff, Nat.reduceSub, Nat.reduceMul]
                · have e1 : (wFirst == w) = false := by simpa using Ne.symm q1
                  have e2 : (wLast == w) = false := by simpa using Ne.symm q2
                  simp (config := { maxSteps := 4000000 }) (disch := trivial) only [EVR, reduceIte, Bool.false_eq_true, Bool.true_eq_false, if_true, if_false, decide_true, decide_false, allD, isiD, isiOk, String.reduceBEq, Bool.or_true, Bool.true_or, Bool.or_false, Bool.false_or, Bool.and_true, Bool.true_and, Bool.and_false, Bool.false_and, Bool.not_true, Bool.not_false, Int.cast_ofNat_Int, Int.reduceBEq, Int.reduceBNe, Int.reduceEq, Int.reduceLT, Int.reduceLE, Int.reduceAdd, Int.reduceSub, Int.reduceMul, Int.reduceNeg, Int.reduceToNat, beq_self_eq_true, Nat.add_eq, Nat.reduceBEq, Nat.reduceAdd, Nat.reduceLeDiff, Nat.reduceLT, Nat.reduceEqDiff, Nat.reduceSub, Nat.reduceMul, e1, e2, decide_eq_false q1, decide_eq_false q2]
            | cons u us =>
              have l3 : (((us.length + 1 + 1 + 1 : Nat) : Int) == 2) = false := by simp only [beq_eq_false_iff_ne]; omega
              simp (config := { maxSteps := 4000000 }) (disch := trivial) only [EVR, reduceIte, Bool.false_eq_true, Bool.true_eq_false, if_true, if_false, decide_true, decide_false, allD, isiD, isiOk, String.reduceBEq, Bool.or_true, Bool.true_or, Bool.or_false, Bool.false_or, Bool.and_true, Bool.true_and, Bool.and_false, Bool.false_and, Bool.not_true, Bool.not_false, Int.cast_ofNat_Int, Int.reduceBEq, Int.reduceBNe, Int.reduceEq, Int.reduceLT, Int.reduceLE, Int.reduceAdd, Int.reduceSub, Int.reduceMul, Int.reduceNeg, Int.reduceToNat, beq_self_eq_true, Nat.add_eq, Nat.reduceBEq, Nat.reduceAdd, Nat.reduceLeDiff, Nat.reduceLT, Nat.reduceEqDiff, Nat.reduceSub, Nat.reduceMul, b_is_since, i0, eqOk_t0, q', l3]
              simp [sinceD, q]
      | _ => first | (cases h1; done) | (simp (config := { maxSteps := 4000000 }) (disch := trivial) only [EVR, reduceIte, Bool.false_eq_true, Bool.true_eq_false, if_true, if_false, decide_true, decide_false, allD, isiD, isiOk, String.reduceBEq, Bool.or_true, Bool.true_or, Bool.or_false, Bool.false_or, Bool.and_true, Bool.true_and, Bool.and_false, Bool.false_and, Bool.not_true, Bool.not_false, Int.cast_ofNat_Int, Int.reduceBEq, Int.reduceBNe, Int.reduceEq, Int.reduceLT, Int.reduceLE, Int.reduceAdd, Int.reduceSub, Int.reduceMul, Int.reduceNeg, Int.reduceToNat, beq_self_eq_true, Nat.add_eq, Nat.reduceBEq, Nat.reduceAdd, Nat.reduceLeDiff, Nat.reduceLT, Nat.reduceEqDiff, Nat.reduceSub, Nat.reduceMul, b_is_since, i0, eqOk_t0]; rfl)
  | _ => first | (cases h; done) | (simp (config := { maxSteps := 4000000 }) (disch := trivial) only [EVR, reduceIte, Bool.false_eq_true, Bool.true_eq_false, if_true, if_false, decide_true, decide_false, allD, isiD, isiOk, String.reduceBEq, Bool.or_true, Bool.true_or, Bool.or_false, Bool.false_or, Bool.and_true, Bool.true_and, Bool.and_false, Bool.false_and, Bool.not_true, Bool.not_false, Int.cast_ofNat_Int, Int.reduceBEq, Int.reduceBNe, Int.reduceEq, Int.reduceLT, Int.reduceLE, Int.reduceAdd, Int.reduceSub, Int.reduceMul, Int.reduceNeg, Int.reduceToNat, beq_self_eq_true, Nat.add_eq, Nat.reduceBEq, Nat.reduceAdd, Nat.reduceLeDiff, Nat.reduceLT, Nat.reduceEqDiff, Nat.reduceSub, Nat.reduceMul, b_is_since]; rfl)
def spanD : D → D → Bool
  | .int i, .str u => decide (0 ≤ i) && decide (i ≤ 999) && unitB u
  | _, _ => false
theorem k_is_span {x y : D} (h : isiOk x = true) (h2 : isiOk y = true) : call P (n + 2) F_is_span_told [x, y] S = .ok (.d (.bl (spanD x y))) S := by
  rw [run_is_span_told]
  have kw := k_is_whole (n := n) (S := S) h
  cases x with
  | int i =>
    by_cases a : 0 ≤ i
    · by_cases b : i ≤ 999
      · have vy := vw_isi (S := S) h2
        cases y with
        | str u =>
          simp (config := { maxSteps := 4000000 }) (disch := trivial) only [EVR, reduceIte, Bool.false_eq_true, Bool.true_eq_false, if_true, if_false, decide_true, decide_false, allD, isiD, isiOk, String.reduceBEq, Bool.or_true, Bool.true_or, Bool.or_false, Bool.false_or, Bool.and_true, Bool.true_and, Bool.and_false, Bool.false_and, Bool.not_true, Bool.not_false, Int.cast_ofNat_Int, Int.reduceBEq, Int.reduceBNe, Int.reduceEq, Int.reduceLT, Int.reduceLE, Int.reduceAdd, Int.reduceSub, Int.reduceMul, Int.reduceNeg, Int.reduceToNat, beq_self_eq_true, Nat.add_eq, Nat.reduceBEq, Nat.reduceAdd, Nat.reduceLeDiff, Nat.reduceLT, Nat.reduceEqDiff, Nat.reduceSub, Nat.reduceMul, b_is_span_told, kw, c_MOST_MANY, c_UNITS, a, b]
          by_cases e1 : [100,97,121,115] = u
          · subst e1; simp [spanD, unitB, a, b]
          · by_cases e2 : [109,111,110,116,104,115] = u
            · subst e2; simp [spanD, unitB, a, b]
            · by_cases e3 : [121,101,97,114,115] = u
              · subst e3; simp [spanD, unitB, a, b]
              · simp [spanD, unitB, a, b, e1, e2, e3, Ne.symm e1, Ne.symm e2, Ne.symm e3]
        | _ => first | (cases h2; done) | (simp (config := { maxSteps := 4000000 }) (disch := trivial) only [EVR, reduceIte, Bool.false_eq_true, Bool.true_eq_false, if_true, if_false, decide_true, decide_false, allD, isiD, isiOk, String.reduceBEq, Bool.or_true, Bool.true_or, Bool.or_false, Bool.false_or, Bool.and_true, Bool.true_and, Bool.and_false, Bool.false_and, Bool.not_true, Bool.not_false, Int.cast_ofNat_Int, Int.reduceBEq, Int.reduceBNe, Int.reduceEq, Int.reduceLT, Int.reduceLE, Int.reduceAdd, Int.reduceSub, Int.reduceMul, Int.reduceNeg, Int.reduceToNat, beq_self_eq_true, Nat.add_eq, Nat.reduceBEq, Nat.reduceAdd, Nat.reduceLeDiff, Nat.reduceLT, Nat.reduceEqDiff, Nat.reduceSub, Nat.reduceMul, b_is_span_told, kw, c_MOST_MANY, c_UNITS, a, b]; rfl)
      · simp (config := { maxSteps := 4000000 }) (disch := trivial) only [EVR, reduceIte, Bool.false_eq_true, Bool.true_eq_false, if_true, if_false, decide_true, decide_false, allD, isiD, isiOk, String.reduceBEq, Bool.or_true, Bool.true_or, Bool.or_false, Bool.false_or, Bool.and_true, Bool.true_and, Bool.and_false, Bool.false_and, Bool.not_true, Bool.not_false, Int.cast_ofNat_Int, Int.reduceBEq, Int.reduceBNe, Int.reduceEq, Int.reduceLT, Int.reduceLE, Int.reduceAdd, Int.reduceSub, Int.reduceMul, Int.reduceNeg, Int.reduceToNat, beq_self_eq_true, Nat.add_eq, Nat.reduceBEq, Nat.reduceAdd, Nat.reduceLeDiff, Nat.reduceLT, Nat.reduceEqDiff, Nat.reduceSub, Nat.reduceMul, b_is_span_told, kw, c_MOST_MANY, a, b]
        cases y <;> simp [spanD, b]
    · simp (config := { maxSteps := 4000000 }) (disch := trivial) only [EVR, reduceIte, Bool.false_eq_true, Bool.true_eq_false, if_true, if_false, decide_true, decide_false, allD, isiD, isiOk, String.reduceBEq, Bool.or_true, Bool.true_or, Bool.or_false, Bool.false_or, Bool.and_true, Bool.true_and, Bool.and_false, Bool.false_and, Bool.not_true, Bool.not_false, Int.cast_ofNat_Int, Int.reduceBEq, Int.reduceBNe, Int.reduceEq, Int.reduceLT, Int.reduceLE, Int.reduceAdd, Int.reduceSub, Int.reduceMul, Int.reduceNeg, Int.reduceToNat, beq_self_eq_true, Nat.add_eq, Nat.reduceBEq, Nat.reduceAdd, Nat.reduceLeDiff, Nat.reduceLT, Nat.reduceEqDiff, Nat.reduceSub, Nat.reduceMul, b_is_span_told, kw, a]
      cases y <;> simp [spanD, a]
  | _ => first | (cases h; done) | (simp (config := { maxSteps := 4000000 }) (disch := trivial) only [EVR, reduceIte, Bool.false_eq_true, Bool.true_eq_false, if_true, if_false, decide_true, decide_false, allD, isiD, isiOk, String.reduceBEq, Bool.or_true, Bool.true_or, Bool.or_false, Bool.false_or, Bool.and_true, Bool.true_and, Bool.and_false, Bool.false_and, Bool.not_true, Bool.not_false, Int.cast_ofNat_Int, Int.reduceBEq, Int.reduceBNe, Int.reduceEq, Int.reduceLT, Int.reduceLE, Int.reduceAdd, Int.reduceSub, Int.reduceMul, Int.reduceNeg, Int.reduceToNat, beq_self_eq_true, Nat.add_eq, Nat.reduceBEq, Nat.reduceAdd, Nat.reduceLeDiff, Nat.reduceLT, Nat.reduceEqDiff, Nat.reduceSub, Nat.reduceMul, b_is_span_told, kw]; rfl)
def ruleD : D → Bool
  | .tup [.str w, x] => nameD x && decide (w ∈ [[119,104,105,108,101], [102,111,108,108,111,119], [108,101,97,118,101]])
  | .tup [.str w, x, s, m, u] => nameD x && (decide (w ∈ [[107,101,101,112], [103,111,110,101]]) && (sinceD s && spanD m u))
  | _ => false
theorem ruleD2 {w : Nm} {x : D} : ruleD (.tup [.str w, x]) = (nameD x && decide (w ∈ [[119,104,105,108,101], [102,111,108,108,111,119], [108,101,97,118,101]])) := rfl
theorem ruleD5 {w : Nm} {x s m u : D} : ruleD (.tup [.str w, x, s, m, u]) = (nameD x && (decide (w ∈ [[107,101,101,112], [103,111,110,101]]) && (sinceD s && spanD m u))) := rfl
theorem k_is_rule {x : D} (h : clD x = true) : call P (n + 3) F_is_rule [x] S = .ok (.d (.bl (ruleD x))) S := by
  rw [run_is_rule]
  cases x with
  | tup xs =>
    match xs, h with
    | [], _ => simp (config := { maxSteps := 4000000 }) (disch := trivial) only [EVR, reduceIte, Bool.false_eq_true, Bool.true_eq_false, if_true, if_false, decide_true, decide_false, allD, isiD, isiOk, String.reduceBEq, Bool.or_true, Bool.true_or, Bool.or_false, Bool.false_or, Bool.and_true, Bool.true_and, Bool.and_false, Bool.false_and, Bool.not_true, Bool.not_false, Int.cast_ofNat_Int, Int.reduceBEq, Int.reduceBNe, Int.reduceEq, Int.reduceLT, Int.reduceLE, Int.reduceAdd, Int.reduceSub, Int.reduceMul, Int.reduceNeg, Int.reduceToNat, beq_self_eq_true, Nat.add_eq, Nat.reduceBEq, Nat.reduceAdd, Nat.reduceLeDiff, Nat.reduceLT, Nat.reduceEqDiff, Nat.reduceSub, Nat.reduceMul, b_is_rule]; rfl
    | [_], _ =>
      simp (config := { maxSteps := 4000000 }) (disch := trivial) only [EVR, reduceIte, Bool.false_eq_true, Bool.true_eq_false, if_true, if_false, decide_true, decide_false, allD, isiD, isiOk, String.reduceBEq, Bool.or_true, Bool.true_or, Bool.or_false, Bool.false_or, Bool.and_true, Bool.true_and, Bool.and_false, Bool.false_and, Bool.not_true, Bool.not_false, Int.cast_ofNat_Int, Int.reduceBEq, Int.reduceBNe, Int.reduceEq, Int.reduceLT, Int.reduceLE, Int.reduceAdd, Int.reduceSub, Int.reduceMul, Int.reduceNeg, Int.reduceToNat, beq_self_eq_true, Nat.add_eq, Nat.reduceBEq, Nat.reduceAdd, Nat.reduceLeDiff, Nat.reduceLT, Nat.reduceEqDiff, Nat.reduceSub, Nat.reduceMul, b_is_rule]
      unfold ruleD
      split <;> first | rfl | (rename_i e; cases e)
    | [y, z], h =>
      obtain ⟨h1, h2⟩ := clDs_cons (xs := [z]) h
      have i0 : atI [y, z] 0 = some y := rfl
      have i1 : atI [y, z] 1 = some z := rfl
      have vy := vw_isi (S := S) (clD_isi h1)
      have kn := k_is_name (n := n + 1) (S := S) (clD_isi (clDs_cons h2).1)
      cases y with
      | str w =>
        cases q : nameD z with
        | false => simp (config := { maxSteps := 4000000 }) (disch := trivial) only [EVR, reduceIte, Bool.false_eq_true, Bool.true_eq_false, if_true, if_false, decide_true, decide_false, allD, isiD, isiOk, String.reduceBEq, Bool.or_true, Bool.true_or, Bool.or_false, Bool.false_or, Bool.and_true, Bool.true_and, Bool.and_false, Bool.false_and, Bool.not_true, Bool.not_false, Int.cast_ofNat_Int, Int.reduceBEq, Int.reduceBNe, Int.reduceEq, Int.reduceLT, Int.reduceLE, Int.reduceAdd, Int.reduceSub, Int.reduceMul, Int.reduceNeg, Int.reduceToNat, beq_self_eq_true, Nat.add_eq, Nat.reduceBEq, Nat.reduceAdd, Nat.reduceLeDiff, Nat.reduceLT, Nat.reduceEqDiff, Nat.reduceSub, Nat.reduceMul, b_is_rule, i0, i1, kn, q]; rw [ruleD2, q]; rfl
        | true =>
          simp (config := { maxSteps := 4000000 }) (disch := trivial) only [EVR, reduceIte, Bool.false_eq_true, Bool.true_eq_false, if_true, if_false, decide_true, decide_false, allD, isiD, isiOk, String.reduceBEq, Bool.or_true, Bool.true_or, Bool.or_false, Bool.false_or, Bool.and_true, Bool.true_and, Bool.and_false, Bool.false_and, Bool.not_true, Bool.not_false, Int.cast_ofNat_Int, Int.reduceBEq, Int.reduceBNe, Int.reduceEq, Int.reduceLT, Int.reduceLE, Int.reduceAdd, Int.reduceSub, Int.reduceMul, Int.reduceNeg, Int.reduceToNat, beq_self_eq_true, Nat.add_eq, Nat.reduceBEq, Nat.reduceAdd, Nat.reduceLeDiff, Nat.reduceLT, Nat.reduceEqDiff, Nat.reduceSub, Nat.reduceMul, b_is_rule, i0, i1, kn, q]
          rw [ruleD2, q, mem3]
          rfl
      | _ => first | (cases h1; done) | (simp (config := { maxSteps := 4000000 }) (disch := trivial) only [EVR, reduceIte, Bool.false_eq_true, Bool.true_eq_false, if_true, if_false, decide_true, decide_false, allD, isiD, isiOk, String.reduceBEq, Bool.or_true, Bool.true_or, Bool.or_false, Bool.false_or, Bool.and_true, Bool.true_and, Bool.and_false, Bool.false_and, Bool.not_true, Bool.not_false, Int.cast_ofNat_Int, Int.reduceBEq, Int.reduceBNe, Int.reduceEq, Int.reduceLT, Int.reduceLE, Int.reduceAdd, Int.reduceSub, Int.reduceMul, Int.reduceNeg, Int.reduceToNat, beq_self_eq_true, Nat.add_eq, Nat.reduceBEq, Nat.reduceAdd, Nat.reduceLeDiff, Nat.reduceLT, Nat.reduceEqDiff, Nat.reduceSub, Nat.reduceMul, b_is_rule, i0]; rfl)
    | [_, _, _], _ =>
      simp (config := { maxSteps := 4000000 }) (disch := trivial) only [EVR, reduceIte, Bool.false_eq_true, Bool.true_eq_false, if_true, if_false, decide_true, decide_false, allD, isiD, isiOk, String.reduceBEq, Bool.or_true, Bool.true_or, Bool.or_false, Bool.false_or, Bool.and_true, Bool.true_and, Bool.and_false, Bool.false_and, Bool.not_true, Bool.not_false, Int.cast_ofNat_Int, Int.reduceBEq, Int.reduceBNe, Int.reduceEq, Int.reduceLT, Int.reduceLE, Int.reduceAdd, Int.reduceSub, Int.reduceMul, Int.reduceNeg, Int.reduceToNat, beq_self_eq_true, Nat.add_eq, Nat.reduceBEq, Nat.reduceAdd, Nat.reduceLeDiff, Nat.reduceLT, Nat.reduceEqDiff, Nat.reduceSub, Nat.reduceMul, b_is_rule]
      unfold ruleD
      split <;> first | rfl | (rename_i e; cases e)
    | [_, _, _, _], _ =>
      simp (config := { maxSteps := 4000000 }) (disch := trivial) only [EVR, reduceIte, Bool.false_eq_true, Bool.true_eq_false, if_true, if_false, decide_true, decide_false, allD, isiD, isiOk, String.reduceBEq, Bool.or_true, Bool.true_or, Bool.or_false, Bool.false_or, Bool.and_true, Bool.true_and, Bool.and_false, Bool.false_and, Bool.not_true, Bool.not_false, Int.cast_ofNat_Int, Int.reduceBEq, Int.reduceBNe, Int.reduceEq, Int.reduceLT, Int.reduceLE, Int.reduceAdd, Int.reduceSub, Int.reduceMul, Int.reduceNeg, Int.reduceToNat, beq_self_eq_true, Nat.add_eq, Nat.reduceBEq, Nat.reduceAdd, Nat.reduceLeDiff, Nat.reduceLT, Nat.reduceEqDiff, Nat.reduceSub, Nat.reduceMul, b_is_rule]
      unfold ruleD
      split <;> first | rfl | (rename_i e; cases e)
    | [y, z, s, m, u], h =>
      obtain ⟨h1, h2⟩ := clDs_cons (xs := [z, s, m, u]) h
      obtain ⟨h2, h3⟩ := clDs_cons (xs := [s, m, u]) h2
      obtain ⟨h3, h4⟩ := clDs_cons (xs := [m, u]) h3
      obtain ⟨h4, h5⟩ := clDs_cons (xs := [u]) h4
      obtain ⟨h5, _⟩ := clDs_cons (xs := []) h5
      have i0 : atI [y, z, s, m, u] 0 = some y := rfl
      have i1 : atI [y, z, s, m, u] 1 = some z := rfl
      have i2 : atI [y, z, s, m, u] 2 = some s := rfl
      have i3 : atI [y, z, s, m, u] 3 = some m := rfl
      have i4 : atI [y, z, s, m, u] 4 = some u := rfl
      have vy := vw_isi (S := S) (clD_isi h1)
      have kn := k_is_name (n := n + 1) (S := S) (clD_isi h2)
      have ks := k_is_since (n := n) (S := S) h3
      have kp := k_is_span (n := n) (S := S) (clD_isi h4) (clD_isi h5)
      cases y with
      | str w =>
        cases q : nameD z with
        | false => simp (config := { maxSteps := 4000000 }) (disch := trivial) only [EVR, reduceIte, Bool.false_eq_true, Bool.true_eq_false, if_true, if_false, decide_true, decide_false, allD, isiD, isiOk, String.reduceBEq, Bool.or_true, Bool.true_or, Bool.or_false, Bool.false_or, Bool.and_true, Bool.true_and, Bool.and_false, Bool.false_and, Bool.not_true, Bool.not_false, Int.cast_ofNat_Int, Int.reduceBEq, Int.reduceBNe, Int.reduceEq, Int.reduceLT, Int.reduceLE, Int.reduceAdd, Int.reduceSub, Int.reduceMul, Int.reduceNeg, Int.reduceToNat, beq_self_eq_true, Nat.add_eq, Nat.reduceBEq, Nat.reduceAdd, Nat.reduceLeDiff, Nat.reduceLT, Nat.reduceEqDiff, Nat.reduceSub, Nat.reduceMul, b_is_rule, i0, i1, kn, q]; rw [ruleD5, q]; rfl
        | true =>
          simp (config := { maxSteps := 4000000 }) (disch := trivial) only [EVR, reduceIte, Bool.false_eq_true, Bool.true_eq_false, if_true, if_false, decide_true, decide_false, allD, isiD, isiOk, String.reduceBEq, Bool.or_true, Bool.true_or, Bool.or_false, Bool.false_or, Bool.and_true, Bool.true_and, Bool.and_false, Bool.false_and, Bool.not_true, Bool.not_false, Int.cast_ofNat_Int, Int.reduceBEq, Int.reduceBNe, Int.reduceEq, Int.reduceLT, Int.reduceLE, Int.reduceAdd, Int.reduceSub, Int.reduceMul, Int.reduceNeg, Int.reduceToNat, beq_self_eq_true, Nat.add_eq, Nat.reduceBEq, Nat.reduceAdd, Nat.reduceLeDiff, Nat.reduceLT, Nat.reduceEqDiff, Nat.reduceSub, Nat.reduceMul, b_is_rule, i0, i1, i2, i3, i4, kn, q, ks, kp, ite_w2]
          rw [ruleD5, q, mem2]
          rfl
      | _ => first | (cases h1; done) | (simp (config := { maxSteps := 4000000 }) (disch := trivial) only [EVR, reduceIte, Bool.false_eq_true, Bool.true_eq_false, if_true, if_false, decide_true, decide_false, allD, isiD, isiOk, String.reduceBEq, Bool.or_true, Bool.true_or, Bool.or_false, Bool.false_or, Bool.and_true, Bool.true_and, Bool.and_false, Bool.false_and, Bool.not_true, Bool.not_false, Int.cast_ofNat_Int, Int.reduceBEq, Int.reduceBNe, Int.reduceEq, Int.reduceLT, Int.reduceLE, Int.reduceAdd, Int.reduceSub, Int.reduceMul, Int.reduceNeg, Int.reduceToNat, beq_self_eq_true, Nat.add_eq, Nat.reduceBEq, Nat.reduceAdd, Nat.reduceLeDiff, Nat.reduceLT, Nat.reduceEqDiff, Nat.reduceSub, Nat.reduceMul, b_is_rule, i0]; rfl)
    | a :: b :: c :: d :: e :: f :: xs, _ =>
      have l2 : ((2 : Int) == ((xs.length + 1 + 1 + 1 + 1 + 1 + 1 : Nat) : Int)) = false := by simp only [beq_eq_false_iff_ne]; omega
      have l5 : ((5 : Int) == ((xs.length + 1 + 1 + 1 + 1 + 1 + 1 : Nat) : Int)) = false := by simp only [beq_eq_false_iff_ne]; omega
      simp (config := { maxSteps := 4000000 }) (disch := trivial) only [EVR, reduceIte, Bool.false_eq_true, Bool.true_eq_false, if_true, if_false, decide_true, decide_false, allD, isiD, isiOk, String.reduceBEq, Bool.or_true, Bool.true_or, Bool.or_false, Bool.false_or, Bool.and_true, Bool.true_and, Bool.and_false, Bool.false_and, Bool.not_true, Bool.not_false, Int.cast_ofNat_Int, Int.reduceBEq, Int.reduceBNe, Int.reduceEq, Int.reduceLT, Int.reduceLE, Int.reduceAdd, Int.reduceSub, Int.reduceMul, Int.reduceNeg, Int.reduceToNat, beq_self_eq_true, Nat.add_eq, Nat.reduceBEq, Nat.reduceAdd, Nat.reduceLeDiff, Nat.reduceLT, Nat.reduceEqDiff, Nat.reduceSub, Nat.reduceMul, b_is_rule, l2, l5]
      unfold ruleD
      split <;> first | rfl | (rename_i e; cases e)
  | _ => first | (cases h; done) | (simp (config := { maxSteps := 4000000 }) (disch := trivial) only [EVR, reduceIte, Bool.false_eq_true, Bool.true_eq_false, if_true, if_false, decide_true, decide_false, allD, isiD, isiOk, String.reduceBEq, Bool.or_true, Bool.true_or, Bool.or_false, Bool.false_or, Bool.and_true, Bool.true_and, Bool.and_false, Bool.false_and, Bool.not_true, Bool.not_false, Int.cast_ofNat_Int, Int.reduceBEq, Int.reduceBNe, Int.reduceEq, Int.reduceLT, Int.reduceLE, Int.reduceAdd, Int.reduceSub, Int.reduceMul, Int.reduceNeg, Int.reduceToNat, beq_self_eq_true, Nat.add_eq, Nat.reduceBEq, Nat.reduceAdd, Nat.reduceLeDiff, Nat.reduceLT, Nat.reduceEqDiff, Nat.reduceSub, Nat.reduceMul, b_is_rule]; rfl)
end Ev
set_option maxHeartbeats 4000000
namespace Ev
local macro_rules | `(tactic| trivial) => `(tactic| first | assumption | omega | (apply rngOk_in <;> omega) | (apply mulOk_small <;> omega) | (apply fdvOk_of <;> omega) | (exact decide_eq_true (by omega)) | (apply szOk_in; omega) | (apply szOk_in; simp only [List.length_cons, List.length_nil, List.length_append, List.length_map]; omega) | rfl)
variable {n : Nat} {S : Sto}
def dayD : D → Bool
  | .int i => decide (0 ≤ i) && decide (i ≤ 99999)
  | _ => false
theorem k_is_day {x : D} (h : isiOk x = true) : call P (n + 2) F_is_day [x] S = .ok (.d (.bl (dayD x))) S := by
  rw [run_is_day]
  have kw := k_is_whole (n := n) (S := S) h
  cases x with
  | int i => by_cases a : 0 ≤ i <;> by_cases b : i ≤ 99999 <;> simp (config := { maxSteps := 4000000 }) (disch := trivial) only [EVR, reduceIte, Bool.false_eq_true, Bool.true_eq_false, if_true, if_false, decide_true, decide_false, allD, isiD, isiOk, String.reduceBEq, Bool.or_true, Bool.true_or, Bool.or_false, Bool.false_or, Bool.and_true, Bool.true_and, Bool.and_false, Bool.false_and, Bool.not_true, Bool.not_false, Int.cast_ofNat_Int, Int.reduceBEq, Int.reduceBNe, Int.reduceEq, Int.reduceLT, Int.reduceLE, Int.reduceAdd, Int.reduceSub, Int.reduceMul, Int.reduceNeg, Int.reduceToNat, beq_self_eq_true, Nat.add_eq, Nat.reduceBEq, Nat.reduceAdd, Nat.reduceLeDiff, Nat.reduceLT, Nat.reduceEqDiff, Nat.reduceSub, Nat.reduceMul, b_is_day, c_LAST_DAY, kw, a, b] <;> simp [dayD, a, b]
  | _ => first | (cases h; done) | (simp (config := { maxSteps := 4000000 }) (disch := trivial) only [EVR, reduceIte, Bool.false_eq_true, Bool.true_eq_false, if_true, if_false, decide_true, decide_false, allD, isiD, isiOk, String.reduceBEq, Bool.or_true, Bool.true_or, Bool.or_false, Bool.false_or, Bool.and_true, Bool.true_and, Bool.and_false, Bool.false_and, Bool.not_true, Bool.not_false, Int.cast_ofNat_Int, Int.reduceBEq, Int.reduceBNe, Int.reduceEq, Int.reduceLT, Int.reduceLE, Int.reduceAdd, Int.reduceSub, Int.reduceMul, Int.reduceNeg, Int.reduceToNat, beq_self_eq_true, Nat.add_eq, Nat.reduceBEq, Nat.reduceAdd, Nat.reduceLeDiff, Nat.reduceLT, Nat.reduceEqDiff, Nat.reduceSub, Nat.reduceMul, b_is_day, kw]; rfl)
abbrev wPaper : Nm := [112,97,112,101,114]
abbrev wKind : Nm := [107,105,110,100]
def aimD : D → Bool
  | .tup [.str w, x] => (decide (w = wPaper) || decide (w = wKind)) && nameD x
  | _ => false
theorem k_is_aim {x : D} (h : clD x = true) : call P (n + 2) F_is_aim [x] S = .ok (.d (.bl (aimD x))) S := by
  rw [run_is_aim]
  cases x with
  | tup xs =>
    match xs, h with
    | [], _ => simp (config := { maxSteps := 4000000 }) (disch := trivial) only [EVR, reduceIte, Bool.false_eq_true, Bool.true_eq_false, if_true, if_false, decide_true, decide_false, allD, isiD, isiOk, String.reduceBEq, Bool.or_true, Bool.true_or, Bool.or_false, Bool.false_or, Bool.and_true, Bool.true_and, Bool.and_false, Bool.false_and, Bool.not_true, Bool.not_false, Int.cast_ofNat_Int, Int.reduceBEq, Int.reduceBNe, Int.reduceEq, Int.reduceLT, Int.reduceLE, Int.reduceAdd, Int.reduceSub, Int.reduceMul, Int.reduceNeg, Int.reduceToNat, beq_self_eq_true, Nat.add_eq, Nat.reduceBEq, Nat.reduceAdd, Nat.reduceLeDiff, Nat.reduceLT, Nat.reduceEqDiff, Nat.reduceSub, Nat.reduceMul, b_is_aim]; rfl
    | [_], _ =>
      simp (config := { maxSteps := 4000000 }) (disch := trivial) only [EVR, reduceIte, Bool.false_eq_true, Bool.true_eq_false, if_true, if_false, decide_true, decide_false, allD, isiD, isiOk, String.reduceBEq, Bool.or_true, Bool.true_or, Bool.or_false, Bool.false_or, Bool.and_true, Bool.true_and, Bool.and_false, Bool.false_and, Bool.not_true, Bool.not_false, Int.cast_ofNat_Int, Int.reduceBEq, Int.reduceBNe, Int.reduceEq, Int.reduceLT, Int.reduceLE, Int.reduceAdd, Int.reduceSub, Int.reduceMul, Int.reduceNeg, Int.reduceToNat, beq_self_eq_true, Nat.add_eq, Nat.reduceBEq, Nat.reduceAdd, Nat.reduceLeDiff, Nat.reduceLT, Nat.reduceEqDiff, Nat.reduceSub, Nat.reduceMul, b_is_aim]
      unfold aimD
      split <;> first | rfl | (rename_i e; cases e)
    | [y, z], h =>
      obtain ⟨h1, h2⟩ := clDs_cons (xs := [z]) h
      have i0 : atI [y, z] 0 = some y := rfl
      have i1 : atI [y, z] 1 = some z := rfl
      have vy := vw_isi (S := S) (clD_isi h1)
      have kn := k_is_name (n := n) (S := S) (clD_isi (clDs_cons h2).1)
      cases y with
      | str w =>
        have s : aimD (.tup [.str w, z]) = ((decide (w = wPaper) || decide (w = wKind)) && nameD z) := rfl
        rw [s]
        by_cases q1 : w = wPaper
        · subst q1
          simp (config := { maxSteps := 4000000 }) (disch := trivial) only [EVR, reduceIte, Bool.false_eq_true, Bool.true_eq_false, if_true, if_false, decide_true, decide_false, allD, isiD, isiOk, String.reduceBEq, Bool.or_true, Bool.true_or, Bool.or_false, Bool.false_or, Bool.and_true, Bool.true_and, Bool.and_false, Bool.false_and, Bool.not_true, Bool.not_false, Int.cast_ofNat_Int, Int.reduceBEq, Int.reduceBNe, Int.reduceEq, Int.reduceLT, Int.reduceLE, Int.reduceAdd, Int.reduceSub, Int.reduceMul, Int.reduceNeg, Int.reduceToNat, beq_self_eq_true, Nat.add_eq, Nat.reduceBEq, Nat.reduceAdd, Nat.reduceLeDiff, Nat.reduceLT, Nat.reduceEqDiff, Nat.reduceSub, Nat.reduceMul, b_is_aim, i0, i1, kn]
        · by_cases q2 : w = wKind
          · subst q2
            simp (config := { maxSteps := 4000000 }) (disch := trivial) only [EVR, reduceIte, Bool.false_eq_true, Bool.true_eq_false, if_true, if_false, decide_true, decide_false, allD, isiD, isiOk, String.reduceBEq, Bool.or_true, Bool.true_or, Bool.or_false, Bool.false_or, Bool.and_true, Bool.true_and, Bool.and_false, Bool.false_and, Bool.not_true, Bool.not_false, Int.cast_ofNat_Int, Int.reduceBEq, Int.reduceBNe, Int.reduceEq, Int.reduceLT, Int.reduceLE, Int.reduceAdd, Int.reduceSub, Int.reduceMul, Int.reduceNeg, Int.reduceToNat, beq_self_eq_true, Nat.add_eq, Nat.reduceBEq, Nat.reduceAdd, Nat.reduceLeDiff, Nat.reduceLT, Nat.reduceEqDiff, Nat.reduceSub, Nat.reduceMul, b_is_aim, i0, i1, kn]
          · have e1 : (wPaper == w) = false := by simpa using Ne.symm q1
            have e2 : (wKind == w) = false := by simpa using Ne.symm q2
            simp (config := { maxSteps := 4000000 }) (disch := trivial) only [EVR, reduceIte, Bool.false_eq_true, Bool.true_eq_false, if_true, if_false, decide_true, decide_false, allD, isiD, isiOk, String.reduceBEq, Bool.or_true, Bool.true_or, Bool.or_false, Bool.false_or, Bool.and_true, Bool.true_and, Bool.and_false, Bool.false_and, Bool.not_true, Bool.not_false, Int.cast_ofNat_Int, Int.reduceBEq, Int.reduceBNe, Int.reduceEq, Int.reduceLT, Int.reduceLE, Int.reduceAdd, Int.reduceSub, Int.reduceMul, Int.reduceNeg, Int.reduceToNat, beq_self_eq_true, Nat.add_eq, Nat.reduceBEq, Nat.reduceAdd, Nat.reduceLeDiff, Nat.reduceLT, Nat.reduceEqDiff, Nat.reduceSub, Nat.reduceMul, b_is_aim, i0, i1, kn, e1, e2, decide_eq_false q1, decide_eq_false q2]
      | _ => first | (cases h1; done) | (simp (config := { maxSteps := 4000000 }) (disch := trivial) only [EVR, reduceIte, Bool.false_eq_true, Bool.true_eq_false, if_true, if_false, decide_true, decide_false, allD, isiD, isiOk, String.reduceBEq, Bool.or_true, Bool.true_or, Bool.or_false, Bool.false_or, Bool.and_true, Bool.true_and, Bool.and_false, Bool.false_and, Bool.not_true, Bool.not_false, Int.cast_ofNat_Int, Int.reduceBEq, Int.reduceBNe, Int.reduceEq, Int.reduceLT, Int.reduceLE, Int.reduceAdd, Int.reduceSub, Int.reduceMul, Int.reduceNeg, Int.reduceToNat, beq_self_eq_true, Nat.add_eq, Nat.reduceBEq, Nat.reduceAdd, Nat.reduceLeDiff, Nat.reduceLT, Nat.reduceEqDiff, Nat.reduceSub, Nat.reduceMul, b_is_aim, i0]; rfl)
    | a :: b :: c :: r, _ =>
      have l3 : (((r.length + 1 + 1 + 1 : Nat) : Int) == 2) = false := by simp only [beq_eq_false_iff_ne]; omega
      simp (config := { maxSteps := 4000000 }) (disch := trivial) only [EVR, reduceIte, Bool.false_eq_true, Bool.true_eq_false, if_true, if_false, decide_true, decide_false, allD, isiD, isiOk, String.reduceBEq, Bool.or_true, Bool.true_or, Bool.or_false, Bool.false_or, Bool.and_true, Bool.true_and, Bool.and_false, Bool.false_and, Bool.not_true, Bool.not_false, Int.cast_ofNat_Int, Int.reduceBEq, Int.reduceBNe, Int.reduceEq, Int.reduceLT, Int.reduceLE, Int.reduceAdd, Int.reduceSub, Int.reduceMul, Int.reduceNeg, Int.reduceToNat, beq_self_eq_true, Nat.add_eq, Nat.reduceBEq, Nat.reduceAdd, Nat.reduceLeDiff, Nat.reduceLT, Nat.reduceEqDiff, Nat.reduceSub, Nat.reduceMul, b_is_aim, l3]
      unfold aimD
      split <;> first | rfl | (rename_i e; cases e)
  | _ => first | (cases h; done) | (simp (config := { maxSteps := 4000000 }) (disch := trivial) only [EVR, reduceIte, Bool.false_eq_true, Bool.true_eq_false, if_true, if_false, decide_true, decide_false, allD, isiD, isiOk, String.reduceBEq, Bool.or_true, Bool.true_or, Bool.or_false, Bool.false_or, Bool.and_true, Bool.true_and, Bool.and_false, Bool.false_and, Bool.not_true, Bool.not_false, Int.cast_ofNat_Int, Int.reduceBEq, Int.reduceBNe, Int.reduceEq, Int.reduceLT, Int.reduceLE, Int.reduceAdd, Int.reduceSub, Int.reduceMul, Int.reduceNeg, Int.reduceToNat, beq_self_eq_true, Nat.add_eq, Nat.reduceBEq, Nat.reduceAdd, Nat.reduceLeDiff, Nat.reduceLT, Nat.reduceEqDiff, Nat.reduceSub, Nat.reduceMul, b_is_aim]; rfl)
theorem o_ltS {a b : Nm} {S : Sto} : cmpD .lt (.str a) (.str b) S = .ok (decide (a < b)) S := id rfl
def rising : List D → Bool
  | .str a :: .str b :: r => decide (a < b) && rising (.str b :: r)
  | _ => true
def makD : D → Bool
  | .tup xs => decide (xs.length ≤ 4) && (xs.all nameD && rising xs)
  | _ => false
theorem names_strs : ∀ {xs : List D}, xs.all nameD = true → ∃ zs : List Nm, xs = zs.map D.str
  | [], _ => ⟨[], rfl⟩
  | x :: xs, h => by
    have h : (nameD x && xs.all nameD) = true := h
    obtain ⟨h1, h2⟩ := Bool.and_eq_true_iff.mp h
    obtain ⟨zs, rfl⟩ := names_strs h2
    cases x with
    | str z => exact ⟨z :: zs, rfl⟩
    | _ => cases h1
theorem clDs_isi {xs : List D} (h : clDs xs = true) : ∀ x ∈ xs, isiOk x = true := fun x hx => by
  obtain ⟨i, hi⟩ := List.getElem?_of_mem hx
  exact clD_isi (clDs_get h hi)
theorem k_makers {x : D} (h : clD x = true) : call P (n + 2) F_are_makers [x] S = .ok (.d (.bl (makD x))) S := by
  rw [run_are_makers]
  cases x with
  | tup xs =>
    have hx : clDs xs = true := h
    by_cases l4 : xs.length ≤ 4
    · have e4 : decide ((4 : Int) < (xs.length : Int)) = false := by simp only [decide_eq_false_iff_not]; omega
      have hc : ∀ ρ : Env, runC (call P (n + 1)) [2] [] m_are_makers_1 (srcG [.d (.tup xs)] S) xs [some (.d (.tup xs)), none, none] S = .ok (xs.map fun x => D.bl (nameD x)) S := fun _ => by
        have := runC_mapL (Φ := call P (n + 1)) (tg := [2]) (e := m_are_makers_1) (g := srcG [.d (.tup xs)] S) (ρ := [some (.d (.tup xs)), none, none]) (S := S) (v := id) (f := fun x => D.bl (nameD x)) srcG_refl (l := xs) fun x hm => by
          have kn := k_is_name (n := n) (S := S) (clDs_isi hx x hm)
          exact ⟨_, rfl, by simp (config := { maxSteps := 4000000 }) (disch := trivial) only [EVR, reduceIte, Bool.false_eq_true, Bool.true_eq_false, if_true, if_false, decide_true, decide_false, allD, isiD, isiOk, String.reduceBEq, Bool.or_true, Bool.true_or, Bool.or_false, Bool.false_or, Bool.and_true, Bool.true_and, Bool.and_false, Bool.false_and, Bool.not_true, Bool.not_false, Int.cast_ofNat_Int, Int.reduceBEq, Int.reduceBNe, Int.reduceEq, Int.reduceLT, Int.reduceLE, Int.reduceAdd, Int.reduceSub, Int.reduceMul, Int.reduceNeg, Int.reduceToNat, beq_self_eq_true, Nat.add_eq, Nat.reduceBEq, Nat.reduceAdd, Nat.reduceLeDiff, Nat.reduceLT, Nat.reduceEqDiff, Nat.reduceSub, Nat.reduceMul, m_are_makers_1, id, kn]⟩
        rw [List.map_id] at this
        exact this
      have hc := hc []
      cases hn : xs.all nameD with
      | false =>
        have ha : (xs.map fun x => nameD x).all id = false := by rw [List.all_map]; exact hn
        simp (config := { maxSteps := 4000000 }) (disch := trivial) only [EVR, reduceIte, Bool.false_eq_true, Bool.true_eq_false, if_true, if_false, decide_true, decide_false, allD, isiD, isiOk, String.reduceBEq, Bool.or_true, Bool.true_or, Bool.or_false, Bool.false_or, Bool.and_true, Bool.true_and, Bool.and_false, Bool.false_and, Bool.not_true, Bool.not_false, Int.cast_ofNat_Int, Int.reduceBEq, Int.reduceBNe, Int.reduceEq, Int.reduceLT, Int.reduceLE, Int.reduceAdd, Int.reduceSub, Int.reduceMul, Int.reduceNeg, Int.reduceToNat, beq_self_eq_true, Nat.add_eq, Nat.reduceBEq, Nat.reduceAdd, Nat.reduceLeDiff, Nat.reduceLT, Nat.reduceEqDiff, Nat.reduceSub, Nat.reduceMul, b_are_makers, c_MOST_MAKERS, e4, hc, l_all, listD_lst, toBools_map, Option.bind_some, Option.map_some, ha]
        simp [makD, hn]
      | true =>
        have ha : (xs.map fun x => nameD x).all id = true := by rw [List.all_map]; exact hn
        obtain ⟨zs, rfl⟩ := names_strs hn
        have lz : zs.length ≤ 4 := by simpa using l4
        have hr : rngOk 0 ((zs.length : Int) - 1) = true := rngOk_in (by omega) (by omega) (by omega) (by omega) (by omega)
        have hd : runC (call P (n + 1)) [1] [] m_are_makers_2 (srcG [.d (.int ((zs.length : Int) - 1))] S) (rngD 0 ((zs.length : Int) - 1)) [some (.d (.tup (zs.map D.str))), none, none] S = .ok (((List.range (((zs.length : Int) - 1) - 0).toNat).map fun (i : Nat) => 0 + (i : Int)).map fun k => D.bl (decide (zs.getD k.toNat [] < zs.getD (k + 1).toNat []))) S := by
          rw [← rng_ints]
          refine runC_mapL srcG_refl fun k hk => ⟨_, rfl, ?_⟩
          obtain ⟨i, hi, rfl⟩ := List.mem_map.mp hk
          have hi := List.mem_range.mp hi
          have i0 : atI (zs.map D.str) (0 + (i : Int)) = some (.str (zs.getD (0 + (i : Int)).toNat [])) := by
            rw [atI_in (by omega), List.getElem?_map, List.getD_eq_getElem?_getD, List.getElem?_eq_getElem (by omega)]
            rfl
          have i1 : atI (zs.map D.str) (0 + (i : Int) + 1) = some (.str (zs.getD (0 + (i : Int) + 1).toNat [])) := by
            rw [atI_in (by omega), List.getElem?_map, List.getD_eq_getElem?_getD, List.getElem?_eq_getElem (by omega)]
            rfl
          simp (config := { maxSteps := 4000000 }) (disch := trivial) only [EVR, reduceIte, Bool.false_eq_true, Bool.true_eq_false, if_true, if_false, decide_true, decide_false, allD, isiD, isiOk, String.reduceBEq, Bool.or_true, Bool.true_or, Bool.or_false, Bool.false_or, Bool.and_true, Bool.true_and, Bool.and_false, Bool.false_and, Bool.not_true, Bool.not_false, Int.cast_ofNat_Int, Int.reduceBEq, Int.reduceBNe, Int.reduceEq, Int.reduceLT, Int.reduceLE, Int.reduceAdd, Int.reduceSub, Int.reduceMul, Int.reduceNeg, Int.reduceToNat, beq_self_eq_true, Nat.add_eq, Nat.reduceBEq, Nat.reduceAdd, Nat.reduceLeDiff, Nat.reduceLT, Nat.reduceEqDiff, Nat.reduceSub, Nat.reduceMul, m_are_makers_2, i0, i1, o_ltS]
        have hz : ((((List.range (((zs.length : Int) - 1) - 0).toNat).map fun (i : Nat) => 0 + (i : Int)).map fun k => decide (zs.getD k.toNat [] < zs.getD (k + 1).toNat [])).all id) = rising (zs.map D.str) := by
          match zs, lz with
          | [], _ => rfl
          | [a], _ => rfl
          | [a, b], _ => simp [rising, List.range_succ]
          | [a, b, c], _ => simp [rising, List.range_succ]
          | [a, b, c, d], _ => simp [rising, List.range_succ, Bool.and_assoc]
        have hl : (((zs.map D.str).length : Nat) : Int) = (zs.length : Int) := by rw [List.length_map]
        rw [hl] at e4
        simp (config := { maxSteps := 4000000 }) (disch := trivial) only [EVR, reduceIte, Bool.false_eq_true, Bool.true_eq_false, if_true, if_false, decide_true, decide_false, allD, isiD, isiOk, String.reduceBEq, Bool.or_true, Bool.true_or, Bool.or_false, Bool.false_or, Bool.and_true, Bool.true_and, Bool.and_false, Bool.false_and, Bool.not_true, Bool.not_false, Int.cast_ofNat_Int, Int.reduceBEq, Int.reduceBNe, Int.reduceEq, Int.reduceLT, Int.reduceLE, Int.reduceAdd, Int.reduceSub, Int.reduceMul, Int.reduceNeg, Int.reduceToNat, beq_self_eq_true, Nat.add_eq, Nat.reduceBEq, Nat.reduceAdd, Nat.reduceLeDiff, Nat.reduceLT, Nat.reduceEqDiff, Nat.reduceSub, Nat.reduceMul, b_are_makers, c_MOST_MAKERS, hl, e4, hc, hr, hd, hz, src_rng1 hr, l_all, listD_lst, toBools_map, Option.bind_some, Option.map_some, ha]
        simp [makD, hn, lz]
    · have e4 : decide ((4 : Int) < (xs.length : Int)) = true := by simp only [decide_eq_true_eq]; omega
      simp (config := { maxSteps := 4000000 }) (disch := trivial) only [EVR, reduceIte, Bool.false_eq_true, Bool.true_eq_false, if_true, if_false, decide_true, decide_false, allD, isiD, isiOk, String.reduceBEq, Bool.or_true, Bool.true_or, Bool.or_false, Bool.false_or, Bool.and_true, Bool.true_and, Bool.and_false, Bool.false_and, Bool.not_true, Bool.not_false, Int.cast_ofNat_Int, Int.reduceBEq, Int.reduceBNe, Int.reduceEq, Int.reduceLT, Int.reduceLE, Int.reduceAdd, Int.reduceSub, Int.reduceMul, Int.reduceNeg, Int.reduceToNat, beq_self_eq_true, Nat.add_eq, Nat.reduceBEq, Nat.reduceAdd, Nat.reduceLeDiff, Nat.reduceLT, Nat.reduceEqDiff, Nat.reduceSub, Nat.reduceMul, b_are_makers, c_MOST_MAKERS, e4]
      simp [makD, l4]
  | _ => first | (cases h; done) | (simp (config := { maxSteps := 4000000 }) (disch := trivial) only [EVR, reduceIte, Bool.false_eq_true, Bool.true_eq_false, if_true, if_false, decide_true, decide_false, allD, isiD, isiOk, String.reduceBEq, Bool.or_true, Bool.true_or, Bool.or_false, Bool.false_or, Bool.and_true, Bool.true_and, Bool.and_false, Bool.false_and, Bool.not_true, Bool.not_false, Int.cast_ofNat_Int, Int.reduceBEq, Int.reduceBNe, Int.reduceEq, Int.reduceLT, Int.reduceLE, Int.reduceAdd, Int.reduceSub, Int.reduceMul, Int.reduceNeg, Int.reduceToNat, beq_self_eq_true, Nat.add_eq, Nat.reduceBEq, Nat.reduceAdd, Nat.reduceLeDiff, Nat.reduceLT, Nat.reduceEqDiff, Nat.reduceSub, Nat.reduceMul, b_are_makers]; rfl)
def fitD (x : D) (c : Nat) : Bool := if c = 110 then nameD x else if c = 109 then makD x else if c = 114 then ruleD x else if c = 116 then aimD x else (x matches .bl _)
theorem k_fits {x : D} {c : Nat} (h : clD x = true) : call P (n + 4) F_fits_form [x, .str [c]] S = .ok (.d (.bl (fitD x c))) S := by
  rw [run_fits_form]
  have k1 := k_is_name (n := n + 2) (S := S) (clD_isi h)
  have k2 := k_makers (n := n + 1) (S := S) h
  have k3 := k_is_rule (n := n) (S := S) h
  have k4 := k_is_aim (n := n + 1) (S := S) h
  have nb : ∀ {d : Nat}, ¬ c = d → (([c] : Nm) == [d]) = false := fun h => by simpa using h
  unfold fitD
  by_cases q1 : c = 110
  · subst q1; simp (config := { maxSteps := 4000000 }) (disch := trivial) only [EVR, reduceIte, Bool.false_eq_true, Bool.true_eq_false, if_true, if_false, decide_true, decide_false, allD, isiD, isiOk, String.reduceBEq, Bool.or_true, Bool.true_or, Bool.or_false, Bool.false_or, Bool.and_true, Bool.true_and, Bool.and_false, Bool.false_and, Bool.not_true, Bool.not_false, Int.cast_ofNat_Int, Int.reduceBEq, Int.reduceBNe, Int.reduceEq, Int.reduceLT, Int.reduceLE, Int.reduceAdd, Int.reduceSub, Int.reduceMul, Int.reduceNeg, Int.reduceToNat, beq_self_eq_true, Nat.add_eq, Nat.reduceBEq, Nat.reduceAdd, Nat.reduceLeDiff, Nat.reduceLT, Nat.reduceEqDiff, Nat.reduceSub, Nat.reduceMul, b_fits_form, k1]
  · by_cases q2 : c = 109
    · subst q2; simp (config := { maxSteps := 4000000 }) (disch := trivial) only [EVR, reduceIte, Bool.false_eq_true, Bool.true_eq_false, if_true, if_false, decide_true, decide_false, allD, isiD, isiOk, String.reduceBEq, Bool.or_true, Bool.true_or, Bool.or_false, Bool.false_or, Bool.and_true, Bool.true_and, Bool.and_false, Bool.false_and, Bool.not_true, Bool.not_false, Int.cast_ofNat_Int, Int.reduceBEq, Int.reduceBNe, Int.reduceEq, Int.reduceLT, Int.reduceLE, Int.reduceAdd, Int.reduceSub, Int.reduceMul, Int.reduceNeg, Int.reduceToNat, beq_self_eq_true, Nat.add_eq, Nat.reduceBEq, Nat.reduceAdd, Nat.reduceLeDiff, Nat.reduceLT, Nat.reduceEqDiff, Nat.reduceSub, Nat.reduceMul, b_fits_form, k2]
    · by_cases q3 : c = 114
      · subst q3; simp (config := { maxSteps := 4000000 }) (disch := trivial) only [EVR, reduceIte, Bool.false_eq_true, Bool.true_eq_false, if_true, if_false, decide_true, decide_false, allD, isiD, isiOk, String.reduceBEq, Bool.or_true, Bool.true_or, Bool.or_false, Bool.false_or, Bool.and_true, Bool.true_and, Bool.and_false, Bool.false_and, Bool.not_true, Bool.not_false, Int.cast_ofNat_Int, Int.reduceBEq, Int.reduceBNe, Int.reduceEq, Int.reduceLT, Int.reduceLE, Int.reduceAdd, Int.reduceSub, Int.reduceMul, Int.reduceNeg, Int.reduceToNat, beq_self_eq_true, Nat.add_eq, Nat.reduceBEq, Nat.reduceAdd, Nat.reduceLeDiff, Nat.reduceLT, Nat.reduceEqDiff, Nat.reduceSub, Nat.reduceMul, b_fits_form, k3]
      · by_cases q4 : c = 116
        · subst q4; simp (config := { maxSteps := 4000000 }) (disch := trivial) only [EVR, reduceIte, Bool.false_eq_true, Bool.true_eq_false, if_true, if_false, decide_true, decide_false, allD, isiD, isiOk, String.reduceBEq, Bool.or_true, Bool.true_or, Bool.or_false, Bool.false_or, Bool.and_true, Bool.true_and, Bool.and_false, Bool.false_and, Bool.not_true, Bool.not_false, Int.cast_ofNat_Int, Int.reduceBEq, Int.reduceBNe, Int.reduceEq, Int.reduceLT, Int.reduceLE, Int.reduceAdd, Int.reduceSub, Int.reduceMul, Int.reduceNeg, Int.reduceToNat, beq_self_eq_true, Nat.add_eq, Nat.reduceBEq, Nat.reduceAdd, Nat.reduceLeDiff, Nat.reduceLT, Nat.reduceEqDiff, Nat.reduceSub, Nat.reduceMul, b_fits_form, k4]
        · simp (config := { maxSteps := 4000000 }) (disch := trivial) only [EVR, reduceIte, Bool.false_eq_true, Bool.true_eq_false, if_true, if_false, decide_true, decide_false, allD, isiD, isiOk, String.reduceBEq, Bool.or_true, Bool.true_or, Bool.or_false, Bool.false_or, Bool.and_true, Bool.true_and, Bool.and_false, Bool.false_and, Bool.not_true, Bool.not_false, Int.cast_ofNat_Int, Int.reduceBEq, Int.reduceBNe, Int.reduceEq, Int.reduceLT, Int.reduceLE, Int.reduceAdd, Int.reduceSub, Int.reduceMul, Int.reduceNeg, Int.reduceToNat, beq_self_eq_true, Nat.add_eq, Nat.reduceBEq, Nat.reduceAdd, Nat.reduceLeDiff, Nat.reduceLT, Nat.reduceEqDiff, Nat.reduceSub, Nat.reduceMul, b_fits_form, nb q1, nb q2, nb q3, nb q4]
          cases x <;> first | (cases h; done) | simp [q1, q2, q3, q4, isiD]
def formN (w : Nm) : Option Nm :=
  if [112,97,112,101,114] = w then some [110,110,109] else if [104,97,112,112,101,110,115] = w then some [110,110] else if [114,117,108,101] = w then some [110,114] else if [101,110,100] = w then some [110] else
  if [104,111,108,100] = w then some [110,116,98] else if [108,105,102,116] = w then some [110] else if [108,101,97,118,101] = w then some [110,110] else none
def formO (w : Nm) : D := match formN w with
  | some f => .str f
  | none => .non
theorem vw_forms : vw S c_FORMS = c_FORMS := id rfl
theorem rc_forms : rcv .get c_FORMS = true := id rfl
theorem get_forms {w : Nm} : mthD .get c_FORMS [.str w] S = .ok (formO w) S := by
  show R.ok ((lookN _ w).getD .non) S = _
  unfold formO formN
  simp only [lookN]
  repeat' split
  all_goals first | rfl | simp_all
def fitsD : List D → Nm → Bool
  | x :: xs, c :: cs => fitD x c && fitsD xs cs
  | _, _ => true
def deedD : D → Bool
  | .tup (.str w :: y :: z :: r) => match formN w with
    | some f => decide (f.length = r.length + 1) && (dayD y && fitsD (z :: r) f)
    | none => false
  | _ => false
theorem fits_all : ∀ {xs : List D} {f : Nm}, ((xs.zip f).map fun p => fitD p.1 p.2).all id = fitsD xs f
  | [], [] => rfl
  | [], _ :: _ => rfl
  | _ :: _, [] => rfl
  | x :: xs, c :: cs => by
    exact congrArg (fitD x c && ·) (fits_all (xs := xs) (f := cs))
theorem zip_tups : ∀ {xs : List D} {f : Nm}, List.zipWith (fun a b => D.tup [a, b]) xs (f.map fun c => D.str [c]) = (xs.zip f).map fun p => D.tup [p.1, .str [p.2]]
  | [], [] => rfl
  | [], _ :: _ => rfl
  | _ :: _, [] => rfl
  | x :: xs, c :: cs => by
    exact congrArg (D.tup [x, .str [c]] :: ·) (zip_tups (xs := xs) (f := cs))
theorem k_is_deed {x : D} (h : clD x = true) : call P (n + 5) F_is_deed [x] S = .ok (.d (.bl (deedD x))) S := by
  rw [run_is_deed]
  cases x with
  | tup xs =>
    match xs, h with
    | [], _ => simp (config := { maxSteps := 4000000 }) (disch := trivial) only [EVR, reduceIte, Bool.false_eq_true, Bool.true_eq_false, if_true, if_false, decide_true, decide_false, allD, isiD, isiOk, String.reduceBEq, Bool.or_true, Bool.true_or, Bool.or_false, Bool.false_or, Bool.and_true, Bool.true_and, Bool.and_false, Bool.false_and, Bool.not_true, Bool.not_false, Int.cast_ofNat_Int, Int.reduceBEq, Int.reduceBNe, Int.reduceEq, Int.reduceLT, Int.reduceLE, Int.reduceAdd, Int.reduceSub, Int.reduceMul, Int.reduceNeg, Int.reduceToNat, beq_self_eq_true, Nat.add_eq, Nat.reduceBEq, Nat.reduceAdd, Nat.reduceLeDiff, Nat.reduceLT, Nat.reduceEqDiff, Nat.reduceSub, Nat.reduceMul, b_is_deed]; rfl
    | [_], _ => simp (config := { maxSteps := 4000000 }) (disch := trivial) only [EVR, reduceIte, Bool.false_eq_true, Bool.true_eq_false, if_true, if_false, decide_true, decide_false, allD, isiD, isiOk, String.reduceBEq, Bool.or_true, Bool.true_or, Bool.or_false, Bool.false_or, Bool.and_true, Bool.true_and, Bool.and_false, Bool.false_and, Bool.not_true, Bool.not_false, Int.cast_ofNat_Int, Int.reduceBEq, Int.reduceBNe, Int.reduceEq, Int.reduceLT, Int.reduceLE, Int.reduceAdd, Int.reduceSub, Int.reduceMul, Int.reduceNeg, Int.reduceToNat, beq_self_eq_true, Nat.add_eq, Nat.reduceBEq, Nat.reduceAdd, Nat.reduceLeDiff, Nat.reduceLT, Nat.reduceEqDiff, Nat.reduceSub, Nat.reduceMul, b_is_deed]; unfold deedD; split <;> first | rfl | (rename_i e; cases e)
    | [_, _], _ => simp (config := { maxSteps := 4000000 }) (disch := trivial) only [EVR, reduceIte, Bool.false_eq_true, Bool.true_eq_false, if_true, if_false, decide_true, decide_false, allD, isiD, isiOk, String.reduceBEq, Bool.or_true, Bool.true_or, Bool.or_false, Bool.false_or, Bool.and_true, Bool.true_and, Bool.and_false, Bool.false_and, Bool.not_true, Bool.not_false, Int.cast_ofNat_Int, Int.reduceBEq, Int.reduceBNe, Int.reduceEq, Int.reduceLT, Int.reduceLE, Int.reduceAdd, Int.reduceSub, Int.reduceMul, Int.reduceNeg, Int.reduceToNat, beq_self_eq_true, Nat.add_eq, Nat.reduceBEq, Nat.reduceAdd, Nat.reduceLeDiff, Nat.reduceLT, Nat.reduceEqDiff, Nat.reduceSub, Nat.reduceMul, b_is_deed]; unfold deedD; split <;> first | rfl | (rename_i e; cases e)
    | a :: y :: z :: r, h =>
      obtain ⟨h1, h2⟩ := clDs_cons (x := a) (xs := y :: z :: r) h
      obtain ⟨h3, h4⟩ := clDs_cons h2
      have i0 : atI (a :: y :: z :: r) 0 = some a := rfl
      have i1 : atI (a :: y :: z :: r) 1 = some y := rfl
      have va := clD_vw (S := S) h1
      have kd := k_is_day (n := n + 2) (S := S) (clD_isi h3)
      have l3 : decide (((r.length + 1 + 1 + 1 : Nat) : Int) < 3) = false := by simp only [decide_eq_false_iff_not]; omega
      cases a with
      | str w =>
        cases q : formN w with
        | none =>
          have q' : formO w = .non := by unfold formO; rw [q]
          simp (config := { maxSteps := 4000000 }) (disch := trivial) only [EVR, reduceIte, Bool.false_eq_true, Bool.true_eq_false, if_true, if_false, decide_true, decide_false, allD, isiD, isiOk, String.reduceBEq, Bool.or_true, Bool.true_or, Bool.or_false, Bool.false_or, Bool.and_true, Bool.true_and, Bool.and_false, Bool.false_and, Bool.not_true, Bool.not_false, Int.cast_ofNat_Int, Int.reduceBEq, Int.reduceBNe, Int.reduceEq, Int.reduceLT, Int.reduceLE, Int.reduceAdd, Int.reduceSub, Int.reduceMul, Int.reduceNeg, Int.reduceToNat, beq_self_eq_true, Nat.add_eq, Nat.reduceBEq, Nat.reduceAdd, Nat.reduceLeDiff, Nat.reduceLT, Nat.reduceEqDiff, Nat.reduceSub, Nat.reduceMul, b_is_deed, i0, l3, vw_forms, rc_forms, get_forms, q', isNon]
          simp [deedD, q]
        | some f =>
          have q' : formO w = .str f := by unfold formO; rw [q]
          by_cases lf : f.length = r.length + 1
          · have lf' : ((f.length : Int) == ((r.length + 1 + 1 + 1 : Nat) : Int) - 2) = true := by simp only [beq_iff_eq]; omega
            cases qd : dayD y with
            | false =>
              simp (config := { maxSteps := 4000000 }) (disch := trivial) only [EVR, reduceIte, Bool.false_eq_true, Bool.true_eq_false, if_true, if_false, decide_true, decide_false, allD, isiD, isiOk, String.reduceBEq, Bool.or_true, Bool.true_or, Bool.or_false, Bool.false_or, Bool.and_true, Bool.true_and, Bool.and_false, Bool.false_and, Bool.not_true, Bool.not_false, Int.cast_ofNat_Int, Int.reduceBEq, Int.reduceBNe, Int.reduceEq, Int.reduceLT, Int.reduceLE, Int.reduceAdd, Int.reduceSub, Int.reduceMul, Int.reduceNeg, Int.reduceToNat, beq_self_eq_true, Nat.add_eq, Nat.reduceBEq, Nat.reduceAdd, Nat.reduceLeDiff, Nat.reduceLT, Nat.reduceEqDiff, Nat.reduceSub, Nat.reduceMul, b_is_deed, i0, i1, l3, vw_forms, rc_forms, get_forms, q', lf', kd, qd, isNon]
              simp [deedD, q, qd]
            | true =>
              have hcut : cutL (D.str w :: y :: z :: r) (some 2) none = z :: r := by
                simp [cutL, slcI]
              have hc : ∀ ρ : Env, ρ = [some (W.d (D.tup (D.str w :: y :: z :: r))), some (.d (.str f)), none, none] → runC (call P (n + 4)) [2, 3] [] m_is_deed_1 (srcG [.d (.tup (z :: r)), .d (.str f)] S) (List.zipWith (fun a b => D.tup [a, b]) (z :: r) (f.map fun c => D.str [c])) ρ S = .ok (((z :: r).zip f).map fun p => D.bl (fitD p.1 p.2)) S := fun ρ e => by
                rw [zip_tups]
                subst e
                refine runC_mapL (fun x hx => ?_) fun p hp => ⟨_, rfl, ?_⟩
                · rcases List.mem_cons.mp hx with rfl | hx
                  · trivial
                  · rw [List.mem_singleton.mp hx]; trivial
                · have hm := clDs_isi h4
                  have hcl : clD p.1 = true := by
                    obtain ⟨i, hi⟩ := List.getElem?_of_mem (List.of_mem_zip hp).1
                    exact clDs_get h4 hi
                  have kf := k_fits (n := n) (S := S) (c := p.2) hcl
                  simp (config := { maxSteps := 4000000 }) (disch := trivial) only [EVR, reduceIte, Bool.false_eq_true, Bool.true_eq_false, if_true, if_false, decide_true, decide_false, allD, isiD, isiOk, String.reduceBEq, Bool.or_true, Bool.true_or, Bool.or_false, Bool.false_or, Bool.and_true, Bool.true_and, Bool.and_false, Bool.false_and, Bool.not_true, Bool.not_false, Int.cast_ofNat_Int, Int.reduceBEq, Int.reduceBNe, Int.reduceEq, Int.reduceLT, Int.reduceLE, Int.reduceAdd, Int.reduceSub, Int.reduceMul, Int.reduceNeg, Int.reduceToNat, beq_self_eq_true, Nat.add_eq, Nat.reduceBEq, Nat.reduceAdd, Nat.reduceLeDiff, Nat.reduceLT, Nat.reduceEqDiff, Nat.reduceSub, Nat.reduceMul, m_is_deed_1, kf]
              have hc := hc _ rfl
              have fa := fits_all (xs := z :: r) (f := f)
              simp (config := { maxSteps := 4000000 }) (disch := trivial) only [EVR, reduceIte, Bool.false_eq_true, Bool.true_eq_false, if_true, if_false, decide_true, decide_false, allD, isiD, isiOk, String.reduceBEq, Bool.or_true, Bool.true_or, Bool.or_false, Bool.false_or, Bool.and_true, Bool.true_and, Bool.and_false, Bool.false_and, Bool.not_true, Bool.not_false, Int.cast_ofNat_Int, Int.reduceBEq, Int.reduceBNe, Int.reduceEq, Int.reduceLT, Int.reduceLE, Int.reduceAdd, Int.reduceSub, Int.reduceMul, Int.reduceNeg, Int.reduceToNat, beq_self_eq_true, Nat.add_eq, Nat.reduceBEq, Nat.reduceAdd, Nat.reduceLeDiff, Nat.reduceLT, Nat.reduceEqDiff, Nat.reduceSub, Nat.reduceMul, b_is_deed, i0, i1, l3, vw_forms, rc_forms, get_forms, q', lf', kd, qd, isNon, hcut, hc, l_all, listD_lst, toBools_map, Option.bind_some, Option.map_some, fa]
              simp [deedD, q, qd, lf]
          · have lf' : ((f.length : Int) == ((r.length + 1 + 1 + 1 : Nat) : Int) - 2) = false := by simp only [beq_eq_false_iff_ne]; omega
            simp (config := { maxSteps := 4000000 }) (disch := trivial) only [EVR, reduceIte, Bool.false_eq_true, Bool.true_eq_false, if_true, if_false, decide_true, decide_false, allD, isiD, isiOk, String.reduceBEq, Bool.or_true, Bool.true_or, Bool.or_false, Bool.false_or, Bool.and_true, Bool.true_and, Bool.and_false, Bool.false_and, Bool.not_true, Bool.not_false, Int.cast_ofNat_Int, Int.reduceBEq, Int.reduceBNe, Int.reduceEq, Int.reduceLT, Int.reduceLE, Int.reduceAdd, Int.reduceSub, Int.reduceMul, Int.reduceNeg, Int.reduceToNat, beq_self_eq_true, Nat.add_eq, Nat.reduceBEq, Nat.reduceAdd, Nat.reduceLeDiff, Nat.reduceLT, Nat.reduceEqDiff, Nat.reduceSub, Nat.reduceMul, b_is_deed, i0, i1, l3, vw_forms, rc_forms, get_forms, q', lf', isNon]
            simp [deedD, q, lf]
      | _ => first | (cases h1; done) | (simp (config := { maxSteps := 4000000 }) (disch := trivial) only [EVR, reduceIte, Bool.false_eq_true, Bool.true_eq_false, if_true, if_false, decide_true, decide_false, allD, isiD, isiOk, String.reduceBEq, Bool.or_true, Bool.true_or, Bool.or_false, Bool.false_or, Bool.and_true, Bool.true_and, Bool.and_false, Bool.false_and, Bool.not_true, Bool.not_false, Int.cast_ofNat_Int, Int.reduceBEq, Int.reduceBNe, Int.reduceEq, Int.reduceLT, Int.reduceLE, Int.reduceAdd, Int.reduceSub, Int.reduceMul, Int.reduceNeg, Int.reduceToNat, beq_self_eq_true, Nat.add_eq, Nat.reduceBEq, Nat.reduceAdd, Nat.reduceLeDiff, Nat.reduceLT, Nat.reduceEqDiff, Nat.reduceSub, Nat.reduceMul, b_is_deed, i0, l3]; rfl)
  | _ => first | (cases h; done) | (simp (config := { maxSteps := 4000000 }) (disch := trivial) only [EVR, reduceIte, Bool.false_eq_true, Bool.true_eq_false, if_true, if_false, decide_true, decide_false, allD, isiD, isiOk, String.reduceBEq, Bool.or_true, Bool.true_or, Bool.or_false, Bool.false_or, Bool.and_true, Bool.true_and, Bool.and_false, Bool.false_and, Bool.not_true, Bool.not_false, Int.cast_ofNat_Int, Int.reduceBEq, Int.reduceBNe, Int.reduceEq, Int.reduceLT, Int.reduceLE, Int.reduceAdd, Int.reduceSub, Int.reduceMul, Int.reduceNeg, Int.reduceToNat, beq_self_eq_true, Nat.add_eq, Nat.reduceBEq, Nat.reduceAdd, Nat.reduceLeDiff, Nat.reduceLT, Nat.reduceEqDiff, Nat.reduceSub, Nat.reduceMul, b_is_deed]; rfl)
end Ev
set_option maxHeartbeats 4000000
namespace Ev
local macro_rules | `(tactic| trivial) => `(tactic| first | assumption | omega | (apply rngOk_in <;> omega) | (apply mulOk_small <;> omega) | (apply fdvOk_of <;> omega) | (exact decide_eq_true (by omega)) | (apply szOk_in; omega) | (apply szOk_in; simp only [List.length_cons, List.length_nil, List.length_append, List.length_map]; omega) | rfl)
variable {n : Nat} {S : Sto}
theorem k_mixed {c : Int} (hc : c.natAbs < 2 ^ 2000000) : ∃ v, 0 ≤ v ∧ ∀ n S, call P (n + 1) F__law_mixed [.int c] S = .ok (.d (.int v)) S := by
  have m : mulOk c 161803398874989484820458683436563811772030917980576286213547 = true := mulOk_bits hc (Nat.lt_of_lt_of_le (show _ < 2 ^ 200 by decide) (Nat.pow_le_pow_right (by decide) (by decide)))
  refine ⟨c * 161803398874989484820458683436563811772030917980576286213547 % 10 ^ 60, Int.emod_nonneg _ (by decide), fun n S => ?_⟩
  rw [run__law_mixed]
  simp (config := { maxSteps := 4000000 }) (disch := trivial) only [EVR, reduceIte, Bool.false_eq_true, Bool.true_eq_false, if_true, if_false, decide_true, decide_false, allD, isiD, isiOk, String.reduceBEq, Bool.or_true, Bool.true_or, Bool.or_false, Bool.false_or, Bool.and_true, Bool.true_and, Bool.and_false, Bool.false_and, Bool.not_true, Bool.not_false, Int.cast_ofNat_Int, Int.reduceBEq, Int.reduceBNe, Int.reduceEq, Int.reduceLT, Int.reduceLE, Int.reduceAdd, Int.reduceSub, Int.reduceMul, Int.reduceNeg, Int.reduceToNat, beq_self_eq_true, Nat.add_eq, Nat.reduceBEq, Nat.reduceAdd, Nat.reduceLeDiff, Nat.reduceLT, Nat.reduceEqDiff, Nat.reduceSub, Nat.reduceMul, b__law_mixed, m] <;> rfl
theorem nat_mul_lt {a b : Nat} (ha : a < 2 ^ 1048576) (hb : b < 2 ^ 60) : a + b < 2 ^ 2000000 := by
  have h1 : 2 ^ 60 ≤ 2 ^ 1048576 := Nat.pow_le_pow_right (by decide) (by decide)
  have h2 : 2 ^ 1048577 ≤ 2 ^ 2000000 := Nat.pow_le_pow_right (by decide) (by decide)
  have h3 : 2 ^ 1048577 = 2 * 2 ^ 1048576 := Nat.pow_succ'
  omega
theorem k_pack {ns : List Int} {k : Int} (hn : ∀ z ∈ ns, z.natAbs < 2 ^ 1048576) (hl : ns.length ≤ 63) (k0 : 0 ≤ k) (k1 : k ≤ 1000) : ∃ v, 0 ≤ v ∧ ∀ n S, call P (n + 2) F__law_pack [.scr ns, .int k] S = .ok (.own (.lst [.int v])) S := by
  by_cases h : k < (ns.length : Int)
  · have hi : k.toNat < ns.length := by omega
    have e : atI ns k = some ns[k.toNat] := by rw [atI_in k0, List.getElem?_eq_getElem hi]
    have hb := hn ns[k.toNat] (List.getElem_mem hi)
    have hc : (ns[k.toNat] + 31 * k).natAbs < 2 ^ 2000000 := by
      refine Nat.lt_of_le_of_lt ?_ (nat_mul_lt (b := 31000) hb (by decide))
      generalize ns[k.toNat] = z
      omega
    obtain ⟨v, v0, hv⟩ := k_mixed hc
    refine ⟨v, v0, fun n S => ?_⟩
    have hv := hv n S
    rw [run__law_pack]
    simp (config := { maxSteps := 4000000 }) (disch := trivial) only [EVR, reduceIte, Bool.false_eq_true, Bool.true_eq_false, if_true, if_false, decide_true, decide_false, allD, isiD, isiOk, String.reduceBEq, Bool.or_true, Bool.true_or, Bool.or_false, Bool.false_or, Bool.and_true, Bool.true_and, Bool.and_false, Bool.false_and, Bool.not_true, Bool.not_false, Int.cast_ofNat_Int, Int.reduceBEq, Int.reduceBNe, Int.reduceEq, Int.reduceLT, Int.reduceLE, Int.reduceAdd, Int.reduceSub, Int.reduceMul, Int.reduceNeg, Int.reduceToNat, beq_self_eq_true, Nat.add_eq, Nat.reduceBEq, Nat.reduceAdd, Nat.reduceLeDiff, Nat.reduceLT, Nat.reduceEqDiff, Nat.reduceSub, Nat.reduceMul, b__law_pack, h, e, Option.map_some, hv]
  · have hc : (7919 * k + 11).natAbs < 2 ^ 2000000 := by
      refine Nat.lt_of_le_of_lt (m := 0 + 10000000) ?_ (nat_mul_lt (a := 0) (Nat.pow_pos (by decide)) (by decide))
      omega
    obtain ⟨v, v0, hv⟩ := k_mixed hc
    refine ⟨v, v0, fun n S => ?_⟩
    have hv := hv n S
    rw [run__law_pack]
    simp (config := { maxSteps := 4000000 }) (disch := trivial) only [EVR, reduceIte, Bool.false_eq_true, Bool.true_eq_false, if_true, if_false, decide_true, decide_false, allD, isiD, isiOk, String.reduceBEq, Bool.or_true, Bool.true_or, Bool.or_false, Bool.false_or, Bool.and_true, Bool.true_and, Bool.and_false, Bool.false_and, Bool.not_true, Bool.not_false, Int.cast_ofNat_Int, Int.reduceBEq, Int.reduceBNe, Int.reduceEq, Int.reduceLT, Int.reduceLE, Int.reduceAdd, Int.reduceSub, Int.reduceMul, Int.reduceNeg, Int.reduceToNat, beq_self_eq_true, Nat.add_eq, Nat.reduceBEq, Nat.reduceAdd, Nat.reduceLeDiff, Nat.reduceLT, Nat.reduceEqDiff, Nat.reduceSub, Nat.reduceMul, b__law_pack, h, hv]
theorem k_take {a : Nat} {v s : Int} (ha : a < S.length) (s0 : 0 < s) (s1 : s < 1073741824) : call P (n + 1) F__law_take [.ref a, .int s] (pk S a v) = .ok (.d (.int (v % s))) (pk S a (v / s)) := by
  rw [run__law_take]
  have e1 := pk_vw (v := v) ha
  have e2 : atI [D.int v] 0 = some (.int v) := rfl
  have e3 : ∀ q : Int, mutS .set (.ref a) [.int 0, .int q] (pk S a v) = .ok .non (pk S a q) := fun q => pk_mut ha
  simp (config := { maxSteps := 4000000 }) (disch := trivial) only [EVR, reduceIte, Bool.false_eq_true, Bool.true_eq_false, if_true, if_false, decide_true, decide_false, allD, isiD, isiOk, String.reduceBEq, Bool.or_true, Bool.true_or, Bool.or_false, Bool.false_or, Bool.and_true, Bool.true_and, Bool.and_false, Bool.false_and, Bool.not_true, Bool.not_false, Int.cast_ofNat_Int, Int.reduceBEq, Int.reduceBNe, Int.reduceEq, Int.reduceLT, Int.reduceLE, Int.reduceAdd, Int.reduceSub, Int.reduceMul, Int.reduceNeg, Int.reduceToNat, beq_self_eq_true, Nat.add_eq, Nat.reduceBEq, Nat.reduceAdd, Nat.reduceLeDiff, Nat.reduceLT, Nat.reduceEqDiff, Nat.reduceSub, Nat.reduceMul, b__law_take, e1, e2, e3]
end Ev
set_option maxHeartbeats 4000000
namespace Ev
/-! deeds as typed data -/
inductive Snc where
  | coming | first (h : Nm) | last (h : Nm)
  deriving DecidableEq
inductive Rul where
  | keep (k : Nm) (s : Snc) (m : Int) (u : Nm) | gone (k : Nm) (s : Snc) (m : Int) (u : Nm) | whil (k : Nm) | follow (k : Nm) | leave (k : Nm)
  deriving DecidableEq
inductive Deed where
  | paper (d : Int) (p k : Nm) (ms : List Nm) | happens (d : Int) (p h : Nm) | rule (d : Int) (r : Nm) (x : Rul) | fin (d : Int) (r : Nm)
  | hold (d : Int) (h : Nm) (ik : Bool) (t : Nm) (deep : Bool) | lift (d : Int) (h : Nm) | leave (d : Int) (l k : Nm)
  deriving DecidableEq
abbrev qPaper : Nm := [112,97,112,101,114]
abbrev qHappens : Nm := [104,97,112,112,101,110,115]
abbrev qRule : Nm := [114,117,108,101]
abbrev qEnd : Nm := [101,110,100]
abbrev qHold : Nm := [104,111,108,100]
abbrev qLift : Nm := [108,105,102,116]
abbrev qLeave : Nm := [108,101,97,118,101]
abbrev qKind : Nm := [107,105,110,100]
abbrev qKeep : Nm := [107,101,101,112]
abbrev qGone : Nm := [103,111,110,101]
abbrev qWhile : Nm := [119,104,105,108,101]
abbrev qFollow : Nm := [102,111,108,108,111,119]
abbrev qComing : Nm := [99,111,109,105,110,103]
abbrev qFirst : Nm := [102,105,114,115,116]
abbrev qLast : Nm := [108,97,115,116]
def Snc.enc : Snc → D
  | .coming => .tup [.str qComing]
  | .first h => .tup [.str qFirst, .str h]
  | .last h => .tup [.str qLast, .str h]
def Rul.enc : Rul → D
  | .keep k s m u => .tup [.str qKeep, .str k, s.enc, .int m, .str u]
  | .gone k s m u => .tup [.str qGone, .str k, s.enc, .int m, .str u]
  | .whil k => .tup [.str qWhile, .str k]
  | .follow k => .tup [.str qFollow, .str k]
  | .leave k => .tup [.str qLeave, .str k]
namespace Deed
def word : Deed → Nm
  | .paper .. => qPaper
  | .happens .. => qHappens
  | .rule .. => qRule
  | .fin .. => qEnd
  | .hold .. => qHold
  | .lift .. => qLift
  | .leave .. => qLeave
def day : Deed → Int
  | .paper d .. => d
  | .happens d .. => d
  | .rule d .. => d
  | .fin d .. => d
  | .hold d .. => d
  | .lift d .. => d
  | .leave d .. => d
def name : Deed → Nm
  | .paper _ p .. => p
  | .happens _ p .. => p
  | .rule _ r .. => r
  | .fin _ r => r
  | .hold _ h .. => h
  | .lift _ h => h
  | .leave _ l _ => l
def tail : Deed → List D
  | .paper _ _ k ms => [.str k, .tup (ms.map .str)]
  | .happens _ _ h => [.str h]
  | .rule _ _ x => [x.enc]
  | .fin _ _ => []
  | .hold _ _ ik t deep => [.tup [.str (if ik then qKind else qPaper), .str t], .bl deep]
  | .lift _ _ => []
  | .leave _ _ k => [.str k]
def enc (x : Deed) : D := .tup (.str x.word :: .int x.day :: .str x.name :: x.tail)
/-- papers, leaves, rules, holds, happenings -/
def cls : Deed → Nat
  | .paper .. => 0
  | .leave .. => 1
  | .rule .. => 2
  | .fin .. => 2
  | .hold .. => 3
  | .lift .. => 3
  | .happens .. => 4
end Deed
def quar (x y : Deed) : Bool := decide (x = y ∨ (x.name = y.name ∧ x.cls = y.cls ∧ (x.cls = 0 ∨ x.cls = 1 ∨ ((x.cls = 2 ∨ x.cls = 3) ∧ x.day = y.day))))
theorem quar_iff {x y : Deed} : quar x y = true ↔ x = y ∨ (x.name = y.name ∧ x.cls = y.cls ∧ (x.cls = 0 ∨ x.cls = 1 ∨ ((x.cls = 2 ∨ x.cls = 3) ∧ x.day = y.day))) := by
  unfold quar
  exact decide_eq_true_iff
theorem quar_symm {x y : Deed} : quar x y = quar y x := by
  have h : ∀ {x y : Deed}, quar x y = true → quar y x = true := fun {x y} h => by
    rw [quar_iff] at h ⊢
    rcases h with rfl | ⟨h1, h2, h3⟩
    · exact .inl rfl
    · refine .inr ⟨h1.symm, h2.symm, ?_⟩
      rw [← h2]
      rcases h3 with h | h | ⟨h, h'⟩
      · exact .inl h
      · exact .inr (.inl h)
      · exact .inr (.inr ⟨h, h'.symm⟩)
  cases q : quar x y with
  | true => rw [h q]
  | false =>
    cases q2 : quar y x with
    | false => rfl
    | true => rw [h q2] at q; cases q
/-! as trees -/
theorem eqvs_strs : ∀ {xs ys : List Nm}, eqvs (xs.map .str) (ys.map .str) = decide (xs = ys)
  | [], [] => rfl
  | [], _ :: _ => rfl
  | _ :: _, [] => rfl
  | x :: xs, y :: ys => by
    show (x == y && eqvs (xs.map .str) (ys.map .str)) = _
    rw [eqvs_strs, Bool.eq_iff_iff]
    simp
theorem pls_strs {n : Nat} : ∀ {xs : List Nm}, okDs (xs.map .str) n = true
  | [] => rfl
  | x :: xs => by
    show (true && okDs (xs.map .str) n) = true
    rw [pls_strs]
    rfl
theorem Snc.eqv {s t : Snc} : Ev.eqv s.enc t.enc = decide (s = t) := by
  rw [Bool.eq_iff_iff]
  cases s <;> cases t <;> simp [Snc.enc, q_tt, qs_cc, qs_nn, qs_cn, qs_nc, q_ss]
theorem Snc.pl {s : Snc} {n : Nat} : okD s.enc (n + 1) = true := by
  cases s <;> simp [Snc.enc, ok_t, oks_cons, oks_nil, ok_s]
theorem Rul.eqv {s t : Rul} : Ev.eqv s.enc t.enc = decide (s = t) := by
  rw [Bool.eq_iff_iff]
  cases s <;> cases t <;> simp [Rul.enc, q_tt, qs_cc, qs_nn, qs_cn, qs_nc, q_ss, q_ii, Snc.eqv]
theorem Rul.pl {s : Rul} {n : Nat} : okD s.enc (n + 2) = true := by
  cases s <;> simp [Rul.enc, ok_t, oks_cons, oks_nil, ok_s, ok_i, Snc.pl]
theorem Deed.eqv {s t : Deed} : Ev.eqv s.enc t.enc = decide (s = t) := by
  rw [Bool.eq_iff_iff]
  cases s <;> cases t <;> simp [Deed.enc, Deed.word, Deed.day, Deed.name, Deed.tail, q_tt, qs_cc, qs_nn, qs_cn, qs_nc, q_ss, q_ii, q_bb, Rul.eqv, eqvs_strs]
  case hold.hold d h ik t deep d' h' ik' t' deep' => cases ik <;> cases ik' <;> simp
theorem Deed.ok {s : Deed} {n : Nat} : okD s.enc (n + 4) = true := by
  cases s <;> simp [Deed.enc, Deed.word, Deed.day, Deed.name, Deed.tail, ok_t, oks_cons, oks_nil, ok_s, ok_i, ok_b, Rul.pl, pls_strs]
theorem Deed.pl {s : Deed} : Ev.pl s.enc = true := Deed.ok (n := 56)
end Ev
set_option maxHeartbeats 4000000
namespace Ev
local macro_rules | `(tactic| trivial) => `(tactic| first | assumption | omega | (apply rngOk_in <;> omega) | (apply mulOk_small <;> omega) | (apply fdvOk_of <;> omega) | (exact decide_eq_true (by omega)) | (apply szOk_in; omega) | (apply szOk_in; simp only [List.length_cons, List.length_nil, List.length_append, List.length_map]; omega) | rfl)
variable {n : Nat} {S : Sto}
theorem at0 {α : Type} {a : α} {l : List α} : atI (a :: l) 0 = some a := rfl
theorem at1 {α : Type} {a b : α} {l : List α} : atI (a :: b :: l) 1 = some b := rfl
theorem at2 {α : Type} {a b c : α} {l : List α} : atI (a :: b :: c :: l) 2 = some c := rfl
theorem eqOk_pl {x y : D} (hx : pl x = true) (hy : pl y = true) : eqOk x y = true := by unfold eqOk; rw [hx, hy]; simp
theorem any2 {a b : Bool} : blt1 .any (.lst [.bl a, .bl b]) S = .ok (.bl (a || b)) S := by cases a <;> cases b <;> rfl
theorem and_w {c : Bool} {a : Bool} : (if c = true then R.ok (W.d (.bl a)) S else R.ok (W.d (.bl c)) S) = R.ok (W.d (.bl (c && a))) S := by cases c <;> rfl
theorem quar_bools {x y : Deed} (h : ¬ x = y) (h2 : x.name = y.name) : quar x y = (((x.word == y.word) && (qPaper == x.word || qLeave == x.word)) || ((x.day == y.day) && (((qRule == x.word || qEnd == x.word) && (qRule == y.word || qEnd == y.word)) || ((qHold == x.word || qLift == x.word) && (qHold == y.word || qLift == y.word))))) := by
  rw [Bool.eq_iff_iff, quar_iff]
  simp only [h, false_or, h2, true_and]
  cases x <;> cases y <;> simp [Deed.word, Deed.cls, Deed.day]
theorem k_quarrel {x y : Deed} : call (progT tab) (n + 1) F_quarrel [x.enc, y.enc] S = .ok (.d (.bl (quar x y))) S := by
  rw [run_quarrel]
  have e : cmpD .eq x.enc y.enc S = .ok (decide (x = y)) S := by rw [o_eq, eqOk_pl Deed.pl Deed.pl, chk_true, Deed.eqv]
  by_cases h : x = y
  · subst h
    have h1 : quar x x = true := quar_iff.mpr (.inl rfl)
    have vx : vw S x.enc = x.enc := rfl
    simp (config := { maxSteps := 4000000 }) (disch := trivial) only [EVR, reduceIte, Bool.false_eq_true, Bool.true_eq_false, if_true, if_false, decide_true, decide_false, allD, isiD, isiOk, String.reduceBEq, Bool.or_true, Bool.true_or, Bool.or_false, Bool.false_or, Bool.and_true, Bool.true_and, Bool.and_false, Bool.false_and, Bool.not_true, Bool.not_false, Int.cast_ofNat_Int, Int.reduceBEq, Int.reduceBNe, Int.reduceEq, Int.reduceLT, Int.reduceLE, Int.reduceAdd, Int.reduceSub, Int.reduceMul, Int.reduceNeg, Int.reduceToNat, beq_self_eq_true, Nat.add_eq, Nat.reduceBEq, Nat.reduceAdd, Nat.reduceLeDiff, Nat.reduceLT, Nat.reduceEqDiff, Nat.reduceSub, Nat.reduceMul, b_quarrel, e, vx, h1]
  · have vx : vw S x.enc = x.enc := rfl
    have vy : vw S y.enc = y.enc := rfl
    have ix0 : idxD x.enc (.int 0) S = .ok (.str x.word) S := rfl
    have ix1 : idxD x.enc (.int 1) S = .ok (.int x.day) S := rfl
    have ix2 : idxD x.enc (.int 2) S = .ok (.str x.name) S := rfl
    have iy0 : idxD y.enc (.int 0) S = .ok (.str y.word) S := rfl
    have iy1 : idxD y.enc (.int 1) S = .ok (.int y.day) S := rfl
    have iy2 : idxD y.enc (.int 2) S = .ok (.str y.name) S := rfl
    by_cases h2 : x.name = y.name
    · have h2' : (x.name == y.name) = true := by simpa using h2
      rw [quar_bools h h2]
      cases q1 : x.word == y.word with
      | true =>
        cases q2 : (qPaper == x.word || qLeave == x.word) with
        | true => simp (config := { maxSteps := 4000000 }) (disch := trivial) only [EVR, reduceIte, Bool.false_eq_true, Bool.true_eq_false, if_true, if_false, decide_true, decide_false, allD, isiD, isiOk, String.reduceBEq, Bool.or_true, Bool.true_or, Bool.or_false, Bool.false_or, Bool.and_true, Bool.true_and, Bool.and_false, Bool.false_and, Bool.not_true, Bool.not_false, Int.cast_ofNat_Int, Int.reduceBEq, Int.reduceBNe, Int.reduceEq, Int.reduceLT, Int.reduceLE, Int.reduceAdd, Int.reduceSub, Int.reduceMul, Int.reduceNeg, Int.reduceToNat, beq_self_eq_true, Nat.add_eq, Nat.reduceBEq, Nat.reduceAdd, Nat.reduceLeDiff, Nat.reduceLT, Nat.reduceEqDiff, Nat.reduceSub, Nat.reduceMul, b_quarrel, e, h, vx, vy, ix0, ix2, iy0, iy2, h2', q1, q2]
        | false =>
          cases q3 : x.day == y.day with
          | false => simp (config := { maxSteps := 4000000 }) (disch := trivial) only [EVR, reduceIte, Bool.false_eq_true, Bool.true_eq_false, if_true, if_false, decide_true, decide_false, allD, isiD, isiOk, String.reduceBEq, Bool.or_true, Bool.true_or, Bool.or_false, Bool.false_or, Bool.and_true, Bool.true_and, Bool.and_false, Bool.false_and, Bool.not_true, Bool.not_false, Int.cast_ofNat_Int, Int.reduceBEq, Int.reduceBNe, Int.reduceEq, Int.reduceLT, Int.reduceLE, Int.reduceAdd, Int.reduceSub, Int.reduceMul, Int.reduceNeg, Int.reduceToNat, beq_self_eq_true, Nat.add_eq, Nat.reduceBEq, Nat.reduceAdd, Nat.reduceLeDiff, Nat.reduceLT, Nat.reduceEqDiff, Nat.reduceSub, Nat.reduceMul, b_quarrel, e, h, vx, vy, ix0, ix1, ix2, iy0, iy1, iy2, h2', q1, q2, q3]
          | true => simp (config := { maxSteps := 4000000 }) (disch := trivial) only [EVR, reduceIte, Bool.false_eq_true, Bool.true_eq_false, if_true, if_false, decide_true, decide_false, allD, isiD, isiOk, String.reduceBEq, Bool.or_true, Bool.true_or, Bool.or_false, Bool.false_or, Bool.and_true, Bool.true_and, Bool.and_false, Bool.false_and, Bool.not_true, Bool.not_false, Int.cast_ofNat_Int, Int.reduceBEq, Int.reduceBNe, Int.reduceEq, Int.reduceLT, Int.reduceLE, Int.reduceAdd, Int.reduceSub, Int.reduceMul, Int.reduceNeg, Int.reduceToNat, beq_self_eq_true, Nat.add_eq, Nat.reduceBEq, Nat.reduceAdd, Nat.reduceLeDiff, Nat.reduceLT, Nat.reduceEqDiff, Nat.reduceSub, Nat.reduceMul, b_quarrel, e, h, vx, vy, ix0, ix1, ix2, iy0, iy1, iy2, h2', q1, q2, q3, c_TURNED, m_quarrel_1, runF_cons, runF_nil, runC_cons, runC_nil, Option.toList_some, List.cons_append, List.nil_append, sg_l, sg_t, sg_s, sg_d, sg_i, sg_ii, sg_ll, sg_tt, sg_o, and_w, any2]
      | false =>
        cases q3 : x.day == y.day with
        | false => simp (config := { maxSteps := 4000000 }) (disch := trivial) only [EVR, reduceIte, Bool.false_eq_true, Bool.true_eq_false, if_true, if_false, decide_true, decide_false, allD, isiD, isiOk, String.reduceBEq, Bool.or_true, Bool.true_or, Bool.or_false, Bool.false_or, Bool.and_true, Bool.true_and, Bool.and_false, Bool.false_and, Bool.not_true, Bool.not_false, Int.cast_ofNat_Int, Int.reduceBEq, Int.reduceBNe, Int.reduceEq, Int.reduceLT, Int.reduceLE, Int.reduceAdd, Int.reduceSub, Int.reduceMul, Int.reduceNeg, Int.reduceToNat, beq_self_eq_true, Nat.add_eq, Nat.reduceBEq, Nat.reduceAdd, Nat.reduceLeDiff, Nat.reduceLT, Nat.reduceEqDiff, Nat.reduceSub, Nat.reduceMul, b_quarrel, e, h, vx, vy, ix0, ix1, ix2, iy0, iy1, iy2, h2', q1, q3]
        | true => simp (config := { maxSteps := 4000000 }) (disch := trivial) only [EVR, reduceIte, Bool.false_eq_true, Bool.true_eq_false, if_true, if_false, decide_true, decide_false, allD, isiD, isiOk, String.reduceBEq, Bool.or_true, Bool.true_or, Bool.or_false, Bool.false_or, Bool.and_true, Bool.true_and, Bool.and_false, Bool.false_and, Bool.not_true, Bool.not_false, Int.cast_ofNat_Int, Int.reduceBEq, Int.reduceBNe, Int.reduceEq, Int.reduceLT, Int.reduceLE, Int.reduceAdd, Int.reduceSub, Int.reduceMul, Int.reduceNeg, Int.reduceToNat, beq_self_eq_true, Nat.add_eq, Nat.reduceBEq, Nat.reduceAdd, Nat.reduceLeDiff, Nat.reduceLT, Nat.reduceEqDiff, Nat.reduceSub, Nat.reduceMul, b_quarrel, e, h, vx, vy, ix0, ix1, ix2, iy0, iy1, iy2, h2', q1, q3, c_TURNED, m_quarrel_1, runF_cons, runF_nil, runC_cons, runC_nil, Option.toList_some, List.cons_append, List.nil_append, sg_l, sg_t, sg_s, sg_d, sg_i, sg_ii, sg_ll, sg_tt, sg_o, and_w, any2]
    · have h2' : (x.name == y.name) = false := by simpa using h2
      have h1 : quar x y = false := by
        rw [Bool.eq_false_iff]
        intro z
        rcases quar_iff.mp z with z | z
        · exact h z
        · exact h2 z.1
      simp (config := { maxSteps := 4000000 }) (disch := trivial) only [EVR, reduceIte, Bool.false_eq_true, Bool.true_eq_false, if_true, if_false, decide_true, decide_false, allD, isiD, isiOk, String.reduceBEq, Bool.or_true, Bool.true_or, Bool.or_false, Bool.false_or, Bool.and_true, Bool.true_and, Bool.and_false, Bool.false_and, Bool.not_true, Bool.not_false, Int.cast_ofNat_Int, Int.reduceBEq, Int.reduceBNe, Int.reduceEq, Int.reduceLT, Int.reduceLE, Int.reduceAdd, Int.reduceSub, Int.reduceMul, Int.reduceNeg, Int.reduceToNat, beq_self_eq_true, Nat.add_eq, Nat.reduceBEq, Nat.reduceAdd, Nat.reduceLeDiff, Nat.reduceLT, Nat.reduceEqDiff, Nat.reduceSub, Nat.reduceMul, b_quarrel, e, h, vx, vy, ix2, iy2, h2', h1]
/-! go_together -/
def tog (ds : List Deed) : Bool := decide (ds.Pairwise fun a b => quar a b = false)
theorem range_getD {α β : Type} (f : α → β) (d : α) : ∀ l : List α, (List.range l.length).map (fun k => f (l.getD k d)) = l.map f := fun l => by
  apply List.ext_getElem?
  intro i
  rw [List.getElem?_map, List.getElem?_map]
  by_cases h : i < l.length
  · rw [List.getElem?_range h, List.getElem?_eq_getElem h]
    simp [List.getD_eq_getElem?_getD, List.getElem?_eq_getElem h]
  · rw [List.getElem?_eq_none (by simpa using h), List.getElem?_eq_none (by simpa using h)]
    rfl
theorem atI_app {α : Type} {pre suf : List α} {x : α} {i : Int} (h : i = (pre.length : Int)) : atI (pre ++ x :: suf) i = some x := by
  rw [atI_in (by omega), h]
  simp
theorem tog_loop {ds : List Deed} (hlen : ds.length ≤ 100000) : ∀ (suf pre : List Deed) (o1 o2 : Option W), ds = pre ++ suf → (pre.Pairwise fun a b => quar a b = false) →
    ∃ ρ', runF (call (progT tab) (n + 1)) [1] l_go_together_2 (srcG [.d (.int ds.length)] S) ((List.range' pre.length suf.length).map fun (k : Nat) => D.int (0 + (k : Int))) [some (.d (.tup (ds.map Deed.enc))), o1, o2] S = (if tog ds = true then .ok (.nx (some (.d (.tup (ds.map Deed.enc))) :: ρ')) S else .ok (.rt (.d (.bl false))) S)
  | [], pre, o1, o2, e, hp => by
    refine ⟨[o1, o2], ?_⟩
    rw [if_pos (show tog ds = true by unfold tog; rw [e, List.append_nil]; exact decide_eq_true hp)]
    rfl
  | x :: suf, pre, o1, o2, e, hp => by
    have le : ds.length = pre.length + (suf.length + 1) := by rw [e]; simp
    have hx : atI (ds.map Deed.enc) (0 + (pre.length : Int)) = some x.enc := by
      rw [e, List.map_append, List.map_cons]
      exact atI_app (by simp)
    have hj : ∀ k, k < pre.length → atI (ds.map Deed.enc) (0 + (k : Int)) = some ((pre.getD k x).enc) := fun k hk => by
      rw [atI_in (by omega), e, List.map_append, List.getElem?_append_left (by simp; omega)]
      have : (0 + (k : Int)).toNat = k := by omega
      rw [this, List.getElem?_map, List.getElem?_eq_getElem hk]
      simp [List.getD_eq_getElem?_getD, List.getElem?_eq_getElem hk]
    have hc : runC (call (progT tab) (n + 1)) [2] [] m_go_together_1 (srcG [.d (.int (0 + (pre.length : Int)))] S) (rngD 0 (0 + (pre.length : Int))) [some (.d (.tup (ds.map Deed.enc))), some (.d (.int (0 + (pre.length : Int)))), o2] S = .ok ((List.range pre.length).map fun k => D.bl (quar (pre.getD k x) x)) S := by
      have e0 : rngD 0 (0 + (pre.length : Int)) = (List.range pre.length).map fun (k : Nat) => D.int (0 + (k : Int)) := by
        unfold rngD
        have : ((0 + (pre.length : Int)) - 0).toNat = pre.length := by omega
        rw [this]
      rw [e0]
      refine runC_mapL (srcG_nr rfl) fun k hk => ⟨_, rfl, ?_⟩
      have hk := hj k (List.mem_range.mp hk)
      simp (config := { maxSteps := 4000000 }) (disch := trivial) only [EVR, reduceIte, Bool.false_eq_true, Bool.true_eq_false, if_true, if_false, decide_true, decide_false, allD, isiD, isiOk, String.reduceBEq, Bool.or_true, Bool.true_or, Bool.or_false, Bool.false_or, Bool.and_true, Bool.true_and, Bool.and_false, Bool.false_and, Bool.not_true, Bool.not_false, Int.cast_ofNat_Int, Int.reduceBEq, Int.reduceBNe, Int.reduceEq, Int.reduceLT, Int.reduceLE, Int.reduceAdd, Int.reduceSub, Int.reduceMul, Int.reduceNeg, Int.reduceToNat, beq_self_eq_true, Nat.add_eq, Nat.reduceBEq, Nat.reduceAdd, Nat.reduceLeDiff, Nat.reduceLT, Nat.reduceEqDiff, Nat.reduceSub, Nat.reduceMul, m_go_together_1, hk, hx, k_quarrel]
    have ha : blt1 .any (.lst ((List.range pre.length).map fun k => D.bl (quar (pre.getD k x) x))) S = .ok (.bl (pre.any fun a => quar a x)) S := by
      rw [l_any, listD_lst, Option.bind_some, toBools_map, range_getD (fun a => quar a x), Option.map_some, List.any_map]
      rfl
    rw [show List.range' pre.length (x :: suf).length = pre.length :: List.range' (pre.length + 1) suf.length from rfl, List.map_cons]
    cases q : pre.any fun a => quar a x with
    | true =>
      rw [q] at ha
      have nt : tog ds = false := by
        unfold tog
        apply decide_eq_false
        intro z
        rw [e, List.pairwise_append] at z
        obtain ⟨a, h1, h2⟩ := List.any_eq_true.mp q
        have := z.2.2 a h1 x List.mem_cons_self
        rw [h2] at this
        cases this
      refine ⟨[], ?_⟩
      rw [runF_cons, st_one, nt]
      simp (config := { maxSteps := 4000000 }) (disch := trivial) only [EVR, reduceIte, Bool.false_eq_true, Bool.true_eq_false, if_true, if_false, decide_true, decide_false, allD, isiD, isiOk, String.reduceBEq, Bool.or_true, Bool.true_or, Bool.or_false, Bool.false_or, Bool.and_true, Bool.true_and, Bool.and_false, Bool.false_and, Bool.not_true, Bool.not_false, Int.cast_ofNat_Int, Int.reduceBEq, Int.reduceBNe, Int.reduceEq, Int.reduceLT, Int.reduceLE, Int.reduceAdd, Int.reduceSub, Int.reduceMul, Int.reduceNeg, Int.reduceToNat, beq_self_eq_true, Nat.add_eq, Nat.reduceBEq, Nat.reduceAdd, Nat.reduceLeDiff, Nat.reduceLT, Nat.reduceEqDiff, Nat.reduceSub, Nat.reduceMul, l_go_together_2, hc, ha]
    | false =>
      rw [q] at ha
      obtain ⟨ρ', ih⟩ := tog_loop hlen suf (pre ++ [x]) (some (.d (.int (0 + (pre.length : Int))))) o2 (by rw [e]; simp) (by
        rw [List.pairwise_append]
        refine ⟨hp, by simp, fun a h1 b h2 => ?_⟩
        rw [List.mem_singleton.mp h2]
        have := List.any_eq_false.mp q a h1
        simpa using this)
      refine ⟨ρ', ?_⟩
      rw [← ih, runF_cons, st_one]
      have l1 : (pre ++ [x]).length = pre.length + 1 := by simp
      rw [l1]
      simp (config := { maxSteps := 4000000 }) (disch := trivial) only [EVR, reduceIte, Bool.false_eq_true, Bool.true_eq_false, if_true, if_false, decide_true, decide_false, allD, isiD, isiOk, String.reduceBEq, Bool.or_true, Bool.true_or, Bool.or_false, Bool.false_or, Bool.and_true, Bool.true_and, Bool.and_false, Bool.false_and, Bool.not_true, Bool.not_false, Int.cast_ofNat_Int, Int.reduceBEq, Int.reduceBNe, Int.reduceEq, Int.reduceLT, Int.reduceLE, Int.reduceAdd, Int.reduceSub, Int.reduceMul, Int.reduceNeg, Int.reduceToNat, beq_self_eq_true, Nat.add_eq, Nat.reduceBEq, Nat.reduceAdd, Nat.reduceLeDiff, Nat.reduceLT, Nat.reduceEqDiff, Nat.reduceSub, Nat.reduceMul, l_go_together_2, hc, ha, sg_i]
theorem k_together {ds : List Deed} (hlen : ds.length ≤ 100000) : call (progT tab) (n + 2) F_go_together [.tup (ds.map Deed.enc)] S = .ok (.d (.bl (tog ds))) S := by
  obtain ⟨ρ', h⟩ := tog_loop (n := n) (S := S) hlen ds [] none none rfl .nil
  have e0 : ((List.range' ([] : List Deed).length ds.length).map fun (k : Nat) => D.int (0 + (k : Int))) = rngD 0 (ds.length : Int) := by
    unfold rngD
    have : ((ds.length : Int) - 0).toNat = ds.length := by omega
    rw [this, List.range_eq_range']
    rfl
  rw [e0] at h
  have rk : rngOk 0 (ds.length : Int) = true := rngOk_in (by omega) (by omega) (by omega) (by omega) (by omega)
  rw [run_go_together]
  cases q : tog ds with
  | true =>
    rw [q] at h
    simp (config := { maxSteps := 4000000 }) (disch := trivial) only [EVR, reduceIte, Bool.false_eq_true, Bool.true_eq_false, if_true, if_false, decide_true, decide_false, allD, isiD, isiOk, String.reduceBEq, Bool.or_true, Bool.true_or, Bool.or_false, Bool.false_or, Bool.and_true, Bool.true_and, Bool.and_false, Bool.false_and, Bool.not_true, Bool.not_false, Int.cast_ofNat_Int, Int.reduceBEq, Int.reduceBNe, Int.reduceEq, Int.reduceLT, Int.reduceLE, Int.reduceAdd, Int.reduceSub, Int.reduceMul, Int.reduceNeg, Int.reduceToNat, beq_self_eq_true, Nat.add_eq, Nat.reduceBEq, Nat.reduceAdd, Nat.reduceLeDiff, Nat.reduceLT, Nat.reduceEqDiff, Nat.reduceSub, Nat.reduceMul, b_go_together, List.length_map, h, rk]
  | false =>
    rw [q] at h
    simp (config := { maxSteps := 4000000 }) (disch := trivial) only [EVR, reduceIte, Bool.false_eq_true, Bool.true_eq_false, if_true, if_false, decide_true, decide_false, allD, isiD, isiOk, String.reduceBEq, Bool.or_true, Bool.true_or, Bool.or_false, Bool.false_or, Bool.and_true, Bool.true_and, Bool.and_false, Bool.false_and, Bool.not_true, Bool.not_false, Int.cast_ofNat_Int, Int.reduceBEq, Int.reduceBNe, Int.reduceEq, Int.reduceLT, Int.reduceLE, Int.reduceAdd, Int.reduceSub, Int.reduceMul, Int.reduceNeg, Int.reduceToNat, beq_self_eq_true, Nat.add_eq, Nat.reduceBEq, Nat.reduceAdd, Nat.reduceLeDiff, Nat.reduceLT, Nat.reduceEqDiff, Nat.reduceSub, Nat.reduceMul, b_go_together, List.length_map, h, rk]
end Ev
set_option maxHeartbeats 4000000
namespace Ev
variable {n : Nat} {S : Sto}
/-! deeds that are deeds; one that is the other in day and name -/
theorem rising_of : ∀ {us : List Nm}, us.Pairwise (fun a b => ¬ b < a) → us.Nodup → rising (us.map D.str) = true
  | [], _, _ => rfl
  | [_], _, _ => rfl
  | a :: b :: r, h, h2 => by
    obtain ⟨p1, p2⟩ := List.pairwise_cons.mp h
    obtain ⟨q1, q2⟩ := List.nodup_cons.mp h2
    have hab : a < b := by
      by_cases h : a < b
      · exact h
      · exact absurd (List.le_antisymm (p1 b List.mem_cons_self) h) (fun e => q1 (e ▸ List.mem_cons_self))
    show (decide (a < b) && rising ((b :: r).map D.str)) = true
    rw [decide_eq_true hab, rising_of p2 q2]
    rfl
theorem makD_of {us : List Nm} (hl : us.length ≤ 4) (h : us.Pairwise (fun a b => ¬ b < a)) (h2 : us.Nodup) (h3 : ∀ z ∈ us, isNm z = true) : makD (.tup (us.map D.str)) = true := by
  show (decide ((us.map D.str).length ≤ 4) && ((us.map D.str).all nameD && rising (us.map D.str))) = true
  have ha : (us.map D.str).all nameD = true := by rw [List.all_map]; exact List.all_eq_true.mpr h3
  rw [rising_of h h2, List.length_map, decide_eq_true hl, ha]
  rfl
def tailOk : Deed → Prop
  | .paper _ _ k ms => isNm k = true ∧ makD (.tup (ms.map D.str)) = true
  | .happens _ _ h => isNm h = true
  | .rule _ _ x => ruleD x.enc = true
  | .fin _ _ => True
  | .hold _ _ _ t _ => isNm t = true
  | .lift _ _ => True
  | .leave _ _ k => isNm k = true
structure okDeed (x : Deed) : Prop where
  d0 : 0 ≤ x.day
  d1 : x.day ≤ 99999
  nm : isNm x.name = true
  tl : tailOk x
theorem okDeed.ok {x : Deed} (h : okDeed x) : deedD x.enc = true := by
  obtain ⟨d0, d1, nm, tl⟩ := h
  have hd : dayD (.int x.day) = true := by unfold dayD; simp [d0, d1]
  have hn : nameD (.str x.name) = true := nm
  have f110 : ∀ y : D, fitD y 110 = nameD y := fun y => rfl
  have f109 : ∀ y : D, fitD y 109 = makD y := fun y => rfl
  have f114 : ∀ y : D, fitD y 114 = ruleD y := fun y => rfl
  have f116 : ∀ y : D, fitD y 116 = aimD y := fun y => rfl
  have f98 : ∀ b, fitD (.bl b) 98 = true := fun y => rfl
  cases x with
  | paper d p k ms =>
    show (decide ((3 : Nat) = 3) && (dayD (.int d) && (fitD (.str p) 110 && (fitD (.str k) 110 && (fitD (.tup (ms.map D.str)) 109 && true))))) = true
    rw [f110, f110, f109, show dayD (.int d) = true from hd, show nameD (.str p) = true from hn, show nameD (.str k) = true from tl.1, tl.2]; rfl
  | happens d p k =>
    show (decide ((2 : Nat) = 2) && (dayD (.int d) && (fitD (.str p) 110 && (fitD (.str k) 110 && true)))) = true
    rw [f110, f110, show dayD (.int d) = true from hd, show nameD (.str p) = true from hn, show nameD (.str k) = true from tl]; rfl
  | rule d p r =>
    show (decide ((2 : Nat) = 2) && (dayD (.int d) && (fitD (.str p) 110 && (fitD r.enc 114 && true)))) = true
    rw [f110, f114, show dayD (.int d) = true from hd, show nameD (.str p) = true from hn, show ruleD r.enc = true from tl]; rfl
  | fin d p =>
    show (decide ((1 : Nat) = 1) && (dayD (.int d) && (fitD (.str p) 110 && true))) = true
    rw [f110, show dayD (.int d) = true from hd, show nameD (.str p) = true from hn]; rfl
  | hold d p ik t deep =>
    show (decide ((3 : Nat) = 3) && (dayD (.int d) && (fitD (.str p) 110 && (fitD (.tup [.str (if ik then qKind else qPaper), .str t]) 116 && (fitD (.bl deep) 98 && true))))) = true
    rw [f110, f116, f98, show dayD (.int d) = true from hd, show nameD (.str p) = true from hn]
    have : aimD (.tup [.str (if ik then qKind else qPaper), .str t]) = true := by
      show ((decide _ || decide _) && isNm t) = true
      rw [show isNm t = true from tl]
      cases ik <;> rfl
    rw [this]; rfl
  | lift d p =>
    show (decide ((1 : Nat) = 1) && (dayD (.int d) && (fitD (.str p) 110 && true))) = true
    rw [f110, show dayD (.int d) = true from hd, show nameD (.str p) = true from hn]; rfl
  | leave d p k =>
    show (decide ((2 : Nat) = 2) && (dayD (.int d) && (fitD (.str p) 110 && (fitD (.str k) 110 && true)))) = true
    rw [f110, f110, show dayD (.int d) = true from hd, show nameD (.str p) = true from hn, show nameD (.str k) = true from tl]; rfl
def Deed.at_ (x : Deed) (d : Int) (z : Nm) : Deed := match x with
  | .paper _ _ k ms => .paper d z k ms
  | .happens _ _ h => .happens d z h
  | .rule _ _ x => .rule d z x
  | .fin _ _ => .fin d z
  | .hold _ _ ik t deep => .hold d z ik t deep
  | .lift _ _ => .lift d z
  | .leave _ _ k => .leave d z k
theorem Deed.at_enc (x : Deed) (d : Int) (z : Nm) : (x.at_ d z).enc = .tup (.str x.word :: .int d :: .str z :: x.tail) := by cases x <;> rfl
theorem okDeed.at_ {x : Deed} (h : okDeed x) {d : Int} {z : Nm} (h0 : 0 ≤ d) (h1 : d ≤ 99999) (hz : isNm z = true) : okDeed (x.at_ d z) := by
  have e1 : (x.at_ d z).day = d := by cases x <;> rfl
  have e2 : (x.at_ d z).name = z := by cases x <;> rfl
  refine ⟨by rw [e1]; exact h0, by rw [e1]; exact h1, by rw [e2]; exact hz, ?_⟩
  have := h.tl
  cases x <;> exact this
theorem Deed.cl {x : Deed} : clD x.enc = true := by
  have hs : ∀ ms : List Nm, clDs (ms.map D.str) = true := fun ms => by
    induction ms with
    | nil => rfl
    | cons a l ih => show (true && clDs (l.map D.str)) = true; rw [ih]; rfl
  cases x with
  | paper d p k ms =>
    show (true && (true && (true && (true && (clDs (ms.map D.str) && true))))) = true
    rw [hs]; rfl
  | rule d r x => cases x with
    | keep k s m u => cases s <;> rfl
    | gone k s m u => cases s <;> rfl
    | _ => rfl
  | _ => rfl
end Ev
set_option maxHeartbeats 4000000
namespace Ev
local macro_rules | `(tactic| trivial) => `(tactic| first | assumption | omega | (apply rngOk_in <;> omega) | (apply mulOk_small <;> omega) | (apply fdvOk_of <;> omega) | (exact decide_eq_true (by omega)) | (apply szOk_in; omega) | (apply szOk_in; simp only [List.length_cons, List.length_nil, List.length_append, List.length_map]; omega) | rfl)
variable {n : Nat} {S : Sto}
abbrev qRE : Nm := [114,117,108,101,32,111,114,32,101,110,100]
abbrev qHL : Nm := [104,111,108,100,32,111,114,32,108,105,102,116]
def extra : Deed → List D
  | .paper _ p _ _ => [.tup [.str qPaper, .str p]]
  | .leave _ l _ => [.tup [.str qLeave, .str l]]
  | .rule d r _ => [.tup [.str qRE, .int d, .str r]]
  | .fin d r => [.tup [.str qRE, .int d, .str r]]
  | .hold d h _ _ _ => [.tup [.str qHL, .int d, .str h]]
  | .lift d h => [.tup [.str qHL, .int d, .str h]]
  | .happens _ _ _ => []
def onceL (x : Deed) : List D := x.enc :: extra x
theorem k_once {x : Deed} : call P (n + 1) F__law_once [x.enc] S = .ok (.d (.lst (onceL x))) S := by
  rw [run__law_once]
  have vx : vw S x.enc = x.enc := rfl
  have ix0 : idxD x.enc (.int 0) S = .ok (.str x.word) S := rfl
  have ix1 : idxD x.enc (.int 1) S = .ok (.int x.day) S := rfl
  have ix2 : idxD x.enc (.int 2) S = .ok (.str x.name) S := rfl
  cases x <;> (simp (config := { maxSteps := 4000000 }) (disch := trivial) only [EVR, reduceIte, Bool.false_eq_true, Bool.true_eq_false, if_true, if_false, decide_true, decide_false, allD, isiD, isiOk, String.reduceBEq, Bool.or_true, Bool.true_or, Bool.or_false, Bool.false_or, Bool.and_true, Bool.true_and, Bool.and_false, Bool.false_and, Bool.not_true, Bool.not_false, Int.cast_ofNat_Int, Int.reduceBEq, Int.reduceBNe, Int.reduceEq, Int.reduceLT, Int.reduceLE, Int.reduceAdd, Int.reduceSub, Int.reduceMul, Int.reduceNeg, Int.reduceToNat, beq_self_eq_true, Nat.add_eq, Nat.reduceBEq, Nat.reduceAdd, Nat.reduceLeDiff, Nat.reduceLT, Nat.reduceEqDiff, Nat.reduceSub, Nat.reduceMul, b__law_once, vx, ix0, ix1, ix2, Deed.word, List.cons_append, List.nil_append]; rfl)
theorem extra_ne {x y : Deed} : ∀ k ∈ extra x, eqv y.enc k = false ∧ eqv k y.enc = false := fun k hk => by
  cases x <;> cases y <;> simp [extra] at hk <;> subst hk <;> simp [Deed.enc, Deed.word, Deed.day, Deed.name, Deed.tail, q_tt, qs_cc, qs_nn, qs_cn, qs_nc, q_ss, q_ii, q_is, q_si]
theorem extra_any {x y : Deed} : ((extra x).any fun t => (extra y).any fun z => eqv z t) = true ↔ (x.name = y.name ∧ x.cls = y.cls ∧ (x.cls = 0 ∨ x.cls = 1 ∨ ((x.cls = 2 ∨ x.cls = 3) ∧ x.day = y.day))) := by
  cases x <;> cases y <;> simp [extra, Deed.name, Deed.cls, Deed.day, q_tt, qs_cc, qs_nn, qs_cn, qs_nc, q_ss, q_ii, q_is, q_si] <;> grind
theorem once_quar {x y : Deed} : ((onceL x).any fun t => (onceL y).any fun z => eqv z t) = quar x y := by
  rw [Bool.eq_iff_iff, quar_iff, ← extra_any]
  unfold onceL
  rw [List.any_cons, Bool.or_eq_true]
  have h1 : ((y.enc :: extra y).any fun z => eqv z x.enc) = decide (x = y) := by
    rw [List.any_cons, Deed.eqv, Bool.eq_iff_iff, Bool.or_eq_true]
    simp only [decide_eq_true_eq]
    constructor
    · rintro (h | h)
      · exact h.symm
      · obtain ⟨k, hk, e⟩ := List.any_eq_true.mp h
        rw [(extra_ne (y := x) k hk).2] at e
        cases e
    · exact fun h => .inl h.symm
  have h2 : ((extra x).any fun t => (y.enc :: extra y).any fun z => eqv z t) = (extra x).any fun t => (extra y).any fun z => eqv z t := by
    rw [Bool.eq_iff_iff, List.any_eq_true, List.any_eq_true]
    constructor
    · rintro ⟨t, ht, e⟩
      rw [List.any_cons, (extra_ne (y := y) t ht).1, Bool.false_or] at e
      exact ⟨t, ht, e⟩
    · rintro ⟨t, ht, e⟩
      refine ⟨t, ht, ?_⟩
      rw [List.any_cons, e, Bool.or_true]
  rw [h1, h2, decide_eq_true_eq]
theorem extra_ok {m : Nat} {x : Deed} : ∀ t ∈ extra x, okD t (m + 4) = true := fun t ht => by
  cases x <;> simp [extra] at ht <;> subst ht <;> rfl
theorem once_ok {m : Nat} {x : Deed} : ∀ t ∈ onceL x, okD t (m + 4) = true := fun t ht => by
  rcases List.mem_cons.mp ht with rfl | h
  · exact Deed.ok
  · exact extra_ok t h
theorem oks_of {m : Nat} : ∀ {xs : List D}, (∀ t ∈ xs, okD t m = true) → okDs xs m = true
  | [], _ => rfl
  | x :: xs, h => by
    show (okD x m && okDs xs m) = true
    rw [h x List.mem_cons_self, oks_of fun t ht => h t (List.mem_cons_of_mem _ ht)]
    rfl
theorem k_lquar {x y : Deed} : call P (n + 2) F__law_quarrel [x.enc, y.enc] S = .ok (.d (.bl (quar x y))) S := by
  have hc : ∀ ρ, ρ = [some (W.d x.enc), some (.d y.enc), none] → runC (call P (n + 1)) [2] [] m__law_quarrel_1 (srcG [.d (.lst (onceL x))] S) (onceL x) ρ S = .ok ((onceL x).map fun t => D.bl ((onceL y).any fun z => eqv z t)) S := fun ρ e => by
    subst e
    have := runC_mapL (Φ := call P (n + 1)) (tg := [2]) (e := m__law_quarrel_1) (g := srcG [.d (.lst (onceL x))] S) (ρ := [some (.d x.enc), some (.d y.enc), none]) (S := S) (v := id) (f := fun t => D.bl ((onceL y).any fun z => eqv z t)) srcG_refl (l := onceL x) fun t ht => ⟨_, rfl, by
      have ko := k_once (n := n) (S := S) (x := y)
      have p1 : pl t = true := once_ok (m := 56) t ht
      have p2 : pls (onceL y) = true := oks_of (once_ok (m := 56))
      have vt : vw S t = t := by
        rcases List.mem_cons.mp ht with rfl | h
        · rfl
        · cases x <;> simp [extra] at h <;> subst h <;> rfl
      simp (config := { maxSteps := 4000000 }) (disch := trivial) only [EVR, reduceIte, Bool.false_eq_true, Bool.true_eq_false, if_true, if_false, decide_true, decide_false, allD, isiD, isiOk, String.reduceBEq, Bool.or_true, Bool.true_or, Bool.or_false, Bool.false_or, Bool.and_true, Bool.true_and, Bool.and_false, Bool.false_and, Bool.not_true, Bool.not_false, Int.cast_ofNat_Int, Int.reduceBEq, Int.reduceBNe, Int.reduceEq, Int.reduceLT, Int.reduceLE, Int.reduceAdd, Int.reduceSub, Int.reduceMul, Int.reduceNeg, Int.reduceToNat, beq_self_eq_true, Nat.add_eq, Nat.reduceBEq, Nat.reduceAdd, Nat.reduceLeDiff, Nat.reduceLT, Nat.reduceEqDiff, Nat.reduceSub, Nat.reduceMul, m__law_quarrel_1, ko, id, vt, p1, p2]⟩
    rw [List.map_id] at this
    exact this
  have hc := hc _ rfl
  have ko := k_once (n := n) (S := S) (x := x)
  have oq := once_quar (x := x) (y := y)
  rw [run__law_quarrel]
  have ha : (List.map (fun t => (onceL y).any fun z => eqv z t) (onceL x)).any id = quar x y := by rw [List.any_map]; exact oq
  simp (config := { maxSteps := 4000000 }) (disch := trivial) only [EVR, reduceIte, Bool.false_eq_true, Bool.true_eq_false, if_true, if_false, decide_true, decide_false, allD, isiD, isiOk, String.reduceBEq, Bool.or_true, Bool.true_or, Bool.or_false, Bool.false_or, Bool.and_true, Bool.true_and, Bool.and_false, Bool.false_and, Bool.not_true, Bool.not_false, Int.cast_ofNat_Int, Int.reduceBEq, Int.reduceBNe, Int.reduceEq, Int.reduceLT, Int.reduceLE, Int.reduceAdd, Int.reduceSub, Int.reduceMul, Int.reduceNeg, Int.reduceToNat, beq_self_eq_true, Nat.add_eq, Nat.reduceBEq, Nat.reduceAdd, Nat.reduceLeDiff, Nat.reduceLT, Nat.reduceEqDiff, Nat.reduceSub, Nat.reduceMul, b__law_quarrel, ko, hc, l_any, listD_lst, toBools_map, Option.bind_some, Option.map_some, ha]
theorem k_lawis {a b : Bool} : call P (n + 1) F__law_is [.bl a, .bl b] S = .ok (.d (.bl (a == b))) S := by
  rw [run__law_is]
  simp (config := { maxSteps := 4000000 }) (disch := trivial) only [EVR, reduceIte, Bool.false_eq_true, Bool.true_eq_false, if_true, if_false, decide_true, decide_false, allD, isiD, isiOk, String.reduceBEq, Bool.or_true, Bool.true_or, Bool.or_false, Bool.false_or, Bool.and_true, Bool.true_and, Bool.and_false, Bool.false_and, Bool.not_true, Bool.not_false, Int.cast_ofNat_Int, Int.reduceBEq, Int.reduceBNe, Int.reduceEq, Int.reduceLT, Int.reduceLE, Int.reduceAdd, Int.reduceSub, Int.reduceMul, Int.reduceNeg, Int.reduceToNat, beq_self_eq_true, Nat.add_eq, Nat.reduceBEq, Nat.reduceAdd, Nat.reduceLeDiff, Nat.reduceLT, Nat.reduceEqDiff, Nat.reduceSub, Nat.reduceMul, b__law_is]
theorem tog2 {x y : Deed} : tog [x, y] = !quar x y := by
  unfold tog
  rw [Bool.eq_iff_iff]
  simp
theorem pr_in {ds : List Deed} {x : Deed} : ∀ (ys : List Deed) (o2 o3 : Option W), ∃ o2' o3', runF (call P (n + 3)) [2] l__law_pairs_right_1 (srcG [.d (.lst (ds.map Deed.enc))] S) (ys.map Deed.enc) [some (.d (.lst (ds.map Deed.enc))), some (.d x.enc), o2, o3] S = .ok (.nx [some (.d (.lst (ds.map Deed.enc))), some (.d x.enc), o2', o3']) S
  | [], o2, o3 => ⟨o2, o3, rfl⟩
  | y :: ys, o2, o3 => by
    obtain ⟨p2, p3, ih⟩ := pr_in (ds := ds) (x := x) ys (some (.d y.enc)) (some (.d (.bl (quar x y))))
    refine ⟨p2, p3, ?_⟩
    have q1 := k_quarrel (n := n + 2) (S := S) (x := x) (y := y)
    have q2 := k_lquar (n := n + 1) (S := S) (x := x) (y := y)
    have q3 := k_lawis (n := n + 2) (S := S) (a := quar x y) (b := quar x y)
    have q4 := k_together (n := n + 1) (S := S) (ds := [x, y]) (by simp)
    have q5 := k_lawis (n := n + 2) (S := S) (a := !quar x y) (b := !quar x y)
    rw [beq_self_eq_true] at q3 q5
    rw [tog2] at q4
    simp only [List.map_cons, List.map_nil] at q4
    rw [← ih, List.map_cons, runF_cons, st_one]
    simp (config := { maxSteps := 4000000 }) (disch := trivial) only [EVR, reduceIte, Bool.false_eq_true, Bool.true_eq_false, if_true, if_false, decide_true, decide_false, allD, isiD, isiOk, String.reduceBEq, Bool.or_true, Bool.true_or, Bool.or_false, Bool.false_or, Bool.and_true, Bool.true_and, Bool.and_false, Bool.false_and, Bool.not_true, Bool.not_false, Int.cast_ofNat_Int, Int.reduceBEq, Int.reduceBNe, Int.reduceEq, Int.reduceLT, Int.reduceLE, Int.reduceAdd, Int.reduceSub, Int.reduceMul, Int.reduceNeg, Int.reduceToNat, beq_self_eq_true, Nat.add_eq, Nat.reduceBEq, Nat.reduceAdd, Nat.reduceLeDiff, Nat.reduceLT, Nat.reduceEqDiff, Nat.reduceSub, Nat.reduceMul, l__law_pairs_right_1, q1, q2, q3, q4, q5, sg_l]
theorem pr_out {ds : List Deed} : ∀ (xs : List Deed) (o1 o2 o3 : Option W), ∃ o1' o2' o3', runF (call P (n + 3)) [1] l__law_pairs_right_2 (srcG [.d (.lst (ds.map Deed.enc))] S) (xs.map Deed.enc) [some (.d (.lst (ds.map Deed.enc))), o1, o2, o3] S = .ok (.nx [some (.d (.lst (ds.map Deed.enc))), o1', o2', o3']) S
  | [], o1, o2, o3 => ⟨o1, o2, o3, rfl⟩
  | x :: xs, o1, o2, o3 => by
    obtain ⟨a2, a3, h⟩ := pr_in (n := n) (S := S) (ds := ds) (x := x) ds o2 o3
    obtain ⟨p1, p2, p3, ih⟩ := pr_out (ds := ds) xs (some (.d x.enc)) a2 a3
    refine ⟨p1, p2, p3, ?_⟩
    rw [← ih, List.map_cons, runF_cons, st_one]
    simp (config := { maxSteps := 4000000 }) (disch := trivial) only [EVR, reduceIte, Bool.false_eq_true, Bool.true_eq_false, if_true, if_false, decide_true, decide_false, allD, isiD, isiOk, String.reduceBEq, Bool.or_true, Bool.true_or, Bool.or_false, Bool.false_or, Bool.and_true, Bool.true_and, Bool.and_false, Bool.false_and, Bool.not_true, Bool.not_false, Int.cast_ofNat_Int, Int.reduceBEq, Int.reduceBNe, Int.reduceEq, Int.reduceLT, Int.reduceLE, Int.reduceAdd, Int.reduceSub, Int.reduceMul, Int.reduceNeg, Int.reduceToNat, beq_self_eq_true, Nat.add_eq, Nat.reduceBEq, Nat.reduceAdd, Nat.reduceLeDiff, Nat.reduceLT, Nat.reduceEqDiff, Nat.reduceSub, Nat.reduceMul, l__law_pairs_right_2, h, sg_l]
theorem k_pright {ds : List Deed} : call P (n + 4) F__law_pairs_right [.lst (ds.map Deed.enc)] S = .ok (.d (.bl true)) S := by
  obtain ⟨a, b, c, h⟩ := pr_out (n := n) (S := S) (ds := ds) ds none none none
  rw [run__law_pairs_right]
  simp (config := { maxSteps := 4000000 }) (disch := trivial) only [EVR, reduceIte, Bool.false_eq_true, Bool.true_eq_false, if_true, if_false, decide_true, decide_false, allD, isiD, isiOk, String.reduceBEq, Bool.or_true, Bool.true_or, Bool.or_false, Bool.false_or, Bool.and_true, Bool.true_and, Bool.and_false, Bool.false_and, Bool.not_true, Bool.not_false, Int.cast_ofNat_Int, Int.reduceBEq, Int.reduceBNe, Int.reduceEq, Int.reduceLT, Int.reduceLE, Int.reduceAdd, Int.reduceSub, Int.reduceMul, Int.reduceNeg, Int.reduceToNat, beq_self_eq_true, Nat.add_eq, Nat.reduceBEq, Nat.reduceAdd, Nat.reduceLeDiff, Nat.reduceLT, Nat.reduceEqDiff, Nat.reduceSub, Nat.reduceMul, b__law_pairs_right, h]
end Ev
set_option maxHeartbeats 4000000
namespace Ev
local macro_rules | `(tactic| trivial) => `(tactic| first | assumption | omega | (apply rngOk_in <;> omega) | (apply mulOk_small <;> omega) | (apply fdvOk_of <;> omega) | (exact decide_eq_true (by omega)) | (apply szOk_in; omega) | (apply szOk_in; simp only [List.length_cons, List.length_nil, List.length_append, List.length_map]; omega) | rfl)
variable {n : Nat} {S : Sto}
theorem isNm_of {z : Nm} (h1 : 1 ≤ z.length) (h2 : z.length ≤ 8) (h3 : ∀ c ∈ z, c ∈ letters) : isNm z = true := by
  unfold isNm
  rw [decide_eq_true h1, decide_eq_true h2]
  exact List.all_eq_true.mpr fun c hc => decide_eq_true (h3 c hc)
theorem let_nd : letters.Nodup := by decide
/-- the letters, turned -/
def rotL (t : Nat) : Nm := letters.drop t ++ letters.take t
theorem rot_len {t : Nat} (h : t < 26) : (rotL t).length = 26 := by
  unfold rotL
  rw [List.length_append, List.length_drop, List.length_take]
  show 26 - t + min t 26 = 26
  omega
theorem rot_mem {t c : Nat} (h : c ∈ rotL t) : c ∈ letters := by
  rcases List.mem_append.mp h with h | h
  · exact List.mem_of_mem_drop h
  · exact List.mem_of_mem_take h
theorem rot_nd {t : Nat} : (rotL t).Nodup := by
  refine (List.perm_append_comm.nodup_iff).mp ?_
  rw [List.take_append_drop]
  exact let_nd
theorem nd_inj {α : Type} {l : List α} (h : l.Nodup) {i j : Nat} (hi : i < l.length) (hj : j < l.length) {d : α} (e : (some l[i]).getD d = (some l[j]).getD d) : i = j := by
  have e : l[i] = l[j] := e
  have p := List.pairwise_iff_getElem.mp (List.nodup_iff_pairwise_ne.mp h)
  rcases Nat.lt_trichotomy i j with q | q | q
  · exact absurd e (p i j hi hj q)
  · exact q
  · exact absurd e.symm (p j i hj hi q)
theorem cutL_both {α : Type} {l : List α} {i j : Int} (hi : 0 ≤ i) (hj : 0 ≤ j) : cutL l (some i) (some j) = (l.drop (min i.toNat l.length)).take (min j.toNat l.length - min i.toNat l.length) := by
  unfold cutL slcI
  simp only []
  rw [if_neg (by omega), if_neg (by omega)]
theorem k_names8 {a : Nat} {v : Int} (ha : a < S.length) (v0 : 0 ≤ v) : ∃ (ns : List Nm) (v' : Int), 2 ≤ ns.length ∧ ns.length ≤ 3 ∧ ns.Nodup ∧ (∀ z ∈ ns, isNm z = true) ∧ 0 ≤ v' ∧ call P (n + 2) F__law_names [.ref a] (pk S a v) = .ok (.d (.lst (ns.map D.str))) (pk S a v') := by
  have s1 := k_take (n := n) (S := S) (v := v) (s := 26) ha (by decide) (by decide)
  have t0 := Int.emod_nonneg v (b := 26) (by decide)
  have t1 := Int.emod_lt_of_pos v (b := 26) (by decide)
  have v10 : 0 ≤ v / 26 := by omega
  generalize v % 26 = t at s1 t0 t1
  generalize v / 26 = v1 at s1 v10
  have s2 := k_take (n := n) (S := S) (v := v1) (s := 8) ha (by decide) (by decide)
  have z0 := Int.emod_nonneg v1 (b := 8) (by decide)
  have z1 := Int.emod_lt_of_pos v1 (b := 8) (by decide)
  have v20 : 0 ≤ v1 / 8 := by omega
  generalize v1 % 8 = z at s2 z0 z1
  generalize v1 / 8 = v2 at s2 v20
  have s3 := k_take (n := n) (S := S) (v := v2) (s := 3) ha (by decide) (by decide)
  have v30 : 0 ≤ v2 / 3 := by omega
  have rl : (rotL t.toNat).length = 26 := rot_len (by omega)
  have er : letters.drop t.toNat ++ letters.take t.toNat = rotL t.toNat := rfl
  have zz : szOk ((letters.drop t.toNat).length + (letters.take t.toNat).length) = true := szOk_in (by rw [List.length_drop, List.length_take]; show 26 - _ + min _ 26 ≤ _; omega)
  generalize v2 / 3 = v3 at s3 v30
  by_cases q : v2 % 3 = 0
  · have qq : (v2 % 3 == 0) = true := by simpa using q
    have s4 := k_take (n := n) (S := S) (v := v3) (s := 2) ha (by decide) (by decide)
    have m0 := Int.emod_nonneg v3 (b := 2) (by decide)
    have m1 := Int.emod_lt_of_pos v3 (b := 2) (by decide)
    have v40 : 0 ≤ v3 / 2 := by omega
    generalize v3 % 2 = m at s4 m0 m1
    generalize v3 / 2 = v4 at s4 v40
    let nmk : Nat → Nm := fun k => (rotL t.toNat).take (1 + (0 + (k : Int)) + z % 6).toNat
    have hk : ∀ k, nmk k = (rotL t.toNat).take (1 + (0 + (k : Int)) + z % 6).toNat := fun k => rfl
    have hl : ∀ k < 3, (nmk k).length = 1 + k + (z % 6).toNat := fun k h => by rw [hk, List.length_take, rl]; omega
    have lm : ((2 + m) - 0).toNat = 2 ∨ ((2 + m) - 0).toNat = 3 := by omega
    refine ⟨(List.range ((2 + m) - 0).toNat).map nmk, v4, by simp; omega, by simp; omega, ?_, fun z' hz => ?_, v40, ?_⟩
    · rw [List.nodup_iff_pairwise_ne, List.pairwise_map]
      refine List.Pairwise.imp_of_mem ?_ (List.nodup_iff_pairwise_ne.mp List.nodup_range)
      intro i j hi hj hne e
      have hi := List.mem_range.mp hi
      have hj := List.mem_range.mp hj
      have := congrArg List.length e
      rw [hl i (by omega), hl j (by omega)] at this
      omega
    · obtain ⟨k, h, rfl⟩ := List.mem_map.mp hz
      have h := List.mem_range.mp h
      refine isNm_of (by rw [hl k (by omega)]; omega) (by rw [hl k (by omega)]; omega) fun c hc => rot_mem (t := t.toNat) ?_
      rw [hk] at hc
      exact List.mem_of_mem_take hc
    · have rg : rngOk 0 (2 + m) = true := rngOk_in (by omega) (by omega) (by omega) (by omega) (by omega)
      have hc2 : runC (call P (n + 1)) [5] [] m__law_names_1 (srcG [.d (.int (2 + m))] (pk S a v4)) (rngD 0 (2 + m)) [some (.d (.ref a)), some (.d (.str (rotL t.toNat))), none, some (.d (.int t)), some (.d (.int z)), none] (pk S a v4) = .ok ((List.range ((2 + m) - 0).toNat).map fun k => D.str (nmk k)) (pk S a v4) :=
        runC_mapL (v := fun (k : Nat) => D.int (0 + (k : Int))) (srcG_nr rfl) fun k hk' => ⟨_, rfl, by
          have k5 := List.mem_range.mp hk'
          have z6 := Int.emod_nonneg z (b := 6) (by decide)
          simp (config := { maxSteps := 4000000 }) (disch := trivial) only [EVR, reduceIte, Bool.false_eq_true, Bool.true_eq_false, if_true, if_false, decide_true, decide_false, allD, isiD, isiOk, String.reduceBEq, Bool.or_true, Bool.true_or, Bool.or_false, Bool.false_or, Bool.and_true, Bool.true_and, Bool.and_false, Bool.false_and, Bool.not_true, Bool.not_false, Int.cast_ofNat_Int, Int.reduceBEq, Int.reduceBNe, Int.reduceEq, Int.reduceLT, Int.reduceLE, Int.reduceAdd, Int.reduceSub, Int.reduceMul, Int.reduceNeg, Int.reduceToNat, beq_self_eq_true, Nat.add_eq, Nat.reduceBEq, Nat.reduceAdd, Nat.reduceLeDiff, Nat.reduceLT, Nat.reduceEqDiff, Nat.reduceSub, Nat.reduceMul, m__law_names_1, partD, cutL_hi (show 0 ≤ 1 + (0 + (k : Int)) + z % 6 by omega)]
          rfl⟩
      rw [run__law_names]
      simp (config := { maxSteps := 4000000 }) (disch := trivial) only [EVR, reduceIte, Bool.false_eq_true, Bool.true_eq_false, if_true, if_false, decide_true, decide_false, allD, isiD, isiOk, String.reduceBEq, Bool.or_true, Bool.true_or, Bool.or_false, Bool.false_or, Bool.and_true, Bool.true_and, Bool.and_false, Bool.false_and, Bool.not_true, Bool.not_false, Int.cast_ofNat_Int, Int.reduceBEq, Int.reduceBNe, Int.reduceEq, Int.reduceLT, Int.reduceLE, Int.reduceAdd, Int.reduceSub, Int.reduceMul, Int.reduceNeg, Int.reduceToNat, beq_self_eq_true, Nat.add_eq, Nat.reduceBEq, Nat.reduceAdd, Nat.reduceLeDiff, Nat.reduceLT, Nat.reduceEqDiff, Nat.reduceSub, Nat.reduceMul, b__law_names, c_LETTERS, s1, s2, s3, s4, qq, partD, cutL_lo t0, cutL_hi t0, er, zz, rg, src_rng1 rg, hc2]
      rw [List.map_map]
      rfl
  · have qq : (v2 % 3 == 0) = false := by simpa using q
    have s4 := k_take (n := n) (S := S) (v := v3) (s := z + 1) ha (by omega) (by omega)
    have w0 := Int.emod_nonneg v3 (b := z + 1) (by omega)
    have w1 := Int.emod_lt_of_pos v3 (b := z + 1) (by omega)
    have v40 : 0 ≤ v3 / (z + 1) := Int.ediv_nonneg v30 (by omega)
    generalize v3 % (z + 1) = w at s4 w0 w1
    generalize v3 / (z + 1) = v4 at s4 v40
    have s5 := k_take (n := n) (S := S) (v := v4) (s := 2) ha (by decide) (by decide)
    have m0 := Int.emod_nonneg v4 (b := 2) (by decide)
    have m1 := Int.emod_lt_of_pos v4 (b := 2) (by decide)
    have v50 : 0 ≤ v4 / 2 := by omega
    generalize v4 % 2 = m at s5 m0 m1
    generalize v4 / 2 = v5 at s5 v50
    have hg : ∀ k : Nat, k < 3 → atI (rotL t.toNat) (0 + (k : Int)) = some ((rotL t.toNat).getD k 0) := fun k h => by
      rw [atI_in (by omega), show (0 + (k : Int)).toNat = k by omega, List.getElem?_eq_getElem (by omega), List.getD_eq_getElem?_getD, List.getElem?_eq_getElem (by omega)]
      rfl
    have hgm : ∀ k : Nat, k < 3 → (rotL t.toNat).getD k 0 ∈ letters := fun k h => by
      rw [List.getD_eq_getElem?_getD, List.getElem?_eq_getElem (by omega)]
      exact rot_mem (List.getElem_mem _)
    let A : Nm := cutL (rotL t.toNat) (some 9) (some (9 + w))
    let B : Nm := cutL (rotL t.toNat) (some (9 + w)) (some (9 + z))
    have eA : cutL (rotL t.toNat) (some 9) (some (9 + w)) = A := rfl
    have eB : cutL (rotL t.toNat) (some (9 + w)) (some (9 + z)) = B := rfl
    have lA : A.length = w.toNat := by
      rw [← eA, cutL_both (by omega) (by omega), List.length_take, List.length_drop, rl]
      omega
    have lB : B.length = (z - w).toNat := by
      rw [← eB, cutL_both (by omega) (by omega), List.length_take, List.length_drop, rl]
      omega
    have mA : ∀ c ∈ A, c ∈ letters := fun c h => rot_mem (cutL_mem h)
    have mB : ∀ c ∈ B, c ∈ letters := fun c h => rot_mem (cutL_mem h)
    clear_value A B
    let nmk : Nat → Nm := fun k => A ++ [(rotL t.toNat).getD k 0] ++ B
    have hk : ∀ k, nmk k = A ++ [(rotL t.toNat).getD k 0] ++ B := fun k => rfl
    have hl : ∀ k, (nmk k).length = 1 + z.toNat := fun k => by rw [hk]; simp only [List.length_append, List.length_cons, List.length_nil, lA, lB]; omega
    have lm : ((2 + m) - 0).toNat = 2 ∨ ((2 + m) - 0).toNat = 3 := by omega
    refine ⟨(List.range ((2 + m) - 0).toNat).map nmk, v5, by simp; omega, by simp; omega, ?_, fun z' hz => ?_, v50, ?_⟩
    · rw [List.nodup_iff_pairwise_ne, List.pairwise_map]
      refine List.Pairwise.imp_of_mem ?_ (List.nodup_iff_pairwise_ne.mp List.nodup_range)
      intro i j hi hj hne e
      have hi := List.mem_range.mp hi
      have hj := List.mem_range.mp hj
      rw [hk, hk, List.append_assoc, List.append_assoc] at e
      have e2 := List.append_cancel_left e
      have e3 : (rotL t.toNat).getD i 0 = (rotL t.toNat).getD j 0 := by injection e2
      rw [List.getD_eq_getElem?_getD, List.getElem?_eq_getElem (by omega), List.getD_eq_getElem?_getD, List.getElem?_eq_getElem (by omega)] at e3
      exact hne (nd_inj rot_nd _ _ e3)
    · obtain ⟨k, h, rfl⟩ := List.mem_map.mp hz
      have h := List.mem_range.mp h
      refine isNm_of (by rw [hl k]; omega) (by rw [hl k]; omega) fun c hc => ?_
      rw [hk] at hc
      rcases List.mem_append.mp hc with h' | h'
      · rcases List.mem_append.mp h' with h' | h'
        · exact mA c h'
        · rw [List.mem_singleton.mp h']
          exact hgm k (by omega)
      · exact mB c h'
    · have rg : rngOk 0 (2 + m) = true := rngOk_in (by omega) (by omega) (by omega) (by omega) (by omega)
      have hc2 : runC (call P (n + 1)) [5] [] m__law_names_2 (srcG [.d (.int (2 + m))] (pk S a v5)) (rngD 0 (2 + m)) [some (.d (.ref a)), some (.d (.str (rotL t.toNat))), some (.d (.int w)), some (.d (.int t)), some (.d (.int z)), none] (pk S a v5) = .ok ((List.range ((2 + m) - 0).toNat).map fun k => D.str (nmk k)) (pk S a v5) :=
        runC_mapL (v := fun (k : Nat) => D.int (0 + (k : Int))) (srcG_nr rfl) fun k hk' => ⟨_, rfl, by
          have k5 := List.mem_range.mp hk'
          have g := hg k (by omega)
          have y1 : szOk (A.length + (0 + 1)) = true := szOk_in (by omega)
          have y2 : szOk ((A ++ [(rotL t.toNat).getD k 0]).length + B.length) = true := szOk_in (by rw [List.length_append, List.length_cons, List.length_nil]; omega)
          simp (config := { maxSteps := 4000000 }) (disch := trivial) only [EVR, reduceIte, Bool.false_eq_true, Bool.true_eq_false, if_true, if_false, decide_true, decide_false, allD, isiD, isiOk, String.reduceBEq, Bool.or_true, Bool.true_or, Bool.or_false, Bool.false_or, Bool.and_true, Bool.true_and, Bool.and_false, Bool.false_and, Bool.not_true, Bool.not_false, Int.cast_ofNat_Int, Int.reduceBEq, Int.reduceBNe, Int.reduceEq, Int.reduceLT, Int.reduceLE, Int.reduceAdd, Int.reduceSub, Int.reduceMul, Int.reduceNeg, Int.reduceToNat, beq_self_eq_true, Nat.add_eq, Nat.reduceBEq, Nat.reduceAdd, Nat.reduceLeDiff, Nat.reduceLT, Nat.reduceEqDiff, Nat.reduceSub, Nat.reduceMul, m__law_names_2, partD, eA, eB, g, y1, y2]
          rfl⟩
      rw [run__law_names]
      simp (config := { maxSteps := 4000000 }) (disch := trivial) only [EVR, reduceIte, Bool.false_eq_true, Bool.true_eq_false, if_true, if_false, decide_true, decide_false, allD, isiD, isiOk, String.reduceBEq, Bool.or_true, Bool.true_or, Bool.or_false, Bool.false_or, Bool.and_true, Bool.true_and, Bool.and_false, Bool.false_and, Bool.not_true, Bool.not_false, Int.cast_ofNat_Int, Int.reduceBEq, Int.reduceBNe, Int.reduceEq, Int.reduceLT, Int.reduceLE, Int.reduceAdd, Int.reduceSub, Int.reduceMul, Int.reduceNeg, Int.reduceToNat, beq_self_eq_true, Nat.add_eq, Nat.reduceBEq, Nat.reduceAdd, Nat.reduceLeDiff, Nat.reduceLT, Nat.reduceEqDiff, Nat.reduceSub, Nat.reduceMul, b__law_names, c_LETTERS, s1, s2, s3, s4, s5, qq, partD, cutL_lo t0, cutL_hi t0, er, zz, rg, src_rng1 rg, hc2]
      rw [List.map_map]
      rfl
end Ev
set_option maxHeartbeats 4000000
namespace Ev
local macro_rules | `(tactic| trivial) => `(tactic| first | assumption | omega | (apply rngOk_in <;> omega) | (apply mulOk_small <;> omega) | (apply fdvOk_of <;> omega) | (exact decide_eq_true (by omega)) | (apply szOk_in; omega) | (apply szOk_in; simp only [List.length_cons, List.length_nil, List.length_append, List.length_map]; omega) | rfl)
variable {n : Nat} {S : Sto}
theorem pickN {ns : List Nm} {i : Int} (h0 : 0 ≤ i) (h1 : i < ns.length) : ∃ z, z ∈ ns ∧ atI (ns.map D.str) i = some (.str z) := by
  obtain ⟨z, hz, e⟩ := at_mem (xs := ns) h0 h1
  exact ⟨z, hz, by rw [atI_in h0, List.getElem?_map, ← atI_in h0, e]; rfl⟩
theorem units_ok : unitB [100,97,121,115] = true ∧ unitB [109,111,110,116,104,115] = true ∧ unitB [121,101,97,114,115] = true := by decide
theorem since_first {z : Nm} (h : isNm z = true) : sinceD (Snc.first z).enc = true := by
  show (if wFirst = wComing then ([] : List D).isEmpty else (decide (wFirst = wFirst) || decide (wFirst = wLast)) && isNm z) = true
  rw [if_neg (by decide), h]; rfl
theorem since_last {z : Nm} (h : isNm z = true) : sinceD (Snc.last z).enc = true := by
  show (if wLast = wComing then ([] : List D).isEmpty else (decide (wLast = wFirst) || decide (wLast = wLast)) && isNm z) = true
  rw [if_neg (by decide), h]; rfl
theorem span_ok {m : Int} {u : Nm} (h0 : 0 ≤ m) (h1 : m ≤ 999) (hu : unitB u = true) : spanD (.int m) (.str u) = true := by
  show (decide (0 ≤ m) && decide (m ≤ 999) && unitB u) = true
  rw [decide_eq_true h0, decide_eq_true h1, hu]; rfl
theorem k_parts {a : Nat} {v : Int} {ns : List Nm} (ha : a < S.length) (v0 : 0 ≤ v) (hl : 2 ≤ ns.length) (hl3 : ns.length ≤ 3) (hn : ∀ z ∈ ns, isNm z = true) : ∃ (r : Rul) (v' : Int), ruleD r.enc = true ∧ 0 ≤ v' ∧
    call P (n + 2) F__law_parts [.ref a, .lst (ns.map D.str)] (pk S a v) = .ok (.d r.enc) (pk S a v') := by
  have ln : (((ns.map D.str).length : Nat) : Int) = (ns.length : Int) := by rw [List.length_map]
  have s1 := k_take (n := n) (S := S) (v := v) (s := (ns.length : Int)) ha (by omega) (by omega)
  obtain ⟨z, hz, ez⟩ := pickN (ns := ns) (i := v % (ns.length : Int)) (Int.emod_nonneg _ (by omega)) (Int.emod_lt_of_pos _ (by omega))
  obtain ⟨z0, hz0, ez0⟩ := pickN (ns := ns) (i := 0) (by omega) (by omega)
  have v10 : 0 ≤ v / (ns.length : Int) := Int.ediv_nonneg v0 (by omega)
  generalize v % (ns.length : Int) = t1 at s1 ez
  generalize v / (ns.length : Int) = v1 at s1 v10
  have s2 := k_take (n := n) (S := S) (v := v1) (s := 5) ha (by decide) (by decide)
  have w0 := Int.emod_nonneg v1 (b := 5) (by decide)
  have w1 := Int.emod_lt_of_pos v1 (b := 5) (by decide)
  have v20 : 0 ≤ v1 / 5 := by omega
  generalize v1 % 5 = w at s2 w0 w1
  generalize v1 / 5 = v2 at s2 v20
  have s3 := k_take (n := n) (S := S) (v := v2) (s := 3) ha (by decide) (by decide)
  obtain ⟨sn, hsn, esn⟩ : ∃ s : Snc, sinceD s.enc = true ∧ atI [D.tup [.str qComing], .tup [.str qFirst, .str z0], .tup [.str qLast, .str z0]] (v2 % 3) = some s.enc := by
    have : v2 % 3 = 0 ∨ v2 % 3 = 1 ∨ v2 % 3 = 2 := by omega
    rcases this with h | h | h <;> rw [h]
    · exact ⟨.coming, rfl, rfl⟩
    · exact ⟨.first z0, since_first (hn _ hz0), rfl⟩
    · exact ⟨.last z0, since_last (hn _ hz0), rfl⟩
  have v30 : 0 ≤ v2 / 3 := by omega
  generalize v2 % 3 = t3 at s3 esn
  generalize v2 / 3 = v3 at s3 v30
  have s4 := k_take (n := n) (S := S) (v := v3) (s := 3) ha (by decide) (by decide)
  obtain ⟨m, m0, m1, em⟩ : ∃ m : Int, 0 ≤ m ∧ m ≤ 999 ∧ atI [D.int 0, .int 1, .int 999] (v3 % 3) = some (.int m) := by
    have : v3 % 3 = 0 ∨ v3 % 3 = 1 ∨ v3 % 3 = 2 := by omega
    rcases this with h | h | h <;> rw [h]
    · exact ⟨0, by decide, by decide, rfl⟩
    · exact ⟨1, by decide, by decide, rfl⟩
    · exact ⟨999, by decide, by decide, rfl⟩
  have v40 : 0 ≤ v3 / 3 := by omega
  have s5 := k_take (n := n) (S := S) (v := v3 / 3) (s := 3) ha (by decide) (by decide)
  obtain ⟨u, hu, eu⟩ : ∃ u : Nm, unitB u = true ∧ atI [D.str [100,97,121,115], .str [109,111,110,116,104,115], .str [121,101,97,114,115]] (v3 / 3 % 3) = some (.str u) := by
    have : v3 / 3 % 3 = 0 ∨ v3 / 3 % 3 = 1 ∨ v3 / 3 % 3 = 2 := by omega
    rcases this with h | h | h <;> rw [h]
    · exact ⟨_, units_ok.1, rfl⟩
    · exact ⟨_, units_ok.2.1, rfl⟩
    · exact ⟨_, units_ok.2.2, rfl⟩
  have sp := span_ok m0 m1 hu
  have hz' := hn _ hz
  have hw : w = 0 ∨ w = 1 ∨ w = 2 ∨ w = 3 ∨ w = 4 := by omega
  have w5 : ∀ {a b c d e : D}, atI [a, b, c, d, e] 0 = some a ∧ atI [a, b, c, d, e] 1 = some b ∧ atI [a, b, c, d, e] 2 = some c ∧ atI [a, b, c, d, e] 3 = some d ∧ atI [a, b, c, d, e] 4 = some e := ⟨rfl, rfl, rfl, rfl, rfl⟩
  rcases hw with rfl | rfl | rfl | rfl | rfl
  · refine ⟨.keep z sn m u, v3 / 3 / 3, ?_, by omega, ?_⟩
    · show (isNm z && (decide _ && (sinceD sn.enc && spanD (.int m) (.str u)))) = true
      rw [hz', hsn, sp]; rfl
    · rw [run__law_parts]
      simp (config := { maxSteps := 4000000 }) (disch := trivial) only [EVR, reduceIte, Bool.false_eq_true, Bool.true_eq_false, if_true, if_false, decide_true, decide_false, allD, isiD, isiOk, String.reduceBEq, Bool.or_true, Bool.true_or, Bool.or_false, Bool.false_or, Bool.and_true, Bool.true_and, Bool.and_false, Bool.false_and, Bool.not_true, Bool.not_false, Int.cast_ofNat_Int, Int.reduceBEq, Int.reduceBNe, Int.reduceEq, Int.reduceLT, Int.reduceLE, Int.reduceAdd, Int.reduceSub, Int.reduceMul, Int.reduceNeg, Int.reduceToNat, beq_self_eq_true, Nat.add_eq, Nat.reduceBEq, Nat.reduceAdd, Nat.reduceLeDiff, Nat.reduceLT, Nat.reduceEqDiff, Nat.reduceSub, Nat.reduceMul, b__law_parts, ln, s1, s2, s3, s4, s5, ez, ez0, w5, esn, em, eu] <;> rfl
  · refine ⟨.gone z sn m u, v3 / 3 / 3, ?_, by omega, ?_⟩
    · show (isNm z && (decide _ && (sinceD sn.enc && spanD (.int m) (.str u)))) = true
      rw [hz', hsn, sp]; rfl
    · rw [run__law_parts]
      simp (config := { maxSteps := 4000000 }) (disch := trivial) only [EVR, reduceIte, Bool.false_eq_true, Bool.true_eq_false, if_true, if_false, decide_true, decide_false, allD, isiD, isiOk, String.reduceBEq, Bool.or_true, Bool.true_or, Bool.or_false, Bool.false_or, Bool.and_true, Bool.true_and, Bool.and_false, Bool.false_and, Bool.not_true, Bool.not_false, Int.cast_ofNat_Int, Int.reduceBEq, Int.reduceBNe, Int.reduceEq, Int.reduceLT, Int.reduceLE, Int.reduceAdd, Int.reduceSub, Int.reduceMul, Int.reduceNeg, Int.reduceToNat, beq_self_eq_true, Nat.add_eq, Nat.reduceBEq, Nat.reduceAdd, Nat.reduceLeDiff, Nat.reduceLT, Nat.reduceEqDiff, Nat.reduceSub, Nat.reduceMul, b__law_parts, ln, s1, s2, s3, s4, s5, ez, ez0, w5, esn, em, eu] <;> rfl
  · refine ⟨.whil z, v3, ?_, v30, ?_⟩
    · show (isNm z && decide _) = true
      rw [hz']; rfl
    · rw [run__law_parts]
      simp (config := { maxSteps := 4000000 }) (disch := trivial) only [EVR, reduceIte, Bool.false_eq_true, Bool.true_eq_false, if_true, if_false, decide_true, decide_false, allD, isiD, isiOk, String.reduceBEq, Bool.or_true, Bool.true_or, Bool.or_false, Bool.false_or, Bool.and_true, Bool.true_and, Bool.and_false, Bool.false_and, Bool.not_true, Bool.not_false, Int.cast_ofNat_Int, Int.reduceBEq, Int.reduceBNe, Int.reduceEq, Int.reduceLT, Int.reduceLE, Int.reduceAdd, Int.reduceSub, Int.reduceMul, Int.reduceNeg, Int.reduceToNat, beq_self_eq_true, Nat.add_eq, Nat.reduceBEq, Nat.reduceAdd, Nat.reduceLeDiff, Nat.reduceLT, Nat.reduceEqDiff, Nat.reduceSub, Nat.reduceMul, b__law_parts, ln, s1, s2, s3, ez, ez0, w5, esn] <;> rfl
  · refine ⟨.follow z, v3, ?_, v30, ?_⟩
    · show (isNm z && decide _) = true
      rw [hz']; rfl
    · rw [run__law_parts]
      simp (config := { maxSteps := 4000000 }) (disch := trivial) only [EVR, reduceIte, Bool.false_eq_true, Bool.true_eq_false, if_true, if_false, decide_true, decide_false, allD, isiD, isiOk, String.reduceBEq, Bool.or_true, Bool.true_or, Bool.or_false, Bool.false_or, Bool.and_true, Bool.true_and, Bool.and_false, Bool.false_and, Bool.not_true, Bool.not_false, Int.cast_ofNat_Int, Int.reduceBEq, Int.reduceBNe, Int.reduceEq, Int.reduceLT, Int.reduceLE, Int.reduceAdd, Int.reduceSub, Int.reduceMul, Int.reduceNeg, Int.reduceToNat, beq_self_eq_true, Nat.add_eq, Nat.reduceBEq, Nat.reduceAdd, Nat.reduceLeDiff, Nat.reduceLT, Nat.reduceEqDiff, Nat.reduceSub, Nat.reduceMul, b__law_parts, ln, s1, s2, s3, ez, ez0, w5, esn] <;> rfl
  · refine ⟨.leave z, v3, ?_, v30, ?_⟩
    · show (isNm z && decide _) = true
      rw [hz']; rfl
    · rw [run__law_parts]
      simp (config := { maxSteps := 4000000 }) (disch := trivial) only [EVR, reduceIte, Bool.false_eq_true, Bool.true_eq_false, if_true, if_false, decide_true, decide_false, allD, isiD, isiOk, String.reduceBEq, Bool.or_true, Bool.true_or, Bool.or_false, Bool.false_or, Bool.and_true, Bool.true_and, Bool.and_false, Bool.false_and, Bool.not_true, Bool.not_false, Int.cast_ofNat_Int, Int.reduceBEq, Int.reduceBNe, Int.reduceEq, Int.reduceLT, Int.reduceLE, Int.reduceAdd, Int.reduceSub, Int.reduceMul, Int.reduceNeg, Int.reduceToNat, beq_self_eq_true, Nat.add_eq, Nat.reduceBEq, Nat.reduceAdd, Nat.reduceLeDiff, Nat.reduceLT, Nat.reduceEqDiff, Nat.reduceSub, Nat.reduceMul, b__law_parts, ln, s1, s2, s3, ez, ez0, w5, esn] <;> rfl
theorem k_deed8 {a : Nat} {v : Int} {ns : List Nm} (ha : a < S.length) (v0 : 0 ≤ v) (hl : 2 ≤ ns.length) (hl3 : ns.length ≤ 3) (hd : ns.Nodup) (hn : ∀ z ∈ ns, isNm z = true) : ∃ (x : Deed) (v' : Int), okDeed x ∧ 0 ≤ v' ∧
    call P (n + 3) F__law_deed [.ref a, .lst (ns.map D.str)] (pk S a v) = .ok (.d x.enc) (pk S a v') := by
  have ln : (((ns.map D.str).length : Nat) : Int) = (ns.length : Int) := by rw [List.length_map]
  have s1 := k_take (n := n + 1) (S := S) (v := v) (s := 4) ha (by decide) (by decide)
  have t0 := Int.emod_nonneg v (b := 4) (by decide)
  have t1 := Int.emod_lt_of_pos v (b := 4) (by decide)
  have v10 : 0 ≤ v / 4 := by omega
  generalize v % 4 = t at s1 t0 t1
  generalize v / 4 = v1 at s1 v10
  have s2 := k_take (n := n + 1) (S := S) (v := v1) (s := 100000) ha (by decide) (by decide)
  have u0 := Int.emod_nonneg v1 (b := 100000) (by decide)
  have u1 := Int.emod_lt_of_pos v1 (b := 100000) (by decide)
  have v20 : 0 ≤ v1 / 100000 := by omega
  generalize v1 % 100000 = u at s2 u0 u1
  generalize v1 / 100000 = v2 at s2 v20
  have s3 := k_take (n := n + 1) (S := S) (v := v2) (s := 4) ha (by decide) (by decide)
  obtain ⟨d, d0, d1, ed⟩ : ∃ d : Int, 0 ≤ d ∧ d ≤ 99999 ∧ atI [D.int t, .int u] (if (v2 % 4 == 0) = true then 1 else 0) = some (.int d) := by
    by_cases q : (v2 % 4 == 0) = true
    · rw [if_pos q]; exact ⟨u, u0, by omega, rfl⟩
    · rw [if_neg q]; exact ⟨t, t0, by omega, rfl⟩
  have v30 : 0 ≤ v2 / 4 := by omega
  generalize v2 % 4 = t3 at s3 ed
  generalize v2 / 4 = v3 at s3 v30
  have s4 := k_take (n := n + 1) (S := S) (v := v3) (s := (ns.length : Int)) ha (by omega) (by omega)
  obtain ⟨p, hp, ep⟩ := pickN (ns := ns) (i := v3 % (ns.length : Int)) (Int.emod_nonneg _ (by omega)) (Int.emod_lt_of_pos _ (by omega))
  have v40 : 0 ≤ v3 / (ns.length : Int) := Int.ediv_nonneg v30 (by omega)
  generalize v3 % (ns.length : Int) = t4 at s4 ep
  generalize v3 / (ns.length : Int) = v4 at s4 v40
  have s5 := k_take (n := n + 1) (S := S) (v := v4) (s := (ns.length : Int)) ha (by omega) (by omega)
  obtain ⟨k, hk, ek⟩ := pickN (ns := ns) (i := v4 % (ns.length : Int)) (Int.emod_nonneg _ (by omega)) (Int.emod_lt_of_pos _ (by omega))
  have v50 : 0 ≤ v4 / (ns.length : Int) := Int.ediv_nonneg v40 (by omega)
  generalize v4 % (ns.length : Int) = t5 at s5 ek
  generalize v4 / (ns.length : Int) = v5 at s5 v50
  have s6 := k_take (n := n + 1) (S := S) (v := v5) (s := 7) ha (by decide) (by decide)
  have x0 := Int.emod_nonneg v5 (b := 7) (by decide)
  have x1 := Int.emod_lt_of_pos v5 (b := 7) (by decide)
  have v60 : 0 ≤ v5 / 7 := by omega
  generalize v5 % 7 = w at s6 x0 x1
  generalize v5 / 7 = v6 at s6 v60
  have hp' := hn _ hp
  have hk' := hn _ hk
  have hw : w = 0 ∨ w = 1 ∨ w = 2 ∨ w = 3 ∨ w = 4 ∨ w = 5 ∨ w = 6 := by omega
  rcases hw with rfl | rfl | rfl | rfl | rfl | rfl | rfl
  · obtain ⟨zs, ezs, hpm, hpw⟩ := sortD_strs ns
    have oo := ordOk_strs ns
    have s7 := k_take (n := n + 1) (S := S) (v := v6) (s := 3) ha (by decide) (by decide)
    have y0 := Int.emod_nonneg v6 (b := 3) (by decide)
    have y1 := Int.emod_lt_of_pos v6 (b := 3) (by decide)
    refine ⟨.paper d p k (zs.take (v6 % 3).toNat), v6 / 3, ⟨d0, d1, hp', hk', ?_⟩, by omega, ?_⟩
    · refine makD_of (by rw [List.length_take]; omega) (hpw.sublist (List.take_sublist _ _)) (((hpm.nodup_iff).mpr hd).sublist (List.take_sublist _ _)) fun z hz => hn z (hpm.mem_iff.mp (List.mem_of_mem_take hz))
    · rw [run__law_deed]
      simp (config := { maxSteps := 4000000 }) (disch := trivial) only [EVR, reduceIte, Bool.false_eq_true, Bool.true_eq_false, if_true, if_false, decide_true, decide_false, allD, isiD, isiOk, String.reduceBEq, Bool.or_true, Bool.true_or, Bool.or_false, Bool.false_or, Bool.and_true, Bool.true_and, Bool.and_false, Bool.false_and, Bool.not_true, Bool.not_false, Int.cast_ofNat_Int, Int.reduceBEq, Int.reduceBNe, Int.reduceEq, Int.reduceLT, Int.reduceLE, Int.reduceAdd, Int.reduceSub, Int.reduceMul, Int.reduceNeg, Int.reduceToNat, beq_self_eq_true, Nat.add_eq, Nat.reduceBEq, Nat.reduceAdd, Nat.reduceLeDiff, Nat.reduceLT, Nat.reduceEqDiff, Nat.reduceSub, Nat.reduceMul, b__law_deed, ln, s1, s2, s3, s4, s5, s6, s7, ed, ep, ek, oo, ezs, partD, cutL_hi y0]
      show _ = R.ok (W.d (D.tup [.str qPaper, .int d, .str p, .str k, .tup ((zs.take (v6 % 3).toNat).map D.str)])) _
      rw [List.map_take]
  · refine ⟨.happens d p k, v6, ⟨d0, d1, hp', hk'⟩, v60, ?_⟩
    rw [run__law_deed]
    simp (config := { maxSteps := 4000000 }) (disch := trivial) only [EVR, reduceIte, Bool.false_eq_true, Bool.true_eq_false, if_true, if_false, decide_true, decide_false, allD, isiD, isiOk, String.reduceBEq, Bool.or_true, Bool.true_or, Bool.or_false, Bool.false_or, Bool.and_true, Bool.true_and, Bool.and_false, Bool.false_and, Bool.not_true, Bool.not_false, Int.cast_ofNat_Int, Int.reduceBEq, Int.reduceBNe, Int.reduceEq, Int.reduceLT, Int.reduceLE, Int.reduceAdd, Int.reduceSub, Int.reduceMul, Int.reduceNeg, Int.reduceToNat, beq_self_eq_true, Nat.add_eq, Nat.reduceBEq, Nat.reduceAdd, Nat.reduceLeDiff, Nat.reduceLT, Nat.reduceEqDiff, Nat.reduceSub, Nat.reduceMul, b__law_deed, ln, s1, s2, s3, s4, s5, s6, ed, ep, ek] <;> rfl
  · obtain ⟨r, v7, hr, v70, c⟩ := k_parts (n := n) (S := S) (v := v6) ha v60 hl hl3 hn
    refine ⟨.rule d p r, v7, ⟨d0, d1, hp', hr⟩, v70, ?_⟩
    rw [run__law_deed]
    simp (config := { maxSteps := 4000000 }) (disch := trivial) only [EVR, reduceIte, Bool.false_eq_true, Bool.true_eq_false, if_true, if_false, decide_true, decide_false, allD, isiD, isiOk, String.reduceBEq, Bool.or_true, Bool.true_or, Bool.or_false, Bool.false_or, Bool.and_true, Bool.true_and, Bool.and_false, Bool.false_and, Bool.not_true, Bool.not_false, Int.cast_ofNat_Int, Int.reduceBEq, Int.reduceBNe, Int.reduceEq, Int.reduceLT, Int.reduceLE, Int.reduceAdd, Int.reduceSub, Int.reduceMul, Int.reduceNeg, Int.reduceToNat, beq_self_eq_true, Nat.add_eq, Nat.reduceBEq, Nat.reduceAdd, Nat.reduceLeDiff, Nat.reduceLT, Nat.reduceEqDiff, Nat.reduceSub, Nat.reduceMul, b__law_deed, ln, s1, s2, s3, s4, s5, s6, ed, ep, ek, c] <;> rfl
  · refine ⟨.fin d p, v6, ⟨d0, d1, hp', trivial⟩, v60, ?_⟩
    rw [run__law_deed]
    simp (config := { maxSteps := 4000000 }) (disch := trivial) only [EVR, reduceIte, Bool.false_eq_true, Bool.true_eq_false, if_true, if_false, decide_true, decide_false, allD, isiD, isiOk, String.reduceBEq, Bool.or_true, Bool.true_or, Bool.or_false, Bool.false_or, Bool.and_true, Bool.true_and, Bool.and_false, Bool.false_and, Bool.not_true, Bool.not_false, Int.cast_ofNat_Int, Int.reduceBEq, Int.reduceBNe, Int.reduceEq, Int.reduceLT, Int.reduceLE, Int.reduceAdd, Int.reduceSub, Int.reduceMul, Int.reduceNeg, Int.reduceToNat, beq_self_eq_true, Nat.add_eq, Nat.reduceBEq, Nat.reduceAdd, Nat.reduceLeDiff, Nat.reduceLT, Nat.reduceEqDiff, Nat.reduceSub, Nat.reduceMul, b__law_deed, ln, s1, s2, s3, s4, s5, s6, ed, ep, ek] <;> rfl
  · have s7 := k_take (n := n + 1) (S := S) (v := v6) (s := 2) ha (by decide) (by decide)
    obtain ⟨ik, eik⟩ : ∃ ik : Bool, atI [D.str qPaper, .str qKind] (v6 % 2) = some (.str (if ik then qKind else qPaper)) := by
      have : v6 % 2 = 0 ∨ v6 % 2 = 1 := by omega
      rcases this with h | h <;> rw [h]
      · exact ⟨false, rfl⟩
      · exact ⟨true, rfl⟩
    have s8 := k_take (n := n + 1) (S := S) (v := v6 / 2) (s := 2) ha (by decide) (by decide)
    refine ⟨.hold d p ik k (v6 / 2 % 2 == 0), v6 / 2 / 2, ⟨d0, d1, hp', hk'⟩, by omega, ?_⟩
    rw [run__law_deed]
    simp (config := { maxSteps := 4000000 }) (disch := trivial) only [EVR, reduceIte, Bool.false_eq_true, Bool.true_eq_false, if_true, if_false, decide_true, decide_false, allD, isiD, isiOk, String.reduceBEq, Bool.or_true, Bool.true_or, Bool.or_false, Bool.false_or, Bool.and_true, Bool.true_and, Bool.and_false, Bool.false_and, Bool.not_true, Bool.not_false, Int.cast_ofNat_Int, Int.reduceBEq, Int.reduceBNe, Int.reduceEq, Int.reduceLT, Int.reduceLE, Int.reduceAdd, Int.reduceSub, Int.reduceMul, Int.reduceNeg, Int.reduceToNat, beq_self_eq_true, Nat.add_eq, Nat.reduceBEq, Nat.reduceAdd, Nat.reduceLeDiff, Nat.reduceLT, Nat.reduceEqDiff, Nat.reduceSub, Nat.reduceMul, b__law_deed, ln, s1, s2, s3, s4, s5, s6, s7, s8, ed, ep, ek, eik] <;> rfl
  · refine ⟨.lift d p, v6, ⟨d0, d1, hp', trivial⟩, v60, ?_⟩
    rw [run__law_deed]
    simp (config := { maxSteps := 4000000 }) (disch := trivial) only [EVR, reduceIte, Bool.false_eq_true, Bool.true_eq_false, if_true, if_false, decide_true, decide_false, allD, isiD, isiOk, String.reduceBEq, Bool.or_true, Bool.true_or, Bool.or_false, Bool.false_or, Bool.and_true, Bool.true_and, Bool.and_false, Bool.false_and, Bool.not_true, Bool.not_false, Int.cast_ofNat_Int, Int.reduceBEq, Int.reduceBNe, Int.reduceEq, Int.reduceLT, Int.reduceLE, Int.reduceAdd, Int.reduceSub, Int.reduceMul, Int.reduceNeg, Int.reduceToNat, beq_self_eq_true, Nat.add_eq, Nat.reduceBEq, Nat.reduceAdd, Nat.reduceLeDiff, Nat.reduceLT, Nat.reduceEqDiff, Nat.reduceSub, Nat.reduceMul, b__law_deed, ln, s1, s2, s3, s4, s5, s6, ed, ep, ek] <;> rfl
  · refine ⟨.leave d p k, v6, ⟨d0, d1, hp', hk'⟩, v60, ?_⟩
    rw [run__law_deed]
    simp (config := { maxSteps := 4000000 }) (disch := trivial) only [EVR, reduceIte, Bool.false_eq_true, Bool.true_eq_false, if_true, if_false, decide_true, decide_false, allD, isiD, isiOk, String.reduceBEq, Bool.or_true, Bool.true_or, Bool.or_false, Bool.false_or, Bool.and_true, Bool.true_and, Bool.and_false, Bool.false_and, Bool.not_true, Bool.not_false, Int.cast_ofNat_Int, Int.reduceBEq, Int.reduceBNe, Int.reduceEq, Int.reduceLT, Int.reduceLE, Int.reduceAdd, Int.reduceSub, Int.reduceMul, Int.reduceNeg, Int.reduceToNat, beq_self_eq_true, Nat.add_eq, Nat.reduceBEq, Nat.reduceAdd, Nat.reduceLeDiff, Nat.reduceLT, Nat.reduceEqDiff, Nat.reduceSub, Nat.reduceMul, b__law_deed, ln, s1, s2, s3, s4, s5, s6, ed, ep, ek] <;> rfl
theorem c13 {α : Type} {a b c : α} {l : List α} : cutL (a :: b :: c :: l) (some 1) (some 3) = [b, c] := by
  rw [cutL_both (by omega) (by omega)]
  simp only [List.length_cons]
  have e1 : min (1 : Int).toNat (l.length + 1 + 1 + 1) = 1 := by show min 1 _ = 1; omega
  have e2 : min (3 : Int).toNat (l.length + 1 + 1 + 1) = 3 := by show min 3 _ = 3; omega
  rw [e1, e2]
  rfl
theorem k_put {a : Nat} {v : Int} {ns : List Nm} {x : Deed} (hx : okDeed x) (ha : a < S.length) (v0 : 0 ≤ v) (hl : 2 ≤ ns.length) (hl3 : ns.length ≤ 3) (hd : ns.Nodup) (hn : ∀ z ∈ ns, isNm z = true) : ∃ (y : Deed) (v' : Int), okDeed y ∧ 0 ≤ v' ∧
    call P (n + 4) F__law_put [x.enc, .ref a, .lst (ns.map D.str)] (pk S a v) = .ok (.d y.enc) (pk S a v') := by
  obtain ⟨f, v1, hf, v10, c⟩ := k_deed8 (n := n) (S := S) (v := v) ha v0 hl hl3 hd hn
  have s1 := k_take (n := n + 2) (S := S) (v := v1) (s := 5) ha (by decide) (by decide)
  have w0 := Int.emod_nonneg v1 (b := 5) (by decide)
  have w1 := Int.emod_lt_of_pos v1 (b := 5) (by decide)
  have v20 : 0 ≤ v1 / 5 := by omega
  generalize v1 % 5 = w at s1 w0 w1
  generalize v1 / 5 = v2 at s1 v20
  have tx : x.tail.length ≤ 2 := by cases x <;> simp [Deed.tail]
  have tf : f.tail.length ≤ 2 := by cases f <;> simp [Deed.tail]
  have vx : ∀ x : Deed, ∀ S, vw S x.enc = x.enc := fun _ _ => rfl
  have i0 : ∀ x : Deed, ∀ S, idxD x.enc (.int 0) S = .ok (.str x.word) S := fun _ _ => rfl
  have i1 : ∀ x : Deed, ∀ S, idxD x.enc (.int 1) S = .ok (.int x.day) S := fun _ _ => rfl
  have i2 : ∀ x : Deed, ∀ S, idxD x.enc (.int 2) S = .ok (.str x.name) S := fun _ _ => rfl
  have l2 : ∀ x : Deed, ∀ S, slcD x.enc (some 2) none S = .ok (.tup (.str x.name :: x.tail)) S := fun x S => by show R.ok (D.tup (cutL _ _ _)) S = _; rw [cutL_lo (by decide)]; rfl
  have l3 : ∀ x : Deed, ∀ S, slcD x.enc (some 3) none S = .ok (.tup x.tail) S := fun x S => by show R.ok (D.tup (cutL _ _ _)) S = _; rw [cutL_lo (by decide)]; rfl
  have u2 : ∀ x : Deed, ∀ S, slcD x.enc none (some 2) S = .ok (.tup [.str x.word, .int x.day]) S := fun x S => by show R.ok (D.tup (cutL _ _ _)) S = _; rw [cutL_hi (by decide)]; rfl
  have u3 : ∀ x : Deed, ∀ S, slcD x.enc none (some 3) S = .ok (.tup [.str x.word, .int x.day, .str x.name]) S := fun x S => by show R.ok (D.tup (cutL _ _ _)) S = _; rw [cutL_hi (by decide)]; rfl
  have m3 : ∀ x : Deed, ∀ S, slcD x.enc (some 1) (some 3) S = .ok (.tup [.int x.day, .str x.name]) S := fun x S => by show R.ok (D.tup (cutL _ _ _)) S = _; rw [c13]
  have hw : w = 0 ∨ w = 1 ∨ w = 2 ∨ w = 3 ∨ w = 4 := by omega
  rcases hw with rfl | rfl | rfl | rfl | rfl
  · refine ⟨x.at_ f.day x.name, v2, hx.at_ hf.d0 hf.d1 hx.nm, v20, ?_⟩
    rw [run__law_put, Deed.at_enc]
    simp (config := { maxSteps := 4000000 }) (disch := trivial) only [EVR, reduceIte, Bool.false_eq_true, Bool.true_eq_false, if_true, if_false, decide_true, decide_false, allD, isiD, isiOk, String.reduceBEq, Bool.or_true, Bool.true_or, Bool.or_false, Bool.false_or, Bool.and_true, Bool.true_and, Bool.and_false, Bool.false_and, Bool.not_true, Bool.not_false, Int.cast_ofNat_Int, Int.reduceBEq, Int.reduceBNe, Int.reduceEq, Int.reduceLT, Int.reduceLE, Int.reduceAdd, Int.reduceSub, Int.reduceMul, Int.reduceNeg, Int.reduceToNat, beq_self_eq_true, Nat.add_eq, Nat.reduceBEq, Nat.reduceAdd, Nat.reduceLeDiff, Nat.reduceLT, Nat.reduceEqDiff, Nat.reduceSub, Nat.reduceMul, b__law_put, c, s1, vx, i0, i1, l2, List.cons_append, List.nil_append]
  · refine ⟨x.at_ x.day f.name, v2, hx.at_ hx.d0 hx.d1 hf.nm, v20, ?_⟩
    rw [run__law_put, Deed.at_enc]
    simp (config := { maxSteps := 4000000 }) (disch := trivial) only [EVR, reduceIte, Bool.false_eq_true, Bool.true_eq_false, if_true, if_false, decide_true, decide_false, allD, isiD, isiOk, String.reduceBEq, Bool.or_true, Bool.true_or, Bool.or_false, Bool.false_or, Bool.and_true, Bool.true_and, Bool.and_false, Bool.false_and, Bool.not_true, Bool.not_false, Int.cast_ofNat_Int, Int.reduceBEq, Int.reduceBNe, Int.reduceEq, Int.reduceLT, Int.reduceLE, Int.reduceAdd, Int.reduceSub, Int.reduceMul, Int.reduceNeg, Int.reduceToNat, beq_self_eq_true, Nat.add_eq, Nat.reduceBEq, Nat.reduceAdd, Nat.reduceLeDiff, Nat.reduceLT, Nat.reduceEqDiff, Nat.reduceSub, Nat.reduceMul, b__law_put, c, s1, vx, u2, i2, l3, List.cons_append, List.nil_append]
  · refine ⟨f.at_ x.day x.name, v2, hf.at_ hx.d0 hx.d1 hx.nm, v20, ?_⟩
    rw [run__law_put, Deed.at_enc]
    simp (config := { maxSteps := 4000000 }) (disch := trivial) only [EVR, reduceIte, Bool.false_eq_true, Bool.true_eq_false, if_true, if_false, decide_true, decide_false, allD, isiD, isiOk, String.reduceBEq, Bool.or_true, Bool.true_or, Bool.or_false, Bool.false_or, Bool.and_true, Bool.true_and, Bool.and_false, Bool.false_and, Bool.not_true, Bool.not_false, Int.cast_ofNat_Int, Int.reduceBEq, Int.reduceBNe, Int.reduceEq, Int.reduceLT, Int.reduceLE, Int.reduceAdd, Int.reduceSub, Int.reduceMul, Int.reduceNeg, Int.reduceToNat, beq_self_eq_true, Nat.add_eq, Nat.reduceBEq, Nat.reduceAdd, Nat.reduceLeDiff, Nat.reduceLT, Nat.reduceEqDiff, Nat.reduceSub, Nat.reduceMul, b__law_put, c, s1, vx, i0, m3, l3, List.cons_append, List.nil_append]
  · cases q : f.word == x.word with
    | true =>
      have qe : f.word = x.word := by simpa using q
      refine ⟨f.at_ x.day x.name, v2, hf.at_ hx.d0 hx.d1 hx.nm, v20, ?_⟩
      rw [run__law_put, Deed.at_enc, qe]
      simp (config := { maxSteps := 4000000 }) (disch := trivial) only [EVR, reduceIte, Bool.false_eq_true, Bool.true_eq_false, if_true, if_false, decide_true, decide_false, allD, isiD, isiOk, String.reduceBEq, Bool.or_true, Bool.true_or, Bool.or_false, Bool.false_or, Bool.and_true, Bool.true_and, Bool.and_false, Bool.false_and, Bool.not_true, Bool.not_false, Int.cast_ofNat_Int, Int.reduceBEq, Int.reduceBNe, Int.reduceEq, Int.reduceLT, Int.reduceLE, Int.reduceAdd, Int.reduceSub, Int.reduceMul, Int.reduceNeg, Int.reduceToNat, beq_self_eq_true, Nat.add_eq, Nat.reduceBEq, Nat.reduceAdd, Nat.reduceLeDiff, Nat.reduceLT, Nat.reduceEqDiff, Nat.reduceSub, Nat.reduceMul, b__law_put, c, s1, vx, i0, q, u3, l3, List.cons_append, List.nil_append]
    | false =>
      refine ⟨x, v2, hx, v20, ?_⟩
      rw [run__law_put]
      simp (config := { maxSteps := 4000000 }) (disch := trivial) only [EVR, reduceIte, Bool.false_eq_true, Bool.true_eq_false, if_true, if_false, decide_true, decide_false, allD, isiD, isiOk, String.reduceBEq, Bool.or_true, Bool.true_or, Bool.or_false, Bool.false_or, Bool.and_true, Bool.true_and, Bool.and_false, Bool.false_and, Bool.not_true, Bool.not_false, Int.cast_ofNat_Int, Int.reduceBEq, Int.reduceBNe, Int.reduceEq, Int.reduceLT, Int.reduceLE, Int.reduceAdd, Int.reduceSub, Int.reduceMul, Int.reduceNeg, Int.reduceToNat, beq_self_eq_true, Nat.add_eq, Nat.reduceBEq, Nat.reduceAdd, Nat.reduceLeDiff, Nat.reduceLT, Nat.reduceEqDiff, Nat.reduceSub, Nat.reduceMul, b__law_put, c, s1, vx, i0, q]
  · refine ⟨x, v2, hx, v20, ?_⟩
    rw [run__law_put]
    simp (config := { maxSteps := 4000000 }) (disch := trivial) only [EVR, reduceIte, Bool.false_eq_true, Bool.true_eq_false, if_true, if_false, decide_true, decide_false, allD, isiD, isiOk, String.reduceBEq, Bool.or_true, Bool.true_or, Bool.or_false, Bool.false_or, Bool.and_true, Bool.true_and, Bool.and_false, Bool.false_and, Bool.not_true, Bool.not_false, Int.cast_ofNat_Int, Int.reduceBEq, Int.reduceBNe, Int.reduceEq, Int.reduceLT, Int.reduceLE, Int.reduceAdd, Int.reduceSub, Int.reduceMul, Int.reduceNeg, Int.reduceToNat, beq_self_eq_true, Nat.add_eq, Nat.reduceBEq, Nat.reduceAdd, Nat.reduceLeDiff, Nat.reduceLT, Nat.reduceEqDiff, Nat.reduceSub, Nat.reduceMul, b__law_put, c, s1, vx]
end Ev
set_option maxHeartbeats 4000000
namespace Ev
/-- those let in -/
def greedy (acc : List Deed) : List Deed → List Deed
  | [] => acc
  | x :: xs => greedy (if acc.any (fun y => quar x y) = true then acc else acc ++ [x]) xs
theorem greedy_tog : ∀ (xs acc : List Deed), tog acc = true → tog (greedy acc xs) = true
  | [], acc, h => h
  | x :: xs, acc, h => by
    rw [greedy]
    apply greedy_tog
    by_cases q : acc.any (fun y => quar x y) = true
    · rw [if_pos q]; exact h
    · rw [if_neg q]
      unfold tog at h ⊢
      rw [decide_eq_true_eq] at h ⊢
      rw [List.pairwise_append]
      refine ⟨h, by simp, fun a ha b hb => ?_⟩
      rw [List.mem_singleton.mp hb, quar_symm]
      have q := Bool.eq_false_iff.mpr q
      have := List.any_eq_false.mp q a ha
      simpa using this
theorem greedy_le : ∀ (xs acc : List Deed), (greedy acc xs).length ≤ acc.length + xs.length
  | [], acc => Nat.le_refl _
  | x :: xs, acc => by
    rw [greedy]
    rw [List.length_cons]
    by_cases q : acc.any (fun y => quar x y) = true
    · rw [if_pos q]
      have := greedy_le xs acc
      omega
    · rw [if_neg q]
      have := greedy_le xs (acc ++ [x])
      rw [List.length_append, List.length_cons, List.length_nil] at this
      omega
theorem tog_perm {ds es : List Deed} (h : ds.Perm es) : tog ds = tog es := by
  unfold tog
  rw [decide_eq_decide]
  exact h.pairwise_iff fun {a b} h => by rw [quar_symm]; exact h
theorem tog_sub {ds es : List Deed} (h : ds.Sublist es) (ht : tog es = true) : tog ds = true := by
  unfold tog at ht ⊢
  rw [decide_eq_true_eq] at ht ⊢
  exact ht.sublist h
theorem tog_twice {ds : List Deed} {x : Deed} (h : x ∈ ds) : tog (ds ++ [x]) = false := by
  unfold tog
  apply decide_eq_false
  intro z
  have := (List.pairwise_append.mp z).2.2 x h x List.mem_cons_self
  rw [quar_iff.mpr (.inl rfl)] at this
  cases this
theorem tog_rev {ds : List Deed} : tog ds.reverse = tog ds := tog_perm (List.reverse_perm ds)
end Ev
set_option maxHeartbeats 4000000
namespace Ev
local macro_rules | `(tactic| trivial) => `(tactic| first | assumption | omega | (apply rngOk_in <;> omega) | (apply mulOk_small <;> omega) | (apply fdvOk_of <;> omega) | (exact decide_eq_true (by omega)) | (apply szOk_in; omega) | (apply szOk_in; simp only [List.length_cons, List.length_nil, List.length_append, List.length_map]; omega) | rfl)
variable {n : Nat} {S : Sto}
theorem deed_at {ds : List Deed} {pre suf : List Deed} {x : Deed} (e : ds = pre ++ x :: suf) : atI (ds.map Deed.enc) (0 + (pre.length : Int)) = some x.enc := by
  rw [e, List.map_append, List.map_cons]
  exact atI_app (by simp)
theorem cut_pre {ds pre suf : List Deed} (e : ds = pre ++ suf) : cutL (ds.map Deed.enc) none (some (0 + (pre.length : Int))) = pre.map Deed.enc := by
  rw [cutL_hi (by omega), e, List.map_append, show (0 + (pre.length : Int)).toNat = (pre.map Deed.enc).length by simp, List.take_left]
theorem ltog_loop {ds : List Deed} : ∀ (suf pre : List Deed) (o1 o2 : Option W), ds = pre ++ suf → (pre.Pairwise fun a b => quar a b = false) →
    ∃ ρ', runF (call P (n + 2)) [1] l__law_together_2 (srcG [.d (.int ds.length)] S) ((List.range' pre.length suf.length).map fun (k : Nat) => D.int (0 + (k : Int))) [some (.d (.lst (ds.map Deed.enc))), o1, o2] S = (if tog ds = true then .ok (.nx (some (.d (.lst (ds.map Deed.enc))) :: ρ')) S else .ok (.rt (.d (.bl false))) S)
  | [], pre, o1, o2, e, hp => by
    refine ⟨[o1, o2], ?_⟩
    rw [if_pos (show tog ds = true by unfold tog; rw [e, List.append_nil]; exact decide_eq_true hp)]
    rfl
  | x :: suf, pre, o1, o2, e, hp => by
    have hx := deed_at e
    have hcut := cut_pre e
    have hc : runC (call P (n + 2)) [2] [] m__law_together_1 (srcG [.d (.lst (pre.map Deed.enc))] S) (pre.map Deed.enc) [some (.d (.lst (ds.map Deed.enc))), some (.d (.int (0 + (pre.length : Int)))), o2] S = .ok (pre.map fun y => D.bl (quar x y)) S :=
      runC_mapL (srcG_nr rfl) fun y _ => ⟨_, rfl, by
        have q := k_lquar (n := n) (S := S) (x := x) (y := y)
        simp (config := { maxSteps := 4000000 }) (disch := trivial) only [EVR, reduceIte, Bool.false_eq_true, Bool.true_eq_false, if_true, if_false, decide_true, decide_false, allD, isiD, isiOk, String.reduceBEq, Bool.or_true, Bool.true_or, Bool.or_false, Bool.false_or, Bool.and_true, Bool.true_and, Bool.and_false, Bool.false_and, Bool.not_true, Bool.not_false, Int.cast_ofNat_Int, Int.reduceBEq, Int.reduceBNe, Int.reduceEq, Int.reduceLT, Int.reduceLE, Int.reduceAdd, Int.reduceSub, Int.reduceMul, Int.reduceNeg, Int.reduceToNat, beq_self_eq_true, Nat.add_eq, Nat.reduceBEq, Nat.reduceAdd, Nat.reduceLeDiff, Nat.reduceLT, Nat.reduceEqDiff, Nat.reduceSub, Nat.reduceMul, m__law_together_1, hx, q]⟩
    have ha : blt1 .any (.lst (pre.map fun y => D.bl (quar x y))) S = .ok (.bl (pre.any fun y => quar x y)) S := by
      rw [l_any, listD_lst, Option.bind_some, toBools_map, Option.map_some, List.any_map]
      rfl
    rw [show List.range' pre.length (x :: suf).length = pre.length :: List.range' (pre.length + 1) suf.length from rfl, List.map_cons]
    cases q : pre.any fun y => quar x y with
    | true =>
      rw [q] at ha
      have nt : tog ds = false := by
        unfold tog
        apply decide_eq_false
        intro z
        rw [e, List.pairwise_append] at z
        obtain ⟨a, h1, h2⟩ := List.any_eq_true.mp q
        have := z.2.2 a h1 x List.mem_cons_self
        rw [quar_symm, h2] at this
        cases this
      refine ⟨[], ?_⟩
      rw [runF_cons, st_one, nt]
      simp (config := { maxSteps := 4000000 }) (disch := trivial) only [EVR, reduceIte, Bool.false_eq_true, Bool.true_eq_false, if_true, if_false, decide_true, decide_false, allD, isiD, isiOk, String.reduceBEq, Bool.or_true, Bool.true_or, Bool.or_false, Bool.false_or, Bool.and_true, Bool.true_and, Bool.and_false, Bool.false_and, Bool.not_true, Bool.not_false, Int.cast_ofNat_Int, Int.reduceBEq, Int.reduceBNe, Int.reduceEq, Int.reduceLT, Int.reduceLE, Int.reduceAdd, Int.reduceSub, Int.reduceMul, Int.reduceNeg, Int.reduceToNat, beq_self_eq_true, Nat.add_eq, Nat.reduceBEq, Nat.reduceAdd, Nat.reduceLeDiff, Nat.reduceLT, Nat.reduceEqDiff, Nat.reduceSub, Nat.reduceMul, l__law_together_2, hcut, hc, ha]
    | false =>
      rw [q] at ha
      obtain ⟨ρ', ih⟩ := ltog_loop (ds := ds) suf (pre ++ [x]) (some (.d (.int (0 + (pre.length : Int))))) o2 (by rw [e]; simp) (by
        rw [List.pairwise_append]
        refine ⟨hp, by simp, fun a h1 b h2 => ?_⟩
        rw [List.mem_singleton.mp h2, quar_symm]
        have := List.any_eq_false.mp q a h1
        simpa using this)
      refine ⟨ρ', ?_⟩
      rw [← ih, runF_cons, st_one]
      have l1 : (pre ++ [x]).length = pre.length + 1 := by simp
      rw [l1]
      simp (config := { maxSteps := 4000000 }) (disch := trivial) only [EVR, reduceIte, Bool.false_eq_true, Bool.true_eq_false, if_true, if_false, decide_true, decide_false, allD, isiD, isiOk, String.reduceBEq, Bool.or_true, Bool.true_or, Bool.or_false, Bool.false_or, Bool.and_true, Bool.true_and, Bool.and_false, Bool.false_and, Bool.not_true, Bool.not_false, Int.cast_ofNat_Int, Int.reduceBEq, Int.reduceBNe, Int.reduceEq, Int.reduceLT, Int.reduceLE, Int.reduceAdd, Int.reduceSub, Int.reduceMul, Int.reduceNeg, Int.reduceToNat, beq_self_eq_true, Nat.add_eq, Nat.reduceBEq, Nat.reduceAdd, Nat.reduceLeDiff, Nat.reduceLT, Nat.reduceEqDiff, Nat.reduceSub, Nat.reduceMul, l__law_together_2, hcut, hc, ha, sg_i]
theorem k_ltog {ds : List Deed} (hlen : ds.length ≤ 100000) : call P (n + 3) F__law_together [.lst (ds.map Deed.enc)] S = .ok (.d (.bl (tog ds))) S := by
  obtain ⟨ρ', h⟩ := ltog_loop (n := n) (S := S) (ds := ds) ds [] none none rfl .nil
  have e0 : ((List.range' ([] : List Deed).length ds.length).map fun (k : Nat) => D.int (0 + (k : Int))) = rngD 0 (ds.length : Int) := by
    unfold rngD
    have : ((ds.length : Int) - 0).toNat = ds.length := by omega
    rw [this, List.range_eq_range']
    rfl
  rw [e0] at h
  have rk : rngOk 0 (ds.length : Int) = true := rngOk_in (by omega) (by omega) (by omega) (by omega) (by omega)
  have lm : (((ds.map Deed.enc).length : Nat) : Int) = (ds.length : Int) := by rw [List.length_map]
  rw [run__law_together]
  cases q : tog ds with
  | true =>
    rw [q, if_pos rfl] at h
    simp (config := { maxSteps := 4000000 }) (disch := trivial) only [EVR, reduceIte, Bool.false_eq_true, Bool.true_eq_false, if_true, if_false, decide_true, decide_false, allD, isiD, isiOk, String.reduceBEq, Bool.or_true, Bool.true_or, Bool.or_false, Bool.false_or, Bool.and_true, Bool.true_and, Bool.and_false, Bool.false_and, Bool.not_true, Bool.not_false, Int.cast_ofNat_Int, Int.reduceBEq, Int.reduceBNe, Int.reduceEq, Int.reduceLT, Int.reduceLE, Int.reduceAdd, Int.reduceSub, Int.reduceMul, Int.reduceNeg, Int.reduceToNat, beq_self_eq_true, Nat.add_eq, Nat.reduceBEq, Nat.reduceAdd, Nat.reduceLeDiff, Nat.reduceLT, Nat.reduceEqDiff, Nat.reduceSub, Nat.reduceMul, b__law_together, lm, rk, src_rng1 rk, h]
  | false =>
    rw [q, if_neg (by decide)] at h
    simp (config := { maxSteps := 4000000 }) (disch := trivial) only [EVR, reduceIte, Bool.false_eq_true, Bool.true_eq_false, if_true, if_false, decide_true, decide_false, allD, isiD, isiOk, String.reduceBEq, Bool.or_true, Bool.true_or, Bool.or_false, Bool.false_or, Bool.and_true, Bool.true_and, Bool.and_false, Bool.false_and, Bool.not_true, Bool.not_false, Int.cast_ofNat_Int, Int.reduceBEq, Int.reduceBNe, Int.reduceEq, Int.reduceLT, Int.reduceLE, Int.reduceAdd, Int.reduceSub, Int.reduceMul, Int.reduceNeg, Int.reduceToNat, beq_self_eq_true, Nat.add_eq, Nat.reduceBEq, Nat.reduceAdd, Nat.reduceLeDiff, Nat.reduceLT, Nat.reduceEqDiff, Nat.reduceSub, Nat.reduceMul, b__law_together, lm, rk, src_rng1 rk, h]
theorem oks_deeds {n : Nat} : ∀ {ds : List Deed}, okDs (ds.map Deed.enc) (n + 4) = true
  | [] => rfl
  | z :: zs => by
    show (okD z.enc (n + 4) && okDs (zs.map Deed.enc) (n + 4)) = true
    rw [oks_deeds, Deed.ok]
    rfl
/-- the deeds, one by one -/
theorem build_loop {sc : List Int} {ns : List Nm} {o4 o5 o8 : Option W} (hnn : ∀ z ∈ sc, z.natAbs < 2 ^ 1048576) (hsl : sc.length ≤ 63) (hl : 2 ≤ ns.length) (hl3 : ns.length ≤ 3) (hd : ns.Nodup) (hn : ∀ z ∈ ns, isNm z = true) {g : Sto → Prop} (hg : ∀ S, g S) : ∀ (ks : List Int) (S : Sto) (ds : List Deed) (o3 o6 o7 : Option W), (∀ k ∈ ks, 0 ≤ k ∧ k ≤ 1000) → (∀ x ∈ ds, okDeed x) → ds.length + ks.length ≤ 1000 →
    ∃ (es : List Deed) (S' : Sto) (p3 p6 p7 : Option W), (∀ x ∈ es, okDeed x) ∧ es.length = ds.length + ks.length ∧ runF (call P (n + 5)) [3] l_law_1 g (ks.map D.int) [some (.d (.scr sc)), some (.d (.lst (ns.map D.str))), some (.own (.lst (ds.map Deed.enc))), o3, o4, o5, o6, o7, o8] S =
      .ok (.nx [some (.d (.scr sc)), some (.d (.lst (ns.map D.str))), some (.own (.lst (es.map Deed.enc))), p3, o4, o5, p6, p7, o8]) S'
  | [], S, ds, o3, o6, o7, _, h, _ => ⟨ds, S, o3, o6, o7, h, by simp, rfl⟩
  | k :: ks, S, ds, o3, o6, o7, hk, h, hlen => by
    obtain ⟨k0, k1⟩ := hk k List.mem_cons_self
    rw [List.length_cons] at hlen
    obtain ⟨v, v0, c1⟩ := k_pack hnn hsl k0 k1
    have c1 := c1 (n + 3) S
    generalize eS : S ++ [Cell.lst [.int 0]] = S1
    have hS : ∀ v, S ++ [Cell.lst [.int v]] = pk S1 S.length v := fun v => by rw [pk_new, eS]
    have ha : S.length < S1.length := by rw [← eS]; simp
    obtain ⟨x, v1, hx, v10, c2⟩ := k_deed8 (n := n + 2) (S := S1) (v := v) ha v0 hl hl3 hd hn
    have zz : szOk ((ds.map Deed.enc).length + 1) = true := szOk_in (by rw [List.length_map]; omega)
    have fin : ∀ (y : Deed) (w : Int), okDeed y → runF (call P (n + 5)) [3] l_law_1 g ((k :: ks).map D.int) [some (.d (.scr sc)), some (.d (.lst (ns.map D.str))), some (.own (.lst (ds.map Deed.enc))), o3, o4, o5, o6, o7, o8] S = runF (call P (n + 5)) [3] l_law_1 g (ks.map D.int) [some (.d (.scr sc)), some (.d (.lst (ns.map D.str))), some (.own (.lst ((ds ++ [y]).map Deed.enc))), some (.d (.int k)), o4, o5, some (.d (.ref S.length)), some (.d y.enc), o8] (pk S1 S.length w) → ∃ (es : List Deed) (S' : Sto) (p3 p6 p7 : Option W), (∀ x ∈ es, okDeed x) ∧ es.length = ds.length + (k :: ks).length ∧ runF (call P (n + 5)) [3] l_law_1 g ((k :: ks).map D.int) [some (.d (.scr sc)), some (.d (.lst (ns.map D.str))), some (.own (.lst (ds.map Deed.enc))), o3, o4, o5, o6, o7, o8] S =
      .ok (.nx [some (.d (.scr sc)), some (.d (.lst (ns.map D.str))), some (.own (.lst (es.map Deed.enc))), p3, o4, o5, p6, p7, o8]) S' := fun y w hy e => by
      obtain ⟨es, S', p3, p6, p7, h1, h2, ih⟩ := build_loop (o4 := o4) (o5 := o5) (o8 := o8) hnn hsl hl hl3 hd hn hg ks (pk S1 S.length w) (ds ++ [y]) (some (.d (.int k))) (some (.d (.ref S.length))) (some (.d y.enc)) (fun z hz => hk z (List.mem_cons_of_mem _ hz)) (fun z hz => by
        rcases List.mem_append.mp hz with hz | hz
        · exact h z hz
        · rw [List.mem_singleton.mp hz]; exact hy) (by rw [List.length_append, List.length_cons, List.length_nil]; omega)
      refine ⟨es, S', p3, p6, p7, h1, ?_, ?_⟩
      · rw [h2, List.length_append, List.length_cons, List.length_nil, List.length_cons]; omega
      · rw [e, ih]
    have nz : ∀ S, cmpD .ne (.lst (ds.map Deed.enc)) (.lst []) S = .ok (!ds.isEmpty) S := fun S => by
      rw [o_ne, eqOk_pl (show pl (.lst (ds.map Deed.enc)) = true from oks_deeds (n := 55)) rfl]
      cases ds <;> rfl
    cases qd : ds.isEmpty with
    | true =>
      rw [qd] at nz
      refine fin x v1 hx ?_
      rw [List.map_cons, runF_cons, st_one, List.map_append]
      simp (config := { maxSteps := 4000000 }) (disch := trivial) only [EVR, reduceIte, Bool.false_eq_true, Bool.true_eq_false, if_true, if_false, decide_true, decide_false, allD, isiD, isiOk, String.reduceBEq, Bool.or_true, Bool.true_or, Bool.or_false, Bool.false_or, Bool.and_true, Bool.true_and, Bool.and_false, Bool.false_and, Bool.not_true, Bool.not_false, Int.cast_ofNat_Int, Int.reduceBEq, Int.reduceBNe, Int.reduceEq, Int.reduceLT, Int.reduceLE, Int.reduceAdd, Int.reduceSub, Int.reduceMul, Int.reduceNeg, Int.reduceToNat, beq_self_eq_true, Nat.add_eq, Nat.reduceBEq, Nat.reduceAdd, Nat.reduceLeDiff, Nat.reduceLT, Nat.reduceEqDiff, Nat.reduceSub, Nat.reduceMul, l_law_1, c1, hS, c2, nz, zz, if_pos (hg _)]
    | false =>
      rw [qd] at nz
      have dl : 1 ≤ ds.length := by cases ds with
        | nil => cases qd
        | cons a l => simp
      have s1 := k_take (n := n + 4) (S := S1) (v := v1) (s := 2) ha (by decide) (by decide)
      have v20 : 0 ≤ v1 / 2 := by omega
      cases q : v1 % 2 == 0 with
      | false =>
        refine fin x (v1 / 2) hx ?_
        rw [List.map_cons, runF_cons, st_one, List.map_append]
        simp (config := { maxSteps := 4000000 }) (disch := trivial) only [EVR, reduceIte, Bool.false_eq_true, Bool.true_eq_false, if_true, if_false, decide_true, decide_false, allD, isiD, isiOk, String.reduceBEq, Bool.or_true, Bool.true_or, Bool.or_false, Bool.false_or, Bool.and_true, Bool.true_and, Bool.and_false, Bool.false_and, Bool.not_true, Bool.not_false, Int.cast_ofNat_Int, Int.reduceBEq, Int.reduceBNe, Int.reduceEq, Int.reduceLT, Int.reduceLE, Int.reduceAdd, Int.reduceSub, Int.reduceMul, Int.reduceNeg, Int.reduceToNat, beq_self_eq_true, Nat.add_eq, Nat.reduceBEq, Nat.reduceAdd, Nat.reduceLeDiff, Nat.reduceLT, Nat.reduceEqDiff, Nat.reduceSub, Nat.reduceMul, l_law_1, c1, hS, c2, nz, zz, s1, q, if_pos (hg _)]
      | true =>
        have s2 := k_take (n := n + 4) (S := S1) (v := v1 / 2) (s := (ds.length : Int)) ha (by omega) (by omega)
        obtain ⟨y, hy, ey⟩ := at_mem (xs := ds) (i := v1 / 2 % (ds.length : Int)) (Int.emod_nonneg _ (by omega)) (Int.emod_lt_of_pos _ (by omega))
        have ey' : atI (ds.map Deed.enc) (v1 / 2 % (ds.length : Int)) = some y.enc := by
          have t0 := Int.emod_nonneg (v1 / 2) (b := (ds.length : Int)) (by omega)
          rw [atI_in t0, List.getElem?_map, ← atI_in t0, ey]
          rfl
        have v30 : 0 ≤ v1 / 2 / (ds.length : Int) := Int.ediv_nonneg v20 (by omega)
        obtain ⟨z, v4, hz, v40, c3⟩ := k_put (n := n + 1) (S := S1) (x := y) (v := v1 / 2 / (ds.length : Int)) (h y hy) ha v30 hl hl3 hd hn
        have lm : (((ds.map Deed.enc).length : Nat) : Int) = (ds.length : Int) := by rw [List.length_map]
        refine fin z v4 hz ?_
        rw [List.map_cons, runF_cons, st_one, List.map_append]
        simp (config := { maxSteps := 4000000 }) (disch := trivial) only [EVR, reduceIte, Bool.false_eq_true, Bool.true_eq_false, if_true, if_false, decide_true, decide_false, allD, isiD, isiOk, String.reduceBEq, Bool.or_true, Bool.true_or, Bool.or_false, Bool.false_or, Bool.and_true, Bool.true_and, Bool.and_false, Bool.false_and, Bool.not_true, Bool.not_false, Int.cast_ofNat_Int, Int.reduceBEq, Int.reduceBNe, Int.reduceEq, Int.reduceLT, Int.reduceLE, Int.reduceAdd, Int.reduceSub, Int.reduceMul, Int.reduceNeg, Int.reduceToNat, beq_self_eq_true, Nat.add_eq, Nat.reduceBEq, Nat.reduceAdd, Nat.reduceLeDiff, Nat.reduceLT, Nat.reduceEqDiff, Nat.reduceSub, Nat.reduceMul, l_law_1, c1, hS, c2, nz, zz, s1, q, lm, s2, ey', c3, if_pos (hg _)]
/-- what is picked -/
theorem pick_loop {E0 E1 : Option W} {o5 o6 o7 : Option W} {ds : List Deed} (hdl : ds.length ≤ 1000) : ∀ (suf pre acc : List Deed) (o3 o8 : Option W), ds = pre ++ suf → acc.length + suf.length ≤ 1000 →
    ∃ p3 , runF (call P (n + 4)) [3] l_law_4 (srcG [.d (.int ds.length)] S) ((List.range' pre.length suf.length).map fun (k : Nat) => D.int (0 + (k : Int))) [E0, E1, some (.d (.lst (ds.map Deed.enc))), o3, some (.own (.lst (acc.map Deed.enc))), o5, o6, o7, o8] S =
      .ok (.nx [E0, E1, some (.d (.lst (ds.map Deed.enc))), p3, some (.own (.lst ((greedy acc suf).map Deed.enc))), o5, o6, o7, o8]) S
  | [], pre, acc, o3, o8, e, hl => ⟨o3, rfl⟩
  | x :: suf, pre, acc, o3, o8, e, hl => by
    rw [List.length_cons] at hl
    have hx := deed_at e
    have hcut := cut_pre e
    have lp : pre.length ≤ 1000 := by
      have := congrArg List.length e
      rw [List.length_append, List.length_cons] at this
      omega
    have h2 : runC (call P (n + 4)) [8] [] m_law_3 (srcG [.own (.lst (acc.map Deed.enc))] S) (acc.map Deed.enc) [E0, E1, some (.d (.lst (ds.map Deed.enc))), some (.d (.int (0 + (pre.length : Int)))), some (.own (.lst (acc.map Deed.enc))), o5, o6, o7, o8] S = .ok (acc.map fun y => .bl (quar x y)) S :=
      runC_mapL (srcG_nr rfl) fun y _ => ⟨_, rfl, by
        have q2 := k_lquar (n := n + 2) (S := S) (x := x) (y := y)
        simp (config := { maxSteps := 4000000 }) (disch := trivial) only [EVR, reduceIte, Bool.false_eq_true, Bool.true_eq_false, if_true, if_false, decide_true, decide_false, allD, isiD, isiOk, String.reduceBEq, Bool.or_true, Bool.true_or, Bool.or_false, Bool.false_or, Bool.and_true, Bool.true_and, Bool.and_false, Bool.false_and, Bool.not_true, Bool.not_false, Int.cast_ofNat_Int, Int.reduceBEq, Int.reduceBNe, Int.reduceEq, Int.reduceLT, Int.reduceLE, Int.reduceAdd, Int.reduceSub, Int.reduceMul, Int.reduceNeg, Int.reduceToNat, beq_self_eq_true, Nat.add_eq, Nat.reduceBEq, Nat.reduceAdd, Nat.reduceLeDiff, Nat.reduceLT, Nat.reduceEqDiff, Nat.reduceSub, Nat.reduceMul, m_law_3, hx, q2]⟩
    have h3 : blt1 .any (.lst (acc.map fun y => D.bl (quar x y))) S = .ok (.bl (acc.any fun y => quar x y)) S := by
      rw [l_any, listD_lst, Option.bind_some, toBools_map, Option.map_some, List.any_map]
      rfl
    have g1 := k_together (n := n + 2) (S := S) (ds := pre) (by omega)
    have g2 := k_ltog (n := n + 1) (S := S) (ds := pre) (by omega)
    have g3 := k_lawis (n := n + 3) (S := S) (a := tog pre) (b := tog pre)
    rw [beq_self_eq_true] at g3
    have z : szOk ((acc.map Deed.enc).length + 1) = true := szOk_in (by rw [List.length_map]; omega)
    have l1 : (pre ++ [x]).length = pre.length + 1 := by simp
    rw [show List.range' pre.length (x :: suf).length = pre.length :: List.range' (pre.length + 1) suf.length from rfl, List.map_cons, runF_cons, st_one, greedy, ← l1]
    cases q : acc.any fun y => quar x y with
    | true =>
      rw [q] at h3
      obtain ⟨p3, ih⟩ := pick_loop (E0 := E0) (E1 := E1) (o5 := o5) (o6 := o6) (o7 := o7) hdl suf (pre ++ [x]) acc (some (.d (.int (0 + (pre.length : Int))))) o8 (by rw [e]; simp) (by omega)
      refine ⟨p3, ?_⟩
      rw [if_pos rfl, ← ih]
      simp (config := { maxSteps := 4000000 }) (disch := trivial) only [EVR, reduceIte, Bool.false_eq_true, Bool.true_eq_false, if_true, if_false, decide_true, decide_false, allD, isiD, isiOk, String.reduceBEq, Bool.or_true, Bool.true_or, Bool.or_false, Bool.false_or, Bool.and_true, Bool.true_and, Bool.and_false, Bool.false_and, Bool.not_true, Bool.not_false, Int.cast_ofNat_Int, Int.reduceBEq, Int.reduceBNe, Int.reduceEq, Int.reduceLT, Int.reduceLE, Int.reduceAdd, Int.reduceSub, Int.reduceMul, Int.reduceNeg, Int.reduceToNat, beq_self_eq_true, Nat.add_eq, Nat.reduceBEq, Nat.reduceAdd, Nat.reduceLeDiff, Nat.reduceLT, Nat.reduceEqDiff, Nat.reduceSub, Nat.reduceMul, l_law_4, hcut, g1, g2, g3, h2, h3, sg_i]
    | false =>
      rw [q] at h3
      obtain ⟨p3, ih⟩ := pick_loop (E0 := E0) (E1 := E1) (o5 := o5) (o6 := o6) (o7 := o7) hdl suf (pre ++ [x]) (acc ++ [x]) (some (.d (.int (0 + (pre.length : Int))))) o8 (by rw [e]; simp) (by rw [List.length_append, List.length_cons, List.length_nil]; omega)
      refine ⟨p3, ?_⟩
      rw [if_neg (by decide), ← ih, List.map_append]
      simp (config := { maxSteps := 4000000 }) (disch := trivial) only [EVR, reduceIte, Bool.false_eq_true, Bool.true_eq_false, if_true, if_false, decide_true, decide_false, allD, isiD, isiOk, String.reduceBEq, Bool.or_true, Bool.true_or, Bool.or_false, Bool.false_or, Bool.and_true, Bool.true_and, Bool.and_false, Bool.false_and, Bool.not_true, Bool.not_false, Int.cast_ofNat_Int, Int.reduceBEq, Int.reduceBNe, Int.reduceEq, Int.reduceLT, Int.reduceLE, Int.reduceAdd, Int.reduceSub, Int.reduceMul, Int.reduceNeg, Int.reduceToNat, beq_self_eq_true, Nat.add_eq, Nat.reduceBEq, Nat.reduceAdd, Nat.reduceLeDiff, Nat.reduceLT, Nat.reduceEqDiff, Nat.reduceSub, Nat.reduceMul, l_law_4, hcut, hx, g1, g2, g3, h2, h3, z, sg_i]
theorem left_loop {E0 E1 E2 : Option W} {o5 o6 o7 o8 : Option W} {ds : List Deed} (hdl : ds.length ≤ 1000) (ht : tog ds = true) : ∀ (suf pre : List Deed) (o3 : Option W), ds = pre ++ suf →
    ∃ p3 , runF (call P (n + 3)) [3] l_law_6 (srcG [.d (.int ds.length)] S) ((List.range' pre.length suf.length).map fun (k : Nat) => D.int (0 + (k : Int))) [E0, E1, E2, o3, some (.own (.lst (ds.map Deed.enc))), o5, o6, o7, o8] S =
      .ok (.nx [E0, E1, E2, p3, some (.own (.lst (ds.map Deed.enc))), o5, o6, o7, o8]) S
  | [], pre, o3, e => ⟨o3, rfl⟩
  | x :: suf, pre, o3, e => by
    have hcut := cut_pre e
    have le : ds.length = pre.length + (suf.length + 1) := by rw [e]; simp
    have c2 : cutL (ds.map Deed.enc) (some (0 + (pre.length : Int) + 1)) none = suf.map Deed.enc := by
      rw [cutL_lo (by omega), e, List.map_append, List.map_cons, (show (0 + (pre.length : Int) + 1).toNat = (pre.map Deed.enc ++ [x.enc]).length by simp), List.append_cons (pre.map Deed.enc) x.enc (suf.map Deed.enc), List.drop_left]
    have c3 : cutL (ds.map Deed.enc) (some (0 + (pre.length : Int))) (some (0 + (pre.length : Int) + 1)) = [x.enc] := by
      have lm : (ds.map Deed.enc).length = pre.length + (suf.length + 1) := by rw [List.length_map, le]
      rw [cutL_both (by omega) (by omega), lm, show min (0 + (pre.length : Int)).toNat (pre.length + (suf.length + 1)) = pre.length by omega, show min (0 + (pre.length : Int) + 1).toNat (pre.length + (suf.length + 1)) - pre.length = 1 by omega, e, List.map_append]
      have : pre.length = (pre.map Deed.enc).length := by simp
      rw [this, List.drop_left]
      rfl
    have g1 := k_together (n := n + 1) (S := S) (ds := pre ++ suf) (by rw [List.length_append]; omega)
    have g2 := k_together (n := n + 1) (S := S) (ds := ds ++ [x]) (by rw [List.length_append, List.length_cons, List.length_nil]; omega)
    rw [tog_sub (ds := pre ++ suf) (es := ds) (by rw [e]; exact (List.Sublist.refl pre).append (List.sublist_cons_self x suf)) ht, List.map_append] at g1
    rw [tog_twice (by rw [e]; simp), List.map_append] at g2
    simp only [List.map_cons, List.map_nil] at g2
    obtain ⟨p3, ih⟩ := left_loop (E0 := E0) (E1 := E1) (E2 := E2) (o5 := o5) (o6 := o6) (o7 := o7) (o8 := o8) hdl ht suf (pre ++ [x]) (some (.d (.int (0 + (pre.length : Int))))) (by rw [e]; simp)
    have z1 : szOk ((pre.map Deed.enc).length + (suf.map Deed.enc).length) = true := szOk_in (by rw [List.length_map, List.length_map]; omega)
    have z2 : szOk ((ds.map Deed.enc).length + (0 + 1)) = true := szOk_in (by rw [List.length_map]; omega)
    have l1 : (pre ++ [x]).length = pre.length + 1 := by simp
    refine ⟨p3, ?_⟩
    rw [show List.range' pre.length (x :: suf).length = pre.length :: List.range' (pre.length + 1) suf.length from rfl, List.map_cons, runF_cons, st_one, ← l1, ← ih]
    simp (config := { maxSteps := 4000000 }) (disch := trivial) only [EVR, reduceIte, Bool.false_eq_true, Bool.true_eq_false, if_true, if_false, decide_true, decide_false, allD, isiD, isiOk, String.reduceBEq, Bool.or_true, Bool.true_or, Bool.or_false, Bool.false_or, Bool.and_true, Bool.true_and, Bool.and_false, Bool.false_and, Bool.not_true, Bool.not_false, Int.cast_ofNat_Int, Int.reduceBEq, Int.reduceBNe, Int.reduceEq, Int.reduceLT, Int.reduceLE, Int.reduceAdd, Int.reduceSub, Int.reduceMul, Int.reduceNeg, Int.reduceToNat, beq_self_eq_true, Nat.add_eq, Nat.reduceBEq, Nat.reduceAdd, Nat.reduceLeDiff, Nat.reduceLT, Nat.reduceEqDiff, Nat.reduceSub, Nat.reduceMul, l_law_6, hcut, c2, c3, z1, z2, g1, g2, k_lawis, sg_i]
theorem pure_law (ns : List Int) (hl : ns.length ≤ 63) (hn : ∀ z ∈ ns, z.natAbs < 2 ^ 1048576) : ∃ S, call (progT tab) 60 F_law [.scr ns] [] = .ok (.d (.bl true)) S := by
  obtain ⟨v, v0, c1⟩ := k_pack (k := 0) hn hl (by decide) (by decide)
  have c1 := c1 57 []
  have hS : ∀ v, [] ++ [Cell.lst [.int v]] = pk ([Cell.lst [.int 0]]) 0 v := fun v => rfl
  obtain ⟨nms, v1, l2, l3, hd, hnm, v10, c2⟩ := k_names8 (n := 57) (S := [Cell.lst [.int 0]]) (a := 0) (v := v) (by decide) v0
  obtain ⟨K, eK, K1, K2⟩ : ∃ K : Int, (if 5 < (if 17 < (ns.length : Int) then 17 else (ns.length : Int)) then (if 17 < (ns.length : Int) then 17 else (ns.length : Int)) else 5) = K ∧ 5 ≤ K ∧ K ≤ 17 := ⟨_, rfl, by split <;> omega, by split <;> (split <;> omega)⟩
  have rg : rngOk 1 K = true := rngOk_in (by omega) (by omega) (by omega) (by omega) (by omega)
  have er : rngD 1 K = ((List.range (K - 1).toNat).map fun (i : Nat) => 1 + (i : Int)).map D.int := by unfold rngD; rw [List.map_map]; rfl
  obtain ⟨ds, S', p3, p6, p7, hok, hdl, F1⟩ := build_loop (n := 54) (sc := ns) (ns := nms) (o4 := none) (o5 := none) (o8 := none) hn hl l2 l3 hd hnm (g := srcG [.d (.int 1), .d (.int K)] (pk [Cell.lst [.int 0]] 0 v1)) (fun S => srcG_nr rfl) ((List.range (K - 1).toNat).map fun (i : Nat) => 1 + (i : Int)) (pk [Cell.lst [.int 0]] 0 v1) [] none none none (fun k hk => by
    obtain ⟨i, hi, rfl⟩ := List.mem_map.mp hk
    have := List.mem_range.mp hi
    omega) (fun x hx => by cases hx) (by simp; omega)
  rw [← er] at F1
  have dl : 4 ≤ ds.length ∧ ds.length ≤ 16 := by
    rw [hdl]; simp; omega
  rw [List.map_nil] at F1
  have A1 : runC (call P 59) [7] [] m_law_2 (srcG [.d (.lst (ds.map Deed.enc))] S') (ds.map Deed.enc) [some (.d (.scr ns)), some (.d (.lst (nms.map D.str))), some (.d (.lst (ds.map Deed.enc))), p3, none, none, p6, p7, none] S' = .ok ((ds.map Deed.enc).map fun _ => .bl true) S' :=
    runC_true (srcG_nr rfl) fun z hz => ⟨_, rfl, by
      obtain ⟨y, hy, rfl⟩ := List.mem_map.mp hz
      have q1 := k_is_deed (n := 54) (S := S') (x := y.enc) Deed.cl
      rw [(hok y hy).ok] at q1
      simp (config := { maxSteps := 4000000 }) (disch := trivial) only [EVR, reduceIte, Bool.false_eq_true, Bool.true_eq_false, if_true, if_false, decide_true, decide_false, allD, isiD, isiOk, String.reduceBEq, Bool.or_true, Bool.true_or, Bool.or_false, Bool.false_or, Bool.and_true, Bool.true_and, Bool.and_false, Bool.false_and, Bool.not_true, Bool.not_false, Int.cast_ofNat_Int, Int.reduceBEq, Int.reduceBNe, Int.reduceEq, Int.reduceLT, Int.reduceLE, Int.reduceAdd, Int.reduceSub, Int.reduceMul, Int.reduceNeg, Int.reduceToNat, beq_self_eq_true, Nat.add_eq, Nat.reduceBEq, Nat.reduceAdd, Nat.reduceLeDiff, Nat.reduceLT, Nat.reduceEqDiff, Nat.reduceSub, Nat.reduceMul, m_law_2, q1, k_lawis]⟩
  have A2 := k_pright (n := 55) (S := S') (ds := ds)
  have rngE : ∀ ds : List Deed, ((List.range' ([] : List Deed).length ds.length).map fun (k : Nat) => D.int (0 + (k : Int))) = rngD 0 (ds.length : Int) := fun ds => by
    unfold rngD
    have : ((ds.length : Int) - 0).toNat = ds.length := by omega
    rw [this, List.range_eq_range']
    rfl
  obtain ⟨q3, F2⟩ := pick_loop (n := 55) (S := S') (E0 := some (.d (.scr ns))) (E1 := some (.d (.lst (nms.map D.str)))) (o5 := none) (o6 := p6) (o7 := p7) (ds := ds) (by omega) ds [] [] p3 none rfl (by simp; omega)
  rw [rngE, List.map_nil] at F2
  have rk : rngOk 0 (ds.length : Int) = true := rngOk_in (by omega) (by omega) (by omega) (by omega) (by omega)
  have lm : (((ds.map Deed.enc).length : Nat) : Int) = (ds.length : Int) := by rw [List.length_map]
  have pt := greedy_tog ds [] rfl
  have pl := greedy_le ds []
  rw [List.length_nil] at pl
  generalize greedy [] ds = pd at F2 pt pl
  have g1 := k_together (n := 57) (S := S') (ds := ds.reverse) (by rw [List.length_reverse]; omega)
  have g2 := k_together (n := 57) (S := S') (ds := ds.drop 1 ++ ds.take 1) (by rw [List.length_append, List.length_drop, List.length_take]; omega)
  have g3 := k_together (n := 57) (S := S') (ds := ds) (by omega)
  rw [tog_rev, List.map_reverse] at g1
  rw [tog_perm (List.perm_append_comm.trans (by rw [List.take_append_drop])), List.map_append, List.map_drop, List.map_take] at g2
  have g4 := k_ltog (n := 56) (S := S') (ds := ds) (by omega)
  have g5 := k_lawis (n := 58) (S := S') (a := tog ds) (b := tog ds)
  rw [beq_self_eq_true] at g5
  have cu1 : cutL (ds.map Deed.enc) (some 1) none = (ds.map Deed.enc).drop 1 := cutL_lo (by decide)
  have cu2 : cutL (ds.map Deed.enc) none (some 1) = (ds.map Deed.enc).take 1 := cutL_hi (by decide)
  have z1 : szOk (((ds.map Deed.enc).drop 1).length + ((ds.map Deed.enc).take 1).length) = true := szOk_in (by rw [List.length_drop, List.length_take, List.length_map]; omega)
  have lp : (((pd.map Deed.enc).length : Nat) : Int) = (pd.length : Int) := by rw [List.length_map]
  have rp : rngOk 0 (pd.length : Int) = true := rngOk_in (by omega) (by omega) (by omega) (by omega) (by omega)
  obtain ⟨q3', F3⟩ := left_loop (n := 56) (S := S') (E0 := some (.d (.scr ns))) (E1 := some (.d (.lst (nms.map D.str)))) (E2 := some (.d (.lst (ds.map Deed.enc)))) (o5 := some (.d (.lst (ds.map Deed.enc)))) (o6 := p6) (o7 := p7) (o8 := none) (ds := pd) (by omega) pt pd [] q3 rfl
  rw [rngE] at F3
  have h1 := k_together (n := 57) (S := S') (ds := pd) (by omega)
  have h2 := k_together (n := 57) (S := S') (ds := pd.reverse) (by rw [List.length_reverse]; omega)
  rw [pt] at h1
  rw [tog_rev, pt, List.map_reverse] at h2
  refine ⟨S', ?_⟩
  rw [run_law (n := 59)]
  simp (config := { maxSteps := 4000000 }) (disch := trivial) only [EVR, reduceIte, Bool.false_eq_true, Bool.true_eq_false, if_true, if_false, decide_true, decide_false, allD, isiD, isiOk, String.reduceBEq, Bool.or_true, Bool.true_or, Bool.or_false, Bool.false_or, Bool.and_true, Bool.true_and, Bool.and_false, Bool.false_and, Bool.not_true, Bool.not_false, Int.cast_ofNat_Int, Int.reduceBEq, Int.reduceBNe, Int.reduceEq, Int.reduceLT, Int.reduceLE, Int.reduceAdd, Int.reduceSub, Int.reduceMul, Int.reduceNeg, Int.reduceToNat, beq_self_eq_true, Nat.add_eq, Nat.reduceBEq, Nat.reduceAdd, Nat.reduceLeDiff, Nat.reduceLT, Nat.reduceEqDiff, Nat.reduceSub, Nat.reduceMul, b_law, c1, hS, c2, eK, rg, src_rng2 rg, F1, A1, all_tt, A2, lm, rk, src_rng1 rk, F2, l_law_5, runF_cons, runF_nil, runC_cons, runC_nil, Option.toList_some, List.cons_append, List.nil_append, sg_l, sg_t, sg_s, sg_d, sg_i, sg_ii, sg_ll, sg_tt, sg_o, cu1, cu2, z1, g1, g2, g3, g4, g5, lp, rp, src_rng1 rp, F3, h1, h2, k_lawis]
end Ev
set_option maxHeartbeats 0
namespace HT
open PySem PySem.Spec PyProof.Rows L2 Ev
def top (i : Nat) : Stmt := PySem.Challenge.pw_goneday_k08_whole_deeds_that_go_together.main.body.getD i (.Pass ⟨0, 0, 0, 0⟩)
def ents : List Ent := [⟨"is_whole", b_is_whole, ["thing"], top 2⟩, ⟨"is_day", b_is_day, ["thing"], top 3⟩, ⟨"is_name", b_is_name, ["thing", "sign"], top 12⟩, ⟨"is_since", b_is_since, ["thing"], top 13⟩, ⟨"is_span_told", b_is_span_told, ["many", "unit"], top 14⟩, ⟨"is_rule", b_is_rule, ["thing"], top 15⟩, ⟨"are_makers", b_are_makers, ["thing", "k", "one"], top 16⟩, ⟨"is_aim", b_is_aim, ["thing"], top 17⟩, ⟨"fits_form", b_fits_form, ["thing", "letter"], top 18⟩, ⟨"is_deed", b_is_deed, ["thing", "form", "part", "letter"], top 19⟩, ⟨"quarrel", b_quarrel, ["one", "other", "words"], top 20⟩, ⟨"go_together", b_go_together, ["deeds", "number", "ahead"], top 21⟩, ⟨"_law_mixed", b__law_mixed, ["_law_cell"], top 23⟩, ⟨"_law_pack", b__law_pack, ["_law_script", "_law_k"], top 24⟩, ⟨"_law_take", b__law_take, ["_law_pack_here", "_law_size", "_law_digit"], top 25⟩, ⟨"_law_names", b__law_names, ["_law_pack_here", "_law_letters", "_law_at", "_law_turn", "_law_size", "_law_k"], top 26⟩, ⟨"_law_parts", b__law_parts, ["_law_pack_here", "_law_names_here", "_law_one", "_law_word", "_law_since"], top 27⟩, ⟨"_law_deed", b__law_deed, ["_law_pack_here", "_law_names_here", "_law_day", "_law_way", "_law_name", "_law_other"], top 28⟩, ⟨"_law_put", b__law_put, ["_law_deed_here", "_law_pack_here", "_law_names_here", "_law_fresh", "_law_way"], top 29⟩, ⟨"_law_once", b__law_once, ["_law_deed_here", "_law_found"], top 30⟩, ⟨"_law_quarrel", b__law_quarrel, ["_law_one", "_law_other", "_law_thing"], top 31⟩, ⟨"_law_is", b__law_is, ["_law_found", "_law_due"], top 32⟩, ⟨"_law_pairs_right", b__law_pairs_right, ["_law_deeds", "_law_one", "_law_other", "_law_due"], top 33⟩, ⟨"_law_together", b__law_together, ["_law_deeds", "_law_k", "_law_ahead"], top 34⟩, ⟨"law", b_law, ["_law_script", "_law_names_here", "_law_deeds", "_law_k", "_law_picked", "_law_some", "_law_pack_here", "_law_deed_here", "_law_ahead"], top 35⟩]
def cs : List (String × D) := [("LAST_DAY", c_LAST_DAY), ("LETTERS", c_LETTERS), ("UNITS", c_UNITS), ("MOST_LETTERS", c_MOST_LETTERS), ("MOST_MANY", c_MOST_MANY), ("MOST_MAKERS", c_MOST_MAKERS), ("FORMS", c_FORMS), ("TURNED", c_TURNED)]
abbrev R : PySem.W.OpenRow := PySem.W.OpenLaw.row PySem.Challenge.rw_goneday_k08_whole_deeds_that_go_together
abbrev hk : PySem.W.Hook := He.hookX 5 (faT ents) (fnT ents) (tabT cs) [] (exT cs)
def ob (s : PySem.W.SharedT) : He.AlX := He.obsX 5 (faT ents) (fnT ents) (tabT cs) [] (exT cs) (HandSHeadRun.getT s)
theorem ob_eq (s : PySem.W.SharedT) : ob s = hk.obs s.abs := He.obsX_eq (HandSHeadRun.getT_eq s)
def nm : List PySem.Str := (["__name__", "LAST_DAY", "is_whole", "is_day", "LETTERS", "UNITS", "MOST_LETTERS", "MOST_MANY", "MOST_MAKERS", "FORMS", "TURNED", "is_name", "is_since", "is_span_told", "is_rule", "are_makers", "is_aim", "fits_form", "is_deed", "quarrel"] : List PySem.Str) ++ (["go_together", "_law_mixed", "_law_pack", "_law_take", "_law_names", "_law_parts", "_law_deed", "_law_put", "_law_once", "_law_quarrel", "_law_is", "_law_pairs_right", "_law_together"] : List PySem.Str)
theorem run1 (w : World) : HandSHeadRun.RunEq R (PySem.W.view R.prog [35]) hk ob 40000 nm (w.withFollow "special-get-raises" false) := by
  intro os
  kernel_rfl
theorem run2 (w : World) : HandSHeadRun.RunEq R (PySem.W.view R.prog [35]) hk ob 40000 nm (w.withFollow "special-get-raises" true) := by
  intro os
  kernel_rfl
theorem run (w : World) : HandSHeadRun.RunEq R (PySem.W.view R.prog [35]) hk ob 40000 nm w := PySem.W.byRow2 "special-get-raises" (P := fun w => HandSHeadRun.RunEq R (PySem.W.view R.prog [35]) hk ob 40000 nm w) run1 run2 w
theorem progOf_tab {T : List Ent} {tab : List Fd} (h : T.map (·.fd) = tab) : progOf T = progT tab := by
  funext j
  unfold progOf progT
  rw [← h, List.getElem?_map]
  cases T[j]? <;> rfl
def lawE : Ent := ⟨"law", b_law, ["_law_script", "_law_names_here", "_law_deeds", "_law_k", "_law_picked", "_law_some", "_law_pack_here", "_law_deed_here", "_law_ahead"], top 35⟩
theorem chk : chkTab ents cs = true := by kernel_rfl
theorem prog_eq : progOf ents = progT tab := by
  have e : ents.map (·.fd) = tab := by rfl
  exact progOf_tab e
end HT
open PySem PySem.W PySem.Calls PyProof.Rows
theorem PySem.Challenge.cw_goneday_k08_whole_deeds_that_go_together_holds : PySem.Challenge.rw_goneday_k08_whole_deeds_that_go_together.Holds := by
  w_on; o_law
  refine HandSHeadRun.head_any (r := OpenLaw.row PySem.Challenge.rw_goneday_k08_whole_deeds_that_go_together) (q := view (OpenLaw.row PySem.Challenge.rw_goneday_k08_whole_deeds_that_go_together).prog [35]) (H := HT.hk) (ob := HT.ob) (M := 40000) (loose := HT.nm) (d := HandSHeadRun.topDef (OpenLaw.row PySem.Challenge.rw_goneday_k08_whole_deeds_that_go_together).prog 35) (kwd := []) HT.ob_eq
    (by kernel_rfl) (fun s => by kernel_rfl) HT.run (by kernel_rfl) (by kernel_rfl) (by kernel_rfl) (by rfl) (by first | assumption | decide +kernel) (by decide +kernel) ⟨rfl, rfl, rfl, rfl, rfl, by decide +kernel⟩ ?hw ?hc
  case hw => w_witness2
  case hc =>
    refine Ev.walk_ofEB (l := PySem.Challenge.rw_goneday_k08_whole_deeds_that_go_together) (n := 63) (k := 60) (x := "_law_script") (CX := fun w => L2.CX (PySem.Challenge.rw_goneday_k08_whole_deeds_that_go_together).prog w) rfl (by decide) (by kernel_rfl) ⟨rfl, by decide, by decide⟩ ?F (fun _ _ _ _ _ z => Ev.cx_none z)
    intro w mg fa h Y G hmg0
    obtain ⟨K, KX, c⟩ := Y
    have hmg : mg (PySem.Str.ofString "law") = some (.ref fa) := by
      have e : (HandSHeadRun.topDef (OpenLaw.row PySem.Challenge.rw_goneday_k08_whole_deeds_that_go_together).prog 35).name = (PySem.Str.ofString "law") := by kernel_rfl
      rw [← e]
      exact hmg0
    obtain ⟨fd, hb, hF⟩ := Ev.law_fn (P := (PySem.Challenge.rw_goneday_k08_whole_deeds_that_go_together).prog) (w := w) (j := Ev.F_law) (n := 60) (e := HT.lawE) (x := "_law_script") HT.chk rfl (by kernel_rfl) KX G c hmg
    refine ⟨K, fd, _, KX, hb, fun H a ns hl hbits hO hS => ?_, hF⟩
    obtain ⟨S, e⟩ := Ev.pure_law ns hl fun z hz => Ev.bits_lt (hbits z hz)
    refine ⟨[], [.scr ns], [], ⟨Ev.only_scr rfl hO hS, True.intro⟩, ⟨rfl, List.nodup_nil, fun i a c h => by simp at h⟩, ?_⟩
    rw [HT.prog_eq, e]
    exact fun as' H' v st hv hS' => hv
