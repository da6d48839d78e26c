import PyProof.Rows.All
import Wide.All
import OpenK.AllK
import Wide.FinOn
import KE.KStateDown
import HandS.Head0
import HandS.Head1
import HandS.Head2
import Wide.Once
import KE.SortKeyHeap
import KE.SortData
import HandS.ForMost
import HandS.HeadHook1
import HandS.HeadHook2
import HandS.HeadHook3
import HandS.HeadHook4
import HandS.ForExc
import HandS.ExcField
import HandS.IsInst
import HandS.ExcIs
import HandS.Wide
import HandS.More
import HandS.TupMul
import HandS.TupAny
import HandS.Text
import PyProof.StrOps2
import KE.LtData
import HandS.DictComp
import HandS.Flow
import HandS.Iter
import HandS.Comp
import HandS.WordsExc
import KE.GoesZip
import KE.GoesMore
import HandS.Zip
import HandS.Small
import HandS.NoneIn
import HandS.Strs
import HandS.Style
import PyProof.ExcBaseAll.ValueError
import PyProof.SeqIndex
import HandS.SortOrd
import HandS.Dict
import KE.DataMinMax
import HandS.Conv
import HandS.SortKw
import HandS.SetFor
import HandS.SetTxt0
import HandS.Defaults
import HandS.EndBits
import HandS.HeadEnd
import PyProof.StrLawsIn
import PySem.Challenge.RW_goneday_k01_days_and_dates
set_option Elab.async false
set_option linter.all false
set_option maxRecDepth 100000
set_option maxHeartbeats 4000000
/-! Ev, part 1: values as trees, a store of shared mutable cells, a small language, and what its programs compute (a function). -/
namespace Ev
open PySem

abbrev Nm := List Nat
/-- a key of a dict: an int or a text -/
abbrev Ky := Sum Int Nm

/-- a value that never changes, or a number of a cell -/
inductive D where
  | non | bl (b : Bool) | int (i : Int) | str (x : Nm) | ref (a : Nat) | fn (k : Nat)
  | scr (ns : List Int) | tup (xs : List D) | lst (xs : List D) | dic (kvs : List (Ky × D)) | kdic (kvs : List (Nm × D)) | obj (c : String) (fs : List (String × D)) | exc (c : String) (fs : List (String × D))
  deriving Inhabited

/-- what may change -/
inductive Cell where
  | lst (xs : List D) | dct (kvs : List (Ky × D)) | obj (g : Option Nat) (c : String) (fs : List (String × D))
def Cell.vw : Cell → D
  | .lst xs => .lst xs
  | .dct kvs => .dic kvs
  | .obj _ c fs => .obj c fs
/-- what a name holds: a value, or a thing of its own that may change and that nobody else sees -/
inductive W where
  | d (x : D) | own (c : Cell)
abbrev Sto := List Cell
abbrev Env := List (Option W)
def Env.get : Env → Nat → Option W
  | [], _ => none
  | x :: _, 0 => x
  | _ :: r, n + 1 => Env.get r n
def Env.put : Env → Nat → W → Env
  | [], _, _ => []
  | _ :: r, 0, d => some d :: r
  | x :: r, n + 1, d => x :: Env.put r n d
def Env.del : Env → Nat → Env
  | [], _ => []
  | _ :: r, 0 => none :: r
  | x :: r, n + 1 => x :: Env.del r n
def Env.dels (ρ : Env) : List Nat → Env
  | [] => ρ
  | i :: is => Env.dels (ρ.del i) is

/-- what comes out: a value, an exception, or nothing that is promised -/
inductive R (α : Type) where
  | ok (a : α) (S : Sto) | exc (e : D) (S : Sto) | bad
def R.bind {α β : Type} : R α → (α → Sto → R β) → R β
  | .ok a S, f => f a S
  | .exc e S, _ => .exc e S
  | .bad, _ => .bad
/-- .. none -/
def R.noexc {α : Type} : R α → R α
  | .exc _ _ => .bad
  | r => r
/-- a value that must be there -/
def R.of {α : Type} (S : Sto) : Option α → R α
  | some a => .ok a S
  | none => .bad
/-- behind a statement -/
inductive Fl where
  | nx (ρ : Env) | rt (w : W) | bk (ρ : Env) | ct (ρ : Env) | ex (e : D) (ρ : Env)
/-- an expression's exception is the statement's -/
def R.lift {α : Type} (ρ : Env) (r : R α) (f : α → Sto → R Fl) : R Fl := match r with
  | .ok a S => f a S
  | .exc e S => .ok (.ex e ρ) S
  | .bad => .bad
/-- behind a statement that went on -/
def R.nx (r : R Fl) (f : Env → Sto → R Fl) : R Fl := match r with
  | .ok (.nx ρ) S => f ρ S
  | r => r

abbrev Fn := Nat → List D → Sto → R W

/-- a cell's number is seen as what the cell holds -/
def vw (S : Sto) : D → D
  | .ref a => match S[a]? with
    | some c => c.vw
    | none => .ref a
  | d => d
def W.vw (S : Sto) : W → D
  | .d x => Ev.vw S x
  | .own c => c.vw

inductive Bop where
  | add | sub | mul | fdv | mod | pow | shr | band
inductive Cop where
  | eq | ne | lt | le | gt | ge | is | isn | inn | nin | ned
inductive Blt where
  | len | sum | min | max | minO | any | all | int | str | abs | divmod | tup
inductive Mth where
  | get | index | count | upper | strip | partition
/-- changes of a list, a dict -/
inductive Mu where
  | append | extend | insert | pop | set | setdefault
inductive Sk where
  | seq | range | zip | enum

mutual
inductive Ex where
  | var (i : Nat)
  | cst (d : D)
  | glo (x : String) (d : D)
  | bin (o : Bop) (a b : Ex)
  | neg (a : Ex)
  | cmp (o : Cop) (a b : Ex)
  | chn (o o' : Cop) (a b c : Ex)
  | bop (isAnd : Bool) (es : List Ex)
  | not (a : Ex)
  | ife (c a b : Ex)
  | tup (es : List Ex)
  | idx (a i : Ex)
  | slc (a : Ex) (lo hi : List Ex)
  | rev (a : Ex)
  | call (f : Nat) (es : List Ex)
  | app (f : Ex) (es : List Ex)
  | blt (b : Blt) (es : List Ex)
  | mth (m : Mth) (o : Ex) (es : List Ex)
  | join (o a : Ex)
  | mut (m : Mu) (o : Ex) (es : List Ex)
  | isi (a : Ex) (cs : List String)
  | att (a : Ex) (f : String) (cs : List String)
  | meth (c m : String) (f : Nat) (o : Ex) (es : List Ex)
  | frz (n : Nw)
  | cel (n : Nw)
/-- what makes a new thing -/
inductive Nw where
  | lst (es : List Ex)
  | dic (es : List Ex)
  | comp (tg : List Nat) (k : Sk) (src : List Ex) (cond : List Ex) (elt : Ex)
  | cat (a b : Ex)
  | rep (a b : Ex)
  | slc (a : Ex) (lo hi : List Ex)
  | rev (a : Ex)
  | list (a : Ex)
  | range (es : List Ex)
  | sorted (a : Ex)
  | sortBy (f : Nat) (a : Ex)
  | sortSet (a : Ex)
  | dict (a : Ex)
  | split (o : Ex) (a : Ex)
  | make (c : String) (f : Nat) (es : List Ex)
  | call (f : Nat) (es : List Ex)
end
inductive Tg where
  | nm (i : Nat) | sub (o i : Ex) | osub (j : Nat) (i : Ex) | att (o : Ex) (f : String) (cs : List String) | oatt (j : Nat) (f : String) (cs : List String)
inductive St where
  | asg (t : Tg) (e : Ex)
  | unp (ts : List Tg) (e : Ex)
  | par (is : List Nat) (es : List Ex)
  | own (i : Nat) (n : Nw)
  | omut (i : Nat) (m : Mu) (es : List Ex)
  | opop (i : Nat) (e : Ex)
  | fz (i : Nat)
  | kill (is : List Nat)
  | exp (e : Ex)
  | ret (e : Ex)
  | retN
  | retO (i : Nat)
  | retF (i : Nat)
  | retW (n : Nw)
  | ifS (c : Ex) (a b : List St)
  | whl (c : Ex) (a : List St)
  | forS (tg : List Nat) (k : Sk) (src : List Ex) (a : List St)
  | pass | brk | cnt
  /-- never reached -/
  | nev
  | rais (c : String) (fs : List String) (es : List Ex)
  | tryS (a : List St) (c : String) (n : List Nat) (b : List St)
  | retK (o x : Ex) (l : Nat)
  /-- a list told of one's own dict's keys -/
  | ownD (i j : Nat) (tg : List Nat) (cond : List Ex) (elt : Ex)
structure Fd where
  ps : Nat
  nn : Nat
  body : List St
  /-- a class's __init__ -/
  ini : Option String := none

/-! ### operations -/
mutual
def eqv : D → D → Bool
  | .non, .non => true
  | .bl a, .bl b => a == b
  | .bl a, .int b => (if a then 1 else 0) == b
  | .int a, .bl b => a == (if b then 1 else 0)
  | .int a, .int b => a == b
  | .str a, .str b => a == b
  | .tup xs, .tup ys => eqvs xs ys
  | .lst xs, .lst ys => eqvs xs ys
  | _, _ => false
def eqvs : List D → List D → Bool
  | [], [] => true
  | x :: xs, y :: ys => eqv x y && eqvs xs ys
  | _, _ => false
end
/-! what == may compare: no cell, no dict, no object, no deeper than n -/
mutual
def okD : D → Nat → Bool
  | .non, _ => true
  | .bl _, _ => true
  | .int _, _ => true
  | .str _, _ => true
  | .tup xs, n => decide (0 < n) && okDs xs (n - 1)
  | .lst xs, n => decide (0 < n) && okDs xs (n - 1)
  | _, _ => false
def okDs : List D → Nat → Bool
  | [], _ => true
  | x :: xs, n => okD x n && okDs xs n
end
/-- data -/
def pl (d : D) : Bool := okD d 60
def pls (ds : List D) : Bool := okDs ds 60
mutual
def ltD : D → D → Option Bool
  | .int a, .int b => some (decide (a < b))
  | .str a, .str b => some (decide (a < b))
  | .tup xs, .tup ys => ltDs xs ys
  | _, _ => none
def ltDs : List D → List D → Option Bool
  | [], [] => some false
  | [], _ :: _ => some true
  | _ :: _, [] => some false
  | x :: xs, y :: ys => if eqv x y then ltDs xs ys else ltD x y
end
/-- all sizes that are promised -/
def szOk (n : Nat) : Bool := decide (n ≤ 16777216)
def mulOk (i j : Int) : Bool := decide (i.natAbs.log2 < 30000000) && decide (j.natAbs.log2 < 30000000)
def fdvOk (j : Int) : Bool := decide (0 < j) && decide (j < 1073741824)
def powOk (i j : Int) : Bool := decide (0 ≤ j) && decide (j ≤ 1000000) && decide (i.natAbs < 2 ^ 64)
def repOk (n : Nat) (j : Int) : Bool := szOk (n * j.toNat) && decide (-1000000 < j) && decide (j < 1000000)
def digs (i : Int) : Nm := (toString i).toList.map Char.toNat
def strOk (i : Int) : Bool := decide (i.natAbs < 2 ^ 1900) && szOk (digs i).length

def R.chk {α : Type} (b : Bool) (r : R α) : R α := if b = true then r else .bad

def binD (o : Bop) (x y : D) (S : Sto) : R D := match o, x, y with
  | .add, .int i, .int j => .ok (.int (i + j)) S
  | .sub, .int i, .int j => .ok (.int (i - j)) S
  | .mul, .int i, .int j => R.chk (mulOk i j) (.ok (.int (i * j)) S)
  | .fdv, .int i, .int j => R.chk (fdvOk j) (.ok (.int (i / j)) S)
  | .mod, .int i, .int j => R.chk (decide (0 < j)) (.ok (.int (i % j)) S)
  | .pow, .int i, .int j => R.chk (powOk i j) (.ok (.int (i ^ j.toNat)) S)
  | .shr, .int i, .int j => R.chk (decide (0 ≤ j)) (.ok (.int (i / 2 ^ j.toNat)) S)
  | .add, .str a, .str b => R.chk (szOk (a.length + b.length)) (.ok (.str (a ++ b)) S)
  | .add, .tup a, .tup b => R.chk (szOk (a.length + b.length)) (.ok (.tup (a ++ b)) S)
  | .band, .int i, .int j => R.chk (decide (0 ≤ i) && decide (j = 1)) (.ok (.int (i % 2)) S)
  | .mul, .str a, .int j => R.chk (repOk a.length j) (.ok (.str (List.replicate j.toNat a).flatten) S)
  | .mul, .tup a, .int j => R.chk (decide (2 ≤ j) && decide (j ≤ 1000) && decide (a.length ≤ 1000) && !a.isEmpty) (.ok (.tup (List.replicate j.toNat a).flatten) S)
  | _, _, _ => .bad

def dKy : D → Option Ky
  | .int i => some (.inl i)
  | .str x => some (.inr x)
  | _ => none
def kyD : Ky → D
  | .inl i => .int i
  | .inr x => .str x
def lookK {α : Type} : List (Ky × α) → Ky → Option α
  | [], _ => none
  | (k, v) :: r, q => if k = q then some v else lookK r q
def hasK {α : Type} (kvs : List (Ky × α)) (q : Ky) : Bool := kvs.any fun p => decide (p.1 = q)
def putK {α : Type} (kvs : List (Ky × α)) (q : Ky) (d : α) : List (Ky × α) := if hasK kvs q = true then kvs.map (fun p => if p.1 = q then (p.1, d) else p) else kvs ++ [(q, d)]
def delK {α : Type} (kvs : List (Ky × α)) (q : Ky) : List (Ky × α) := kvs.filter fun p => decide (p.1 ≠ q)
def lookN : List (Nm × D) → Nm → Option D
  | [], _ => none
  | (k, v) :: r, q => if k = q then some v else lookN r q
def lookF : List (String × D) → String → Option D
  | [], _ => none
  | (k, v) :: r, q => if k = q then some v else lookF r q
def replF : List (String × D) → String → D → List (String × D)
  | [], _, _ => []
  | (k, v) :: r, q, d => (if k = q then (k, d) else (k, v)) :: replF r q d
def putF : List (String × D) → String → D → List (String × D)
  | [], q, d => [(q, d)]
  | (k, v) :: r, q, d => if k = q then (k, d) :: replF r q d else (k, v) :: putF r q d

def sclEq : D → D → Bool
  | .int i, .int j => i == j
  | .str a, .str b => a == b
  | .non, .non => true
  | _, _ => false
/-- the same dict, of numbers and texts -/
def dicEq (x y : D) : Bool := match x, y with
  | .dic a, .dic b => decide (a.length = b.length) && a.all fun p => match lookK b p.1 with
    | some d => sclEq p.2 d
    | none => false
  | _, _ => false
def isNon : D → Bool
  | .non => true
  | _ => false
/-- a stands in b -/
def subS (a b : Nm) : Bool := !(Builtin.Str.occurrences ⟨b.toArray⟩ ⟨a.toArray⟩ 0 b.length 1).isEmpty
/-- is it a tuple beside the empty one -/
def isT0 : D → D → Bool
  | .tup _, .tup [] => true
  | .lst _, .lst [] => true
  | _, _ => false
def eqOk (x y : D) : Bool := isT0 x y || (pl x && pl y)
/-- as the data by which things are put in order -/
def pdD : D → PyData
  | .non => .none
  | .bl b => .bool b
  | .int i => .int i
  | .str x => .str ⟨x.toArray⟩
  | .tup xs => .tuple (pdDs xs)
  | .lst xs => .list (pdDs xs)
  | _ => .none
where pdDs : List D → List PyData
  | [] => []
  | x :: xs => pdD x :: pdDs xs
def ltB (x y : D) : Bool := PySem.W.dataLt (pdD x) (pdD y)
def isI : D → Bool
  | .int _ => true
  | _ => false
def isS : D → Bool
  | .str _ => true
  | _ => false
def isT1 : D → Bool
  | .tup (_ :: _) => true
  | _ => false
/-- may they be put in order -/
def ordOk (xs : List D) : Bool := okDs xs 60 && ((xs.all isI || (xs.all isS || xs.all isT1)) && xs.all fun x => xs.all fun y => PySem.W.alike (pdD x) (pdD y))
def cmpD (o : Cop) (x y : D) (S : Sto) : R Bool := match o with
  | .eq => R.chk (eqOk x y) (.ok (eqv x y) S)
  | .ne => R.chk (eqOk x y) (.ok (!eqv x y) S)
  | .lt => match x, y with
    | .int i, .int j => .ok (decide (i < j)) S
    | .str i, .str j => .ok (decide (i < j)) S
    | .tup xs, .tup ys => R.chk (pl (.tup xs) && (pl (.tup ys) && PySem.W.alike (pdD (.tup xs)) (pdD (.tup ys)))) (.ok (ltB (.tup xs) (.tup ys)) S)
    | _, _ => .bad
  | .le => match x, y with
    | .int i, .int j => .ok (decide (i ≤ j)) S
    | .str i, .str j => .ok (!decide (j < i)) S
    | _, _ => .bad
  | .gt => match x, y with
    | .int i, .int j => .ok (decide (j < i)) S
    | .str i, .str j => .ok (decide (j < i)) S
    | _, _ => .bad
  | .ge => match x, y with
    | .int i, .int j => .ok (decide (j ≤ i)) S
    | .str i, .str j => .ok (!decide (i < j)) S
    | _, _ => .bad
  | .is => match y with
    | .non => .ok (isNon x) S
    | _ => .bad
  | .isn => match y with
    | .non => .ok (!isNon x) S
    | _ => .bad
  | .inn => match x, y with
    | x, .lst ys => R.chk (pl x && pls ys) (.ok (ys.any fun y => eqv y x) S)
    | x, .tup ys => R.chk (pl x && pls ys) (.ok (ys.any fun y => eqv y x) S)
    | .str a, .str b => .ok (subS a b) S
    | .int a, .dic kvs => .ok (lookK kvs (.inl a)).isSome S
    | .str a, .dic kvs => .ok (lookK kvs (.inr a)).isSome S
    | .str a, .kdic kvs => .ok (lookN kvs a).isSome S
    | _, _ => .bad
  | .nin => match x, y with
    | x, .lst ys => R.chk (pl x && pls ys) (.ok (!ys.any fun y => eqv y x) S)
    | x, .tup ys => R.chk (pl x && pls ys) (.ok (!ys.any fun y => eqv y x) S)
    | .str a, .str b => .ok (!subS a b) S
    | .int a, .dic kvs => .ok (!(lookK kvs (.inl a)).isSome) S
    | .str a, .dic kvs => .ok (!(lookK kvs (.inr a)).isSome) S
    | .str a, .kdic kvs => .ok (!(lookN kvs a).isSome) S
    | _, _ => .bad
  | .ned => R.chk (dicEq x y) (.ok false S)

/-- the item at a place, from behind where it is below 0 -/
def atI {α : Type} (xs : List α) (i : Int) : Option α := if 0 ≤ i then xs[i.toNat]? else if 0 ≤ i + xs.length then xs[(i + xs.length).toNat]? else none
def placeI (n : Nat) (i : Int) : Option Nat := if 0 ≤ i then (if i.toNat < n then some i.toNat else none) else if 0 ≤ i + n then some (i + n).toNat else none
def idxD (x i : D) (S : Sto) : R D := match x, i with
  | .lst xs, .int i => R.of S (atI xs i)
  | .tup xs, .int i => R.of S (atI xs i)
  | .scr ns, .int i => R.of S ((atI ns i).map .int)
  | .str z, .int i => R.of S ((atI z i).map fun c => .str [c])
  | .dic kvs, .int i => R.of S (lookK kvs (.inl i))
  | .dic kvs, .str i => R.of S (lookK kvs (.inr i))
  | .kdic kvs, .str i => R.of S (lookN kvs i)
  | _, _ => .bad

/-- where a slice begins or ends -/
def slcI (n : Nat) (dflt : Nat) : Option Int → Nat
  | none => dflt
  | some i => if i < 0 then (i + n).toNat else min i.toNat n
def cutL {α : Type} (xs : List α) (lo hi : Option Int) : List α := (xs.drop (slcI xs.length 0 lo)).take (slcI xs.length xs.length hi - slcI xs.length 0 lo)
def partD : List D → Option (Option Int)
  | [] => some none
  | [.int i] => some (some i)
  | _ => none
def slcD (x : D) (l u : Option Int) (S : Sto) : R D := match x with
  | .tup xs => .ok (.tup (cutL xs l u)) S
  | .str z => .ok (.str (cutL z l u)) S
  | _ => .bad
def truD (S : Sto) : D → R Bool
  | .non => .ok false S
  | .bl b => .ok b S
  | .int i => .ok (i != 0) S
  | .str x => .ok (!x.isEmpty) S
  | .tup xs => .ok (!xs.isEmpty) S
  | .lst xs => .ok (!xs.isEmpty) S
  | _ => .bad

def toInts : List D → Option (List Int)
  | [] => some []
  | .int i :: r => (toInts r).map (i :: ·)
  | _ => none
def toBools : List D → Option (List Bool)
  | [] => some []
  | .bl b :: r => (toBools r).map (b :: ·)
  | _ => none
def toStrs : List D → Option (List Nm)
  | [] => some []
  | .str b :: r => (toStrs r).map (b :: ·)
  | _ => none
def minI (i : Int) : List Int → Int
  | [] => i
  | j :: r => minI (if j < i then j else i) r
def maxI (i : Int) : List Int → Int
  | [] => i
  | j :: r => maxI (if i < j then j else i) r
def itemsD : D → Option (List D)
  | .lst xs => some xs
  | .tup xs => some xs
  | .scr ns => some (ns.map .int)
  | _ => none
/-- a list's items -/
def listD : D → Option (List D)
  | .lst xs => some xs
  | .scr ns => some (ns.map .int)
  | _ => none
def minL : List Int → Option D
  | [] => none
  | n :: r => some (.int (minI n r))
def maxL : List Int → Option D
  | [] => none
  | n :: r => some (.int (maxI n r))
def sortD (xs : List D) : List D := xs.mergeSort (PySem.W.dataLe false pdD)
/-- the least of what may be put in order: the first such -/
def minD : List D → Option D
  | [] => none
  | x :: r => some (r.foldl (fun m y => if ltB y m then y else m) x)
def dedup : List D → List D
  | [] => []
  | x :: r => if r.any (fun y => eqv y x) then dedup r else x :: dedup r

def blt1 (b : Blt) (x : D) (S : Sto) : R D := match b with
  | .len => (match x with
    | .lst xs => .ok (.int xs.length) S
    | .tup xs => .ok (.int xs.length) S
    | .scr xs => .ok (.int xs.length) S
    | .str z => .ok (.int z.length) S
    | .dic kvs => .ok (.int kvs.length) S
    | _ => .bad)
  | .sum => R.of S (((listD x).bind toInts).map fun ns => .int ns.sum)
  | .min => R.of S (((listD x).bind toInts).bind minL)
  | .max => R.of S (((listD x).bind toInts).bind maxL)
  | .minO => R.of S ((listD x).bind fun xs => if ordOk xs = true then minD xs else none)
  | .any => R.of S (((listD x).bind toBools).map fun bs => .bl (bs.any id))
  | .all => R.of S (((listD x).bind toBools).map fun bs => .bl (bs.all id))
  | .tup => R.of S ((itemsD x).map .tup)
  | .int => (match x with
    | .int i => .ok (.int i) S
    | .bl b => .ok (.int (if b then 1 else 0)) S
    | _ => .bad)
  | .str => (match x with
    | .int i => R.chk (strOk i) (.ok (.str (digs i)) S)
    | _ => .bad)
  | .abs => (match x with
    | .int i => .ok (.int (if i < 0 then -i else i)) S
    | _ => .bad)
  | .divmod => .bad
def blt2 (b : Blt) (x y : D) (S : Sto) : R D := match b, x, y with
  | .min, .int i, .int j => .ok (.int (if j < i then j else i)) S
  | .max, .int i, .int j => .ok (.int (if i < j then j else i)) S
  | .divmod, .int i, .int j => R.chk (fdvOk j) (.ok (.tup [.int (i / j), .int (i % j)]) S)
  | _, _, _ => .bad
def bltD (b : Blt) (xs : List D) (S : Sto) : R D := match xs with
  | [x] => blt1 b x S
  | [x, y] => blt2 b x y S
  | _ => .bad

def indexD (xs : List D) (x : D) : Option Nat := xs.findIdx? fun y => eqv y x
def joinS (sep : Nm) : List Nm → Nm
  | [] => []
  | [x] => x
  | x :: r => x ++ sep ++ joinS sep r
def upS (z : Nm) : Nm := z.map fun c => if 97 ≤ c ∧ c ≤ 122 then c - 32 else c
def mthD (m : Mth) (o : D) (xs : List D) (S : Sto) : R D := match m, o, xs with
  | .get, .dic kvs, [.int k] => .ok ((lookK kvs (.inl k)).getD .non) S
  | .get, .dic kvs, [.str k] => .ok ((lookK kvs (.inr k)).getD .non) S
  | .get, .dic kvs, [.int k, d] => .ok ((lookK kvs (.inl k)).getD d) S
  | .get, .dic kvs, [.str k, d] => .ok ((lookK kvs (.inr k)).getD d) S
  | .get, .kdic kvs, [.str k] => .ok ((lookN kvs k).getD .non) S
  | .get, .kdic kvs, [.str k, d] => .ok ((lookN kvs k).getD d) S
  | .index, .tup ys, [x] => R.chk (pl x && pls ys) (R.of S ((indexD ys x).map fun (n : Nat) => D.int (n : Int)))
  | .index, .lst ys, [x] => R.chk (pl x && pls ys) (R.of S ((indexD ys x).map fun (n : Nat) => D.int (n : Int)))
  | .upper, .str z, [] => R.chk (z.all (fun c => decide (c < 128)) && decide (z.length ≤ 5592405)) (.ok (.str (upS z)) S)
  | _, _, _ => .bad
/-- what has this method -/
def rcv : Mth → D → Bool
  | .get, .dic _ => true
  | .get, .kdic _ => true
  | .index, .tup _ => true
  | .index, .lst _ => true
  | .upper, .str _ => true
  | _, _ => false
/-- sep.join(..) -/
def joinD (a : Nm) (x : D) (S : Sto) : R D := R.of S (((itemsD x).bind toStrs).bind fun zs => if szOk ((zs.map (·.length)).sum + zs.length * a.length) = true then some (.str (joinS a zs)) else none)

/-- a change: what the thing is then, and what the change hands back -/
def mutC (m : Mu) (c : Cell) (xs : List D) : Option (Cell × D) := match m, c, xs with
  | .append, .lst ds, [x] => if szOk (ds.length + 1) = true then some (.lst (ds ++ [x]), .non) else none
  | .extend, .lst ds, [.lst es] => if szOk (ds.length + es.length) = true then some (.lst (ds ++ es), .non) else none
  | .insert, .lst ds, [.int i, x] => if (szOk (ds.length + 1) && (decide (0 ≤ i) && decide (i < 1000000))) = true then some (.lst (ds.take i.toNat ++ [x] ++ ds.drop i.toNat), .non) else none
  | .set, .lst ds, [.int i, x] => (placeI ds.length i).map fun n => (.lst (ds.set n x), .non)
  | .set, .dct kvs, [.int k, x] => if szOk (kvs.length + 1) = true then some (.dct (putK kvs (.inl k) x), .non) else none
  | .set, .dct kvs, [.str k, x] => if szOk (kvs.length + 1) = true then some (.dct (putK kvs (.inr k) x), .non) else none
  | .pop, .lst ds, [] => (match ds.getLast? with
    | some d => some (.lst ds.dropLast, d)
    | none => none)
  | .pop, .dct kvs, [.int k] => (lookK kvs (.inl k)).map fun d => (.dct (delK kvs (.inl k)), d)
  | .pop, .dct kvs, [.str k] => (lookK kvs (.inr k)).map fun d => (.dct (delK kvs (.inr k)), d)
  | _, _, _ => none

/-- the items that are walked -/
def seqD (S : Sto) : W → Option (List D)
  | .d (.dic kvs) => some (kvs.map fun p => kyD p.1)
  | w => match w.vw S with
    | .lst ds => some ds
    | .tup ds => some ds
    | .scr ns => some (ns.map .int)
    | .str z => some (z.map fun c => .str [c])
    | _ => none
def rngOk (m n : Int) : Bool := decide (-(2 ^ 60) < m) && decide (m < 2 ^ 60) && decide (-(2 ^ 60) < n) && decide (n < 2 ^ 60) && decide (n - m < 2 ^ 24)
def rngD (m n : Int) : List D := (List.range (n - m).toNat).map fun (i : Nat) => .int (m + (i : Int))
/-- what zip walks -/
def zipI : W → Option (List D)
  | .d (.lst xs) => some xs
  | .d (.tup xs) => some xs
  | .d (.str z) => some (z.map fun c => .str [c])
  | .own (.lst xs) => some xs
  | _ => none
/-- what enumerate walks -/
def enumI : W → Option (List D)
  | .d (.dic kvs) => some (kvs.map fun p => kyD p.1)
  | .d (.lst xs) => some xs
  | .d (.tup xs) => some xs
  | .own (.lst xs) => some xs
  | _ => none
def srcD (k : Sk) (ws : List W) (S : Sto) : Option (List D) := match k, ws with
  | .seq, [w] => seqD S w
  | .range, [.d (.int n)] => if rngOk 0 n = true then some (rngD 0 n) else none
  | .range, [.d (.int m), .d (.int n)] => if rngOk m n = true then some (rngD m n) else none
  | .zip, [x, y] => (zipI x).bind fun xs => (zipI y).map fun ys => List.zipWith (fun a b => .tup [a, b]) xs ys
  | .enum, [x] => (enumI x).map fun xs => xs.zipIdx.map fun p => .tup [.int p.2, p.1]
  | _, _ => none
/-- what of the walked thing must stay: the cells that are walked -/
def srcG (xs : List W) (S S' : Sto) : Prop := ∀ x ∈ xs, match x with
  | .d (.ref a) => S'[a]? = S[a]?
  | _ => True

def setAll : List Nat → List D → Env → Option Env
  | [], [], ρ => some ρ
  | i :: is, d :: ds, ρ => setAll is ds (ρ.put i (.d d))
  | _, _, _ => none
/-- a walked thing to the target's names -/
def setTg (tg : List Nat) (d : D) (ρ : Env) : Option Env := match tg, d with
  | [i], d => some (ρ.put i (.d d))
  | is, .tup ds => setAll is ds ρ
  | _, _ => none

/-- the classes of errors of the program -/
def errs : List String := ["ArchiveError", "NoDay", "NoDeed", "Twice", "GoneMaker", "NoNumber", "NoPaper", "MustStay", "Held", "NoLeave", "NoText", "NoCall"]
def subC (c c' : String) : Bool := c == c' || (errs.contains c && (c' == "ArchiveError" || c' == "ValueError"))
/-- is it of this class -/
def isiD (d : D) (c : String) : Bool := match d with
  | .bl _ => c == "bool" || c == "int"
  | .int _ => c == "int"
  | .str _ => c == "str"
  | .tup _ => c == "tuple"
  | .lst _ => c == "list"
  | .scr _ => c == "list"
  | .dic _ => c == "dict"
  | .kdic _ => c == "dict"
  | .obj e _ => c == e
  | .exc e _ => subC e c
  | _ => false
/-- what isinstance may be asked of -/
def isiOk : D → Bool
  | .ref _ => false
  | .fn _ => false
  | .obj _ _ => false
  | .exc _ _ => false
  | _ => true

/-- an error that holds nothing -/
def isE0 : D → Bool
  | .exc _ [] => true
  | _ => false
/-- a class of errors -/
def isErr (c : String) : Bool := errs.contains c || c == "ValueError"
def errCs (cs : List String) : Bool := cs.all isErr
/-- nothing, or an error -/
def isXN : D → Bool
  | .non => true
  | .exc _ _ => true
  | _ => false
def isiOk2 (cs : List String) (d : D) : Bool := if errCs cs = true then isXN d else isiOk d
section
open Classical
noncomputable def lcGo {α : Type} (body : α → Sto → R (Option D)) (g : Sto → Prop) : List α → Sto → R (List D)
  | [], S => .ok [] S
  | x :: xs, S => (body x S).bind fun r S1 => if g S1 then (lcGo body g xs S1).bind fun ys S2 => .ok (r.toList ++ ys) S2 else .bad
/-- behind a turn of a loop -/
def R.loop (r : R Fl) (f : Env → Sto → R Fl) : R Fl := match r with
  | .ok (.nx ρ) S => f ρ S
  | .ok (.ct ρ) S => f ρ S
  | .ok (.bk ρ) S => .ok (.nx ρ) S
  | r => r
noncomputable def forGo {α : Type} (set : α → Env → Option Env) (body : Env → Sto → R Fl) (g : Sto → Prop) : List α → Env → Sto → R Fl
  | [], ρ, S => .ok (.nx ρ) S
  | x :: xs, ρ, S => match set x ρ with
    | none => .bad
    | some ρ1 => (body ρ1 S).loop fun ρ2 S2 => if g S2 then forGo set body g xs ρ2 S2 else .bad
def whlN (test : Env → Sto → R Bool) (body : Env → Sto → R Fl) : Nat → Env → Sto → R Fl
  | 0, _, _ => .bad
  | n + 1, ρ, S => (test ρ S).lift ρ fun b S1 => if b = true then (body ρ S1).loop (whlN test body n) else .ok (.nx ρ) S1
noncomputable def whl (test : Env → Sto → R Bool) (body : Env → Sto → R Fl) (ρ : Env) (S : Sto) : R Fl :=
  if h : ∃ n, whlN test body n ρ S ≠ .bad then whlN test body (Classical.choose h) ρ S else .bad

def pairUp : List D → Option (List (Ky × D))
  | [] => some []
  | k :: d :: r => (dKy k).bind fun k => (pairUp r).map ((k, d) :: ·)
  | _ => none
/-- the pairs of a list, as a dict's -/
def pairsOf : List D → Option (List (Ky × D))
  | [] => some []
  | .tup [k, d] :: r => (dKy k).bind fun k => (pairsOf r).map ((k, d) :: ·)
  | _ => none
def mergeK (kvs : List (Ky × D)) (ps : List (Ky × D)) : List (Ky × D) := ps.foldl (fun m p => putK m p.1 p.2) kvs
/-- what has this method -/
def rcvM (m : Mu) (x : D) : Bool := match m, x with
  | .append, .lst _ => true
  | .extend, .lst _ => true
  | .insert, .lst _ => true
  | .pop, .lst _ => true
  | .pop, .dic _ => true
  | .setdefault, .dic _ => true
  | .set, _ => true
  | _, _ => false
/-- the first key that holds this, or None -/
def keyAt : List (Ky × D) → D → D
  | [], _ => .non
  | (k, v) :: r, y => if eqv v y = true then kyD k else keyAt r y
def keyR (d y : D) (S : Sto) : R Fl := match d with
  | .ref i => (match S[i]? with
    | some (.dct kvs) => R.chk (pl y && kvs.all fun p => pl p.2) (.ok (.rt (.d (keyAt kvs y))) S)
    | _ => .bad)
  | _ => .bad
/-- an attribute's value -/
def attD (cs : List String) (f : String) (x : D) (S : Sto) : R D := match x with
  | .obj c fs => R.chk (cs.contains c) (R.of S (lookF fs f))
  | _ => .bad
/-- a thing of a class that has no such attribute of its own -/
def isO (c m : String) : D → Bool
  | .obj c' fs => c' == c && (lookF fs m).isNone
  | _ => false
/-- a new thing, wherever it lies -/
noncomputable def mkR (c : String) (g : Nat → R W) : R Cell :=
  if h : ∃ p : List (String × D) × Sto, ∀ x, g x = .ok (.own (.obj (some x) c p.1)) p.2 then .ok (.obj none c (Classical.choose h).1) (Classical.choose h).2
  else if h : ∃ p : D × Sto, ∀ x, g x = .exc p.1 p.2 then .exc (Classical.choose h).1 (Classical.choose h).2
  else .bad
def allD : List W → Bool
  | [] => true
  | .d _ :: r => allD r
  | .own _ :: _ => false
def onlyD : W → Option D
  | .d x => some x
  | .own _ => none
def wD (w : W) (S : Sto) : R D := match w with
  | .d x => .ok x S
  | .own _ => .bad
def wC (w : W) (S : Sto) : R Cell := match w with
  | .d _ => .bad
  | .own c => .ok c S
/-- the items that are put in order -/
def itemsS : D → Option (List D)
  | .lst xs => some xs
  | .scr ns => some (ns.map .int)
  | .dic kvs => some (kvs.map fun p => kyD p.1)
  | _ => none
/-- the keys of a sort, by a function that looks at nothing else -/
def keysP (f : D → R W) : List D → Option (List Int)
  | [] => some []
  | x :: xs => match f x with
    | .ok (.d (.int i)) _ => (keysP f xs).map (i :: ·)
    | _ => none
def sortK (ps : List (Int × D)) : List D := (ps.mergeSort fun a b => decide (a.1 ≤ b.1)).map (·.2)
def splitS (sep : Nat) : Nm → List Nm
  | [] => [[]]
  | c :: r => if c = sep then [] :: splitS sep r else match splitS sep r with
    | [] => [[c]]
    | w :: ws => (c :: w) :: ws
/-- a change of a cell -/
def mutS (m : Mu) (o : D) (xs : List D) (S : Sto) : R D := match o with
  | .ref a => (match S[a]? with
    | some c => (match mutC m c (if m matches .extend then xs.map (vw S) else xs) with
      | some (c', d) => .ok d (S.set a c')
      | none => .bad)
    | none => .bad)
  | _ => .bad

/-- a value, none of one's own that may change -/
def R.d (r : R W) : R D := r.bind wD
/-- a value's truth -/
def R.t (r : R W) : R Bool := r.bind fun w S => truD S (w.vw S)
def R.w (r : R D) : R W := r.bind fun d S => .ok (.d d) S
mutual
noncomputable def evW (Φ : Fn) (ρ : Env) : Ex → Sto → R W
  | .var i, S => R.of S (ρ.get i)
  | .cst d, S => .ok (.d d) S
  | .glo _ d, S => .ok (.d d) S
  | .bin o a b, S => (evW Φ ρ a S).bind fun x S1 => (evW Φ ρ b S1).bind fun y S2 => (binD o (x.vw S2) (y.vw S2) S2).w
  | .neg a, S => (evW Φ ρ a S).d.bind fun x S1 => match x with
    | .int i => .ok (.d (.int (-i))) S1
    | _ => .bad
  | .cmp o a b, S => (evW Φ ρ a S).bind fun x S1 => (evW Φ ρ b S1).bind fun y S2 => (cmpD o (x.vw S2) (y.vw S2) S2).bind fun r S3 => .ok (.d (.bl r)) S3
  | .chn o o' a b c, S => (evW Φ ρ a S).bind fun x S1 => (evW Φ ρ b S1).bind fun y S2 => (cmpD o (x.vw S2) (y.vw S2) S2).bind fun r S3 =>
      if r = true then (evW Φ ρ c S3).bind fun z S4 => (cmpD o' (y.vw S4) (z.vw S4) S4).bind fun r S5 => .ok (.d (.bl r)) S5 else .ok (.d (.bl false)) S3
  | .bop isAnd es, S => evB Φ ρ isAnd es S
  | .not a, S => (evW Φ ρ a S).t.bind fun b S1 => .ok (.d (.bl !b)) S1
  | .ife c a b, S => (evW Φ ρ c S).t.bind fun r S1 => if r = true then (evW Φ ρ a S1).d.w else (evW Φ ρ b S1).d.w
  | .tup es, S => (evEs Φ ρ es S).bind fun ds S1 => .ok (.d (.tup ds)) S1
  | .idx a i, S => (evW Φ ρ a S).bind fun x S1 => (evW Φ ρ i S1).d.bind fun y S2 => (idxD (x.vw S2) y S2).w
  | .slc a lo hi, S => (evW Φ ρ a S).bind fun x S1 => ((evEs Φ ρ lo S1).bind fun l S2 => R.of S2 (partD l)).bind fun l S2 => ((evEs Φ ρ hi S2).bind fun u S3 => R.of S3 (partD u)).bind fun u S3 => (slcD (x.vw S3) l u S3).w
  | .rev a, S => (evW Φ ρ a S).bind fun x S1 => match x.vw S1 with
    | .tup xs => .ok (.d (.tup xs.reverse)) S1
    | _ => .bad
  | .call f es, S => (evEs Φ ρ es S).bind fun ds S1 => (Φ f ds S1).d.w
  | .app f es, S => (evW Φ ρ f S).d.bind fun x S1 => (evEs Φ ρ es S1).bind fun ds S2 => match x with
    | .fn k => (Φ k ds S2).d.w
    | _ => .bad
  | .blt b es, S => (evWs Φ ρ es S).bind fun ws S1 => (bltD b (ws.map (W.vw S1)) S1).w
  | .mth m o es, S => (evW Φ ρ o S).bind fun x S1 => R.chk (rcv m (x.vw S1)) ((evEs Φ ρ es S1).bind fun ds S2 => (mthD m (x.vw S2) ds S2).w)
  | .join o a, S => (evW Φ ρ o S).d.bind fun x S1 => match x with
    | .str s => (evW Φ ρ a S1).bind fun y S2 => (joinD s (y.vw S2) S2).w
    | _ => .bad
  | .mut m o es, S => (evW Φ ρ o S).d.bind fun x S1 => R.chk (rcvM m (vw S1 x)) ((evEs Φ ρ es S1).bind fun ds S2 => (mutS m x ds S2).w)
  | .isi a cs, S => (evW Φ ρ a S).bind fun x S1 => R.chk (isiOk2 cs (x.vw S1)) (.ok (.d (.bl (cs.any (isiD (x.vw S1))))) S1)
  | .att a f cs, S => (evW Φ ρ a S).bind fun x S1 => (attD cs f (x.vw S1) S1).w
  | .meth c m f o es, S => (evW Φ ρ o S).d.bind fun x S1 => R.chk (isO c m (vw S1 x)) ((evEs Φ ρ es S1).bind fun ds S2 => (Φ f (x :: ds) S2).d.w)
  | .frz n, S => (evN Φ ρ n S).bind fun c S1 => .ok (.d c.vw) S1
  | .cel n, S => (evN Φ ρ n S).bind fun c S1 => .ok (.d (.ref S1.length)) (S1 ++ [c])
noncomputable def evEs (Φ : Fn) (ρ : Env) : List Ex → Sto → R (List D)
  | [], S => .ok [] S
  | e :: es, S => (evW Φ ρ e S).d.bind fun d S1 => (evEs Φ ρ es S1).bind fun ds S2 => .ok (d :: ds) S2
noncomputable def evWs (Φ : Fn) (ρ : Env) : List Ex → Sto → R (List W)
  | [], S => .ok [] S
  | e :: es, S => (evW Φ ρ e S).bind fun d S1 => (evWs Φ ρ es S1).bind fun ds S2 => .ok (d :: ds) S2
noncomputable def evB (Φ : Fn) (ρ : Env) (isAnd : Bool) : List Ex → Sto → R W
  | [], _ => .bad
  | e :: es, S => match es with
    | [] => (evW Φ ρ e S).d.w
    | _ :: _ => (evW Φ ρ e S).d.bind fun x S1 => (truD S1 (vw S1 x)).bind fun b S2 => if b = isAnd then evB Φ ρ isAnd es S2 else .ok (.d x) S2
/-- the tests of a comprehension -/
noncomputable def evC (Φ : Fn) (ρ : Env) : List Ex → Sto → R Bool
  | [], S => .ok true S
  | [c], S => (evW Φ ρ c S).t
  | _, _ => .bad
noncomputable def evN (Φ : Fn) (ρ : Env) : Nw → Sto → R Cell
  | .lst es, S => (evEs Φ ρ es S).bind fun ds S1 => .ok (.lst ds) S1
  | .dic es, S => (evEs Φ ρ es S).bind fun ds S1 => match pairUp ds with
    | some kvs => .ok (.dct (mergeK [] kvs)) S1
    | none => .bad
  | .comp tg k src cond elt, S => (evWs Φ ρ src S).bind fun xs S1 => match srcD k xs S1 with
    | none => .bad
    | some ds => (lcGo (fun d S => (R.of S (setTg tg d (ρ.dels tg))).bind fun ρ' S => (evC Φ ρ' cond S).bind fun b S1 => if b = true then (evW Φ ρ' elt S1).d.bind fun x S2 => .ok (some x) S2 else .ok none S1) (srcG xs S1) ds S1).noexc.bind fun r S2 => .ok (.lst r) S2
  | .cat a b, S => (evW Φ ρ a S).bind fun x S1 => (evW Φ ρ b S1).bind fun y S2 => match x.vw S2, y.vw S2 with
    | .lst xs, .lst ys => R.chk (szOk (xs.length + ys.length)) (.ok (.lst (xs ++ ys)) S2)
    | _, _ => .bad
  | .rep a b, S => (evW Φ ρ a S).bind fun x S1 => (evW Φ ρ b S1).d.bind fun y S2 => match x.vw S2, y with
    | .lst xs, .int j => R.chk (repOk xs.length j) (.ok (.lst (List.replicate j.toNat xs).flatten) S2)
    | _, _ => .bad
  | .slc a lo hi, S => (evW Φ ρ a S).bind fun x S1 => ((evEs Φ ρ lo S1).bind fun l S2 => R.of S2 (partD l)).bind fun l S2 => ((evEs Φ ρ hi S2).bind fun u S3 => R.of S3 (partD u)).bind fun u S3 => match x.vw S3 with
    | .lst xs => .ok (.lst (cutL xs l u)) S3
    | .scr ns => .ok (.lst ((cutL ns l u).map .int)) S3
    | _ => .bad
  | .rev a, S => (evW Φ ρ a S).bind fun x S1 => match x.vw S1 with
    | .lst xs => .ok (.lst xs.reverse) S1
    | _ => .bad
  | .list a, S => (evW Φ ρ a S).bind fun x S1 => (R.of S1 (itemsD (x.vw S1))).bind fun xs S1 => .ok (.lst xs) S1
  | .range es, S => (evEs Φ ρ es S).bind fun ds S1 => (R.of S1 (srcD .range (ds.map W.d) S1)).bind fun xs S1 => .ok (.lst xs) S1
  | .sorted a, S => (evW Φ ρ a S).bind fun x S1 => (R.of S1 (itemsS (x.vw S1))).bind fun xs S1 => R.chk (ordOk xs) (.ok (.lst (sortD xs)) S1)
  | .sortBy f a, S => (evW Φ ρ a S).bind fun x S1 => (R.of S1 (listD (x.vw S1))).bind fun xs S1 => (R.of S1 (if okDs xs 60 = true then keysP (fun d => Φ f [d] []) xs else none)).bind fun ns S1 => .ok (.lst (sortK (ns.zip xs))) S1
  | .sortSet a, S => (evW Φ ρ a S).bind fun x S1 => (R.of S1 (itemsD (x.vw S1))).bind fun xs S1 => R.chk ((xs.all isI || xs.all isS) && decide (xs.length < 4000)) (.ok (.lst (sortD (dedup xs))) S1)
  | .dict a, S => (evW Φ ρ a S).bind fun x S1 => match x.vw S1 with
    | .dic kvs => .ok (.dct kvs) S1
    | .lst xs => (R.of S1 (pairsOf xs)).bind fun ps S1 => .ok (.dct (mergeK [] ps)) S1
    | _ => .bad
  | .split o a, S => (evW Φ ρ o S).bind fun x S1 => (evW Φ ρ a S1).d.bind fun y S2 => match x.vw S2, y with
    | .str z, .str [c] => R.chk (szOk (z.length + 2)) (.ok (.lst ((splitS c z).map .str)) S2)
    | _, _ => .bad
  | .make c f es, S => (evEs Φ ρ es S).bind fun ds S1 => mkR c fun x => Φ f (.int x :: ds) S1
  | .call f es, S => (evEs Φ ρ es S).bind fun ds S1 => (Φ f ds S1).bind wC
end
noncomputable def evE (Φ : Fn) (ρ : Env) (e : Ex) (S : Sto) : R D := (evW Φ ρ e S).d
noncomputable def evT (Φ : Fn) (ρ : Env) (e : Ex) (S : Sto) : R Bool := (evW Φ ρ e S).t

/-- a value to a target -/
noncomputable def setT (Φ : Fn) (d : D) : Tg → Env → Sto → R Fl
  | .nm i, ρ, S => .ok (.nx (ρ.put i (.d d))) S
  | .sub o i, ρ, S => (evE Φ ρ o S).lift ρ fun x S1 => (evE Φ ρ i S1).lift ρ fun y S2 => (mutS .set x [y, d] S2).lift ρ fun _ S3 => .ok (.nx ρ) S3
  | .osub j i, ρ, S => match ρ.get j with
    | some (.own c) => (evE Φ ρ i S).lift ρ fun y S1 => match mutC .set c [y, d] with
      | some (c', _) => .ok (.nx (ρ.put j (.own c'))) S1
      | none => .bad
    | _ => .bad
  | .att o f cs, ρ, S => (evE Φ ρ o S).lift ρ fun x S1 => match x with
    | .ref a => (match S1[a]? with
      | some (.obj g c fs) => R.chk (decide (fs.length < 900) && cs.contains c) (.ok (.nx ρ) (S1.set a (.obj g c (putF fs f d))))
      | _ => .bad)
    | _ => .bad
  | .oatt j f cs, ρ, S => match ρ.get j with
    | some (.own (.obj g c fs)) => R.chk (decide (fs.length < 900) && cs.contains c) (.ok (.nx (ρ.put j (.own (.obj g c (putF fs f d))))) S)
    | _ => .bad
noncomputable def setTs (Φ : Fn) : List Tg → List D → Env → Sto → R Fl
  | [], [], ρ, S => .ok (.nx ρ) S
  | t :: ts, d :: ds, ρ, S => (setT Φ d t ρ S).nx fun ρ1 S1 => setTs Φ ts ds ρ1 S1
  | _, _, _, _ => .bad

mutual
/-- no cell's number, and (q = false) no dict -/
def nrD (q : Bool) : D → Bool
  | .non => true
  | .bl _ => true
  | .int _ => true
  | .str _ => true
  | .scr _ => true
  | .tup xs => nrDs q xs
  | .lst xs => nrDs q xs
  | .dic kvs => q && nrKs q kvs
  | _ => false
def nrDs (q : Bool) : List D → Bool
  | [] => true
  | x :: xs => nrD q x && nrDs q xs
def nrKs (q : Bool) : List (Ky × D) → Bool
  | [] => true
  | (_, x) :: xs => nrD q x && nrKs q xs
end
/-- the values without cells, while one's own dict is locked -/
def lockE : Env → Env
  | [] => []
  | some (.d x) :: r => (if nrD true x = true then some (.d x) else none) :: lockE r
  | _ :: r => none :: lockE r
mutual
noncomputable def evS (Φ : Fn) : St → Env → Sto → R Fl
  | .asg t e, ρ, S => (evE Φ ρ e S).lift ρ fun d S1 => setT Φ d t ρ S1
  | .unp ts e, ρ, S => (evW Φ ρ e S).d.lift ρ fun d S1 => match d with
    | .tup ds => R.chk (decide (ds.length = ts.length)) (setTs Φ ts ds ρ S1)
    | .lst ds => R.chk (decide (ds.length = ts.length)) (setTs Φ ts ds ρ S1)
    | _ => .bad
  | .par is es, ρ, S => (evEs Φ ρ es S).lift ρ fun ds S1 => match setAll is ds ρ with
    | some ρ' => .ok (.nx ρ') S1
    | none => .bad
  | .own i n, ρ, S => (evN Φ ρ n S).lift ρ fun c S1 => .ok (.nx (ρ.put i (.own c))) S1
  | .omut i m es, ρ, S => match ρ.get i with
    | some (.own (.lst xs)) => (evEs Φ ρ es S).lift ρ fun ds S1 => match mutC m (.lst xs) (if m matches .extend then ds.map (vw S1) else ds) with
      | some (c', _) => .ok (.nx (ρ.put i (.own c'))) S1
      | none => .bad
    | _ => .bad
  | .opop i e, ρ, S => match ρ.get i with
    | some (.own (.dct kvs)) => (evW Φ ρ e S).d.lift ρ fun d S1 => match mutC .pop (.dct kvs) [d] with
      | some (c', _) => .ok (.nx (ρ.put i (.own c'))) S1
      | none => .bad
    | _ => .bad
  | .fz i, ρ, S => match ρ.get i with
    | some (.own c) => .ok (.nx (ρ.put i (.d c.vw))) S
    | some (.d _) => .ok (.nx ρ) S
    | none => .bad
  | .kill is, ρ, S => .ok (.nx (ρ.dels is)) S
  | .exp e, ρ, S => (evE Φ ρ e S).lift ρ fun _ S1 => .ok (.nx ρ) S1
  | .ret e, ρ, S => (evE Φ ρ e S).lift ρ fun d S1 => .ok (.rt (.d d)) S1
  | .retN, _, S => .ok (.rt (.d .non)) S
  | .retO i, ρ, S => match ρ.get i with
    | some (.own c) => .ok (.rt (.own c)) S
    | _ => .bad
  | .retF i, ρ, S => match ρ.get i with
    | some (.own c) => .ok (.rt (.d c.vw)) S
    | some (.d x) => .ok (.rt (.d x)) S
    | none => .bad
  | .retW n, ρ, S => (evN Φ ρ n S).lift ρ fun c S1 => .ok (.rt (.own c)) S1
  | .ifS c a b, ρ, S => (evT Φ ρ c S).lift ρ fun r S1 => if r = true then evSs Φ a ρ S1 else evSs Φ b ρ S1
  | .whl c a, ρ, S => whl (fun ρ1 S1 => evT Φ ρ1 c S1) (fun ρ1 S1 => evSs Φ a ρ1 S1) ρ S
  | .forS tg k src a, ρ, S => (evWs Φ ρ src S).lift ρ fun ws S1 => if allD ws = true then (match srcD k ws S1 with
    | none => .bad
    | some ds => forGo (fun d ρ => setTg tg d ρ) (fun ρ1 S1 => evSs Φ a ρ1 S1) (srcG ws S1) ds ρ S1) else .bad
  | .ownD i j tg cond elt, ρ, S => (match ρ.get j with
    | some (.own (.dct kvs)) => R.chk (nrKs true kvs) (match evN Φ ((lockE ρ).put j (.d (.dic kvs))) (.comp tg .seq [.var j] cond elt) [] with
      | .ok (.lst r) _ => R.chk (nrDs false r) (.ok (.nx (ρ.put i (.own (.lst r)))) S)
      | _ => .bad)
    | _ => .bad)
  | .pass, ρ, S => .ok (.nx ρ) S
  | .brk, ρ, S => .ok (.bk ρ) S
  | .cnt, ρ, S => .ok (.ct ρ) S
  | .nev, _, _ => .bad
  | .rais c fs es, ρ, S => (evEs Φ ρ es S).lift ρ fun ds S1 => .ok (.ex (.exc c (fs.zip ds)) ρ) S1
  | .retK o x _, ρ, S => (evE Φ ρ o S).lift ρ fun d S1 => (evE Φ ρ x S1).lift ρ fun y S2 => keyR d y S2
  | .tryS a c n b, ρ, S => match evSs Φ a ρ S with
    | .ok (.ex e ρ1) S1 => if isiD e c = true then (match n with
      | [] => evSs Φ b ρ1 S1
      | i :: _ => R.chk (isE0 e) (evSs Φ b (ρ1.put i (.d e)) S1)) else .ok (.ex e ρ1) S1
    | r => r
noncomputable def evSs (Φ : Fn) : List St → Env → Sto → R Fl
  | [], ρ, S => .ok (.nx ρ) S
  | s :: ss, ρ, S => (evS Φ s ρ S).nx fun ρ1 S1 => evSs Φ ss ρ1 S1
end
/-- a function: its arguments, then the other names without a value; an __init__ has its object first, and hands it back -/
noncomputable def evF (Φ : Fn) (fd : Fd) (ds : List D) (S : Sto) : R W := match fd.ini with
  | none => if ds.length = fd.ps then
      match evSs Φ fd.body (ds.map (fun d => some (.d d)) ++ List.replicate (fd.nn - ds.length) none) S with
      | .ok (.nx _) S1 => .ok (.d .non) S1
      | .ok (.rt w) S1 => .ok w S1
      | .ok (.ex e _) S1 => .exc e S1
      | _ => .bad
    else .bad
  | some c => match ds with
    | .int x :: es => if ds.length = fd.ps then
        match evSs Φ fd.body (some (.own (.obj (some x.toNat) c [])) :: (es.map (fun d => some (.d d)) ++ List.replicate (fd.nn - ds.length) none)) S with
        | .ok (.nx ρ) S1 => R.of S1 (ρ.get 0)
        | .ok (.ex e _) S1 => .exc e S1
        | _ => .bad
      else .bad
    | _ => .bad
/-- n calls deep at most -/
noncomputable def call (P : Nat → Fd) : Nat → Fn
  | 0 => fun _ _ _ => .bad
  | n + 1 => fun f ds S => evF (call P n) (P f) ds S
end
end Ev
set_option maxHeartbeats 4000000
/-! Ev, part 1b: what the head's run is asked. -/
namespace Ev
open PySem PySem.Spec PyProof.Rows L2
def tx (x : Nm) : Str := ⟨x.toArray⟩
/-- where one stands: the names by slot, the block's names, the functions by number, the module's constants -/
structure CI where
  c : String
  fs : List String
  ms : List (String × Nat)
  ini : Option Nat
def bltNames : List String := ["len", "sum", "min", "max", "any", "all", "tuple", "int", "str", "divmod", "abs", "list", "range", "sorted", "zip", "enumerate", "isinstance", "bool", "dict", "set", "repr", "ValueError"]
/-- all types of values that isinstance may be asked of, beside errors -/
def vtNames : List String := ["NoneType"]
def isExc : D → Bool
  | .exc _ _ => true
  | _ => false
/-- does the text say so -/
def exPB (K : PySem.W.Frag) (x : String) (p : String × D) : Bool := match p.2 with
  | .exc _ _ => decide (PySem.W.exmOne K (.ref (He.ga K (Str.ofString x))) (.ref (He.ga K (Str.ofString p.1))) = some (subC x p.1)) && decide (PySem.W.kitOne K (.ref (He.ga K (Str.ofString x))) (.ref (He.ga K (Str.ofString p.1))) = some (subC x p.1))
  | _ => true
def exKB (K : PySem.W.Frag) (cs : List (String × D)) (x : String) (l : List (String × D)) : Bool := errs.contains x && (
  (((He.Fa.glo (Str.ofString x)).ok K && (!l.isEmpty || PySem.W.excIn K (He.ga K (Str.ofString x)) He.veBase "ValueError.__new__")) && (PySem.W.keepIn K (.ref (He.ga K (Str.ofString x))) && (decide (PySem.W.subIn K (.ref (He.ga K (Str.ofString x))) (.type "BaseException") = some true) && decide (PySem.W.typeIn K (.ref (He.ga K (Str.ofString x))) = some (.type "type"))))) &&
  (((He.eqO (PySem.W.findIn K (.ref (He.ga K (Str.ofString x))) "__getattribute__") (some (some (.builtin "BaseException.__getattribute__"))) && He.eqO (PySem.W.findIn K (.ref (He.ga K (Str.ofString x))) "__getattr__") (some none)) &&
    (PySem.W.hasDictIn K (He.ga K (Str.ofString x)) && (He.eqO (PySem.W.findIn K (.ref (He.ga K (Str.ofString x))) "__class__") (some (some (.builtin "object.__class__"))) && (decide (PySem.W.specialIn K (.builtin "object.__class__") "__get__" = some (some (.builtin "getset_descriptor.__get__"))) &&
      (decide (PySem.W.takesIn K (.builtin "object.__class__") = some true) && decide (PySem.W.mroIn K (He.ga K (Str.ofString x)) (.type "object") = some true)))))) &&
  (decide (PySem.W.kitOne K (.ref (He.ga K (Str.ofString x))) (.type "ValueError") = some true) && ((vtNames.all fun t => decide (PySem.W.kitOne K (.type t) (.ref (He.ga K (Str.ofString x))) = some false)) && cs.all (exPB K x)))))
/-- a class's statement -/
def clsB (s : Stmt) (j : Nat) : Stmt := match s with
  | .ClassDef _ _ _ b _ _ _ _ _ _ p => b.getD j (.Pass p)
  | s => s
/-- a def of the text, or a class's -/
structure Ent where
  name : String
  fd : Fd
  N : List String
  st : Stmt
  cls : Option String := none
def Ent.x (e : Ent) : Str := Str.ofString e.name
def Ent.loc (e : Ent) : Str × Option Str := match e.cls with
  | none => (e.x, none)
  | some c => (Str.ofString c, some e.x)
def Ent.qual (e : Ent) : Str := match e.cls with
  | none => e.x
  | some c => Str.ofString (c ++ "." ++ e.name)
def dvOf : D → Option He.Dv
  | .non => some .non
  | .bl b => some (.bl b)
  | .int i => some (.int i)
  | .str z => if szOk z.length = true then some (.str (tx z)) else none
  | _ => none
def dvsOf : List D → Option (List He.Dv)
  | [] => some []
  | d :: r => (dvOf d).bind fun x => (dvsOf r).map (x :: ·)
mutual
/-- does a value of the written part hold this -/
def valB (K : PySem.W.Frag) : D → Value → Bool
  | .non, .none => true
  | .bl a, .bool b => a == b
  | .int i, .int j _ => decide (i = j)
  | .str z, .str y _ => decide (y = tx z) && szOk z.length
  | .tup ds, .ref a => (match K.lookup a with
    | some ⟨.type c, none, .seq its _, _⟩ => decide (c = "tuple") && (decide (its.size ≤ sizeLine) && valsB K ds its.toList)
    | _ => false)
  | _, _ => false
def valsB (K : PySem.W.Frag) : List D → List Value → Bool
  | [], [] => true
  | d :: ds, u :: us => valB K d u && valsB K ds us
  | _, _ => false
end
/-- a written dict's keys are these texts -/
def keysB (K : PySem.W.Frag) (a : Addr) (ks : List Nm) : Bool := match K.lookup a with
  | some ⟨_, _, .dict es _, _⟩ => es.toList.all fun e => match e.key with
    | .str x _ => ks.any fun k => decide (x = tx k)
    | _ => false
  | _ => false
def entB (K : PySem.W.Frag) (a : Addr) : List (Nm × D) → Bool
  | [] => true
  | (k, d) :: r => (match PySem.W.nsIn K a (tx k) with
    | some (some u) => valB K d u
    | _ => false) && entB K a r
def cstB (K : PySem.W.Frag) (x : String) (d : D) : Bool := match d with
  | .kdic kvs => (He.Fa.glo (Str.ofString x)).ok K && (keysB K (He.ga K (Str.ofString x)) (kvs.map (·.1)) && entB K (He.ga K (Str.ofString x)) kvs)
  | d => match PySem.W.nsIn K mainGlobals (Str.ofString x) with
    | some (some u) => valB K d u
    | _ => false
/-- the tables -/
def tabOf (p : String × D) : Option He.Tab := match p.2 with
  | .kdic kvs => some (fun K => He.ga K (Str.ofString p.1), kvs.map fun q => tx q.1)
  | _ => none
def tabT (cs : List (String × D)) : List He.Tab := cs.filterMap tabOf
def defE (e : Ent) : He.DefD := ⟨e.loc, e.x, e.qual, defArgs e.st, defBody e.st, defScope e.st, [], []⟩
def fnT (T : List Ent) : List He.DefD := T.map defE
def faC (i : CI) : List He.Fa := [.glo (Str.ofString i.c), .cls (Str.ofString i.c)] ++ (i.fs.map (fun f => .noat (Str.ofString i.c) (Str.ofString f)) ++ (i.ms.map (fun p => .meth (Str.ofString i.c) (Str.ofString p.1)) ++ (match i.ini with
  | none => []
  | some _ => [.mkr (Str.ofString i.c)])))
def isGlo (e : Ent) : Bool := e.cls.isNone
def faT (T : List Ent) (ci : List CI) : List He.Fa := (T.filter isGlo).map (fun e => He.Fa.glo e.x) ++ (bltNames.map (fun b => He.Fa.free (Str.ofString b)) ++ ci.flatMap faC)
def exT (cs : List (String × D)) (K : PySem.W.Frag) : Bool := cs.all fun p => match p.2 with
  | .exc _ l => exKB K cs p.1 l
  | d => cstB K p.1 d
end Ev
set_option maxHeartbeats 0
/-! the little programs of k01, printed by genlaw.py -/
namespace Ev
abbrev F_is_long : Nat := 0
abbrev F_length_of : Nat := 1
abbrev F_long_years : Nat := 2
abbrev F_days_ahead : Nat := 3
abbrev F_is_date : Nat := 4
abbrev F_day_at : Nat := 5
abbrev F_day_of : Nat := 6
abbrev F_date_of : Nat := 7
abbrev F__law_mixed : Nat := 8
abbrev F__law_pack : Nat := 9
abbrev F__law_take : Nat := 10
abbrev F__law_length : Nat := 11
abbrev F__law_ahead : Nat := 12
abbrev F__law_day : Nat := 13
abbrev F__law_date : Nat := 14
abbrev F__law_drawn_date : Nat := 15
abbrev F__law_whole : Nat := 16
abbrev F__law_refused : Nat := 17
abbrev F__law_no_date : Nat := 18
abbrev F__law_right : Nat := 19
abbrev F_law : Nat := 20
def c_LENGTHS : D := (.tup [(.int 31), (.int 28), (.int 31), (.int 30), (.int 31), (.int 30), (.int 31), (.int 31), (.int 30), (.int 31), (.int 30), (.int 31)])
def c_FIRST_YEAR : D := (.int 2000)
def c_LAST_YEAR : D := (.int 9999)
def b_is_long : Fd where
  ps := 1
  nn := 1
  body := [
  .ret (.bop false [.cmp .eq (.bin .mod (.var 0) (.cst (.int 400))) (.cst (.int 0)), .bop true [.cmp .eq (.bin .mod (.var 0) (.cst (.int 4))) (.cst (.int 0)), .cmp .ne (.bin .mod (.var 0) (.cst (.int 100))) (.cst (.int 0))]])]

def b_length_of : Fd where
  ps := 2
  nn := 2
  body := [
  .ret (.bin .add (.idx (.glo "LENGTHS" c_LENGTHS) (.bin .sub (.var 1) (.cst (.int 1)))) (.blt .int [.bop true [.cmp .eq (.var 1) (.cst (.int 2)), .call F_is_long [.var 0]]]))]

def b_long_years : Fd where
  ps := 1
  nn := 1
  body := [
  .ret (.bin .add (.bin .sub (.bin .fdv (.var 0) (.cst (.int 4))) (.bin .fdv (.var 0) (.cst (.int 100)))) (.bin .fdv (.var 0) (.cst (.int 400))))]

def b_days_ahead : Fd where
  ps := 1
  nn := 1
  body := [
  .ret (.bin .sub (.bin .add (.bin .mul (.cst (.int 365)) (.bin .sub (.var 0) (.glo "FIRST_YEAR" c_FIRST_YEAR))) (.call F_long_years [.bin .sub (.var 0) (.cst (.int 1))])) (.call F_long_years [.bin .sub (.glo "FIRST_YEAR" c_FIRST_YEAR) (.cst (.int 1))]))]

def b_is_date : Fd where
  ps := 3
  nn := 3
  body := [
  .ifS (.bop false [.not (.chn .le .le (.glo "FIRST_YEAR" c_FIRST_YEAR) (.var 0) (.glo "LAST_YEAR" c_LAST_YEAR)), .not (.chn .le .le (.cst (.int 1)) (.var 1) (.cst (.int 12)))]) [
    .ret (.cst (.bl false))] [],
  .ret (.chn .le .le (.cst (.int 1)) (.var 2) (.call F_length_of [.var 0, .var 1]))]

def m_day_at_1 : Ex := .call F_length_of [.var 0, .var 3]
def b_day_at : Fd where
  ps := 3
  nn := 4
  body := [
  .ret (.bin .sub (.bin .add (.bin .add (.call F_days_ahead [.var 0]) (.blt .sum [.frz (.comp [3] .range [.cst (.int 1), .var 1] [] m_day_at_1)])) (.var 2)) (.cst (.int 1)))]

def b_day_of : Fd where
  ps := 3
  nn := 3
  body := [
  .ifS (.not (.call F_is_date [.var 0, .var 1, .var 2])) [
    .rais "NoDay" [] []] [],
  .ret (.call F_day_at [.var 0, .var 1, .var 2])]

def w_date_of_1 : Ex := .cmp .le (.call F_days_ahead [.bin .add (.var 1) (.cst (.int 1))]) (.var 0)
def l_date_of_2 : List St := [
  .asg (.nm 1) (.bin .add (.var 1) (.cst (.int 1)))]
def w_date_of_3 : Ex := .cmp .ge (.var 2) (.call F_length_of [.var 1, .var 3])
def l_date_of_4 : List St := [
  .asg (.nm 2) (.bin .sub (.var 2) (.call F_length_of [.var 1, .var 3])),
  .asg (.nm 3) (.bin .add (.var 3) (.cst (.int 1)))]
def b_date_of : Fd where
  ps := 1
  nn := 4
  body := [
  .asg (.nm 1) (.bin .add (.glo "FIRST_YEAR" c_FIRST_YEAR) (.bin .fdv (.var 0) (.cst (.int 366)))),
  .whl w_date_of_1 l_date_of_2,
  .asg (.nm 2) (.bin .sub (.var 0) (.call F_days_ahead [.var 1])),
  .asg (.nm 3) (.cst (.int 1)),
  .whl w_date_of_3 l_date_of_4,
  .ret (.tup [.var 1, .var 3, .bin .add (.var 2) (.cst (.int 1))])]

def b__law_mixed : Fd where
  ps := 1
  nn := 1
  body := [
  .ret (.bin .mod (.bin .mul (.var 0) (.cst (.int 161803398874989484820458683436563811772030917980576286213547))) (.bin .pow (.cst (.int 10)) (.cst (.int 60))))]

def b__law_pack : Fd where
  ps := 2
  nn := 2
  body := [
  .ifS (.cmp .lt (.var 1) (.blt .len [.var 0])) [
    .retW (.lst [.call F__law_mixed [.bin .add (.idx (.var 0) (.var 1)) (.bin .mul (.cst (.int 31)) (.var 1))]])] [],
  .retW (.lst [.call F__law_mixed [.bin .add (.bin .mul (.cst (.int 7919)) (.var 1)) (.cst (.int 11))]])]

def b__law_take : Fd where
  ps := 2
  nn := 3
  body := [
  .unp [.sub (.var 0) (.cst (.int 0)), .nm 2] (.blt .divmod [.idx (.var 0) (.cst (.int 0)), .var 1]),
  .ret (.var 2)]

def b__law_length : Fd where
  ps := 2
  nn := 2
  body := [
  .ifS (.bop true [.cmp .eq (.var 1) (.cst (.int 2)), .bop false [.cmp .ne (.bin .mod (.var 0) (.cst (.int 4))) (.cst (.int 0)), .bop true [.cmp .eq (.bin .mod (.var 0) (.cst (.int 100))) (.cst (.int 0)), .cmp .ne (.bin .mod (.var 0) (.cst (.int 400))) (.cst (.int 0))]]]) [
    .ret (.cst (.int 28))] [],
  .ret (.idx (.frz (.lst [.cst (.int 31), .cst (.int 29), .cst (.int 31), .cst (.int 30), .cst (.int 31), .cst (.int 30), .cst (.int 31), .cst (.int 31), .cst (.int 30), .cst (.int 31), .cst (.int 30), .cst (.int 31)])) (.bin .sub (.var 1) (.cst (.int 1))))]

def b__law_ahead : Fd where
  ps := 1
  nn := 2
  body := [
  .asg (.nm 1) (.bin .sub (.var 0) (.cst (.int 2000))),
  .ret (.bin .add (.bin .sub (.bin .add (.bin .mul (.cst (.int 365)) (.var 1)) (.bin .fdv (.bin .add (.var 1) (.cst (.int 3))) (.cst (.int 4)))) (.bin .fdv (.bin .add (.var 1) (.cst (.int 99))) (.cst (.int 100)))) (.bin .fdv (.bin .add (.var 1) (.cst (.int 399))) (.cst (.int 400))))]

def m__law_day_1 : Ex := .call F__law_length [.var 1, .var 4]
def b__law_day : Fd where
  ps := 1
  nn := 5
  body := [
  .unp [.nm 1, .nm 2, .nm 3] (.var 0),
  .ret (.bin .sub (.bin .add (.bin .add (.call F__law_ahead [.var 1]) (.blt .sum [.frz (.comp [4] .range [.cst (.int 1), .var 2] [] m__law_day_1)])) (.var 3)) (.cst (.int 1)))]

def w__law_date_1 : Ex := .cmp .le (.call F__law_ahead [.bin .add (.var 1) (.cst (.int 1))]) (.var 0)
def l__law_date_2 : List St := [
  .asg (.nm 1) (.bin .add (.var 1) (.cst (.int 1)))]
def w__law_date_3 : Ex := .cmp .gt (.var 3) (.call F__law_length [.var 1, .var 2])
def l__law_date_4 : List St := [
  .asg (.nm 3) (.bin .sub (.var 3) (.call F__law_length [.var 1, .var 2])),
  .asg (.nm 2) (.bin .add (.var 2) (.cst (.int 1)))]
def b__law_date : Fd where
  ps := 1
  nn := 4
  body := [
  .asg (.nm 1) (.bin .add (.cst (.int 2000)) (.bin .fdv (.var 0) (.cst (.int 366)))),
  .whl w__law_date_1 l__law_date_2,
  .par [2, 3] [.cst (.int 1), .bin .add (.bin .sub (.var 0) (.call F__law_ahead [.var 1])) (.cst (.int 1))],
  .whl w__law_date_3 l__law_date_4,
  .ret (.tup [.var 1, .var 2, .var 3])]

def b__law_drawn_date : Fd where
  ps := 2
  nn := 8
  body := [
  .asg (.nm 2) (.bin .sub (.bin .add (.bin .add (.cst (.int 2000)) (.bin .mul (.cst (.int 100)) (.call F__law_take [.var 0, .bin .add (.cst (.int 1)) (.bin .fdv (.bin .sub (.var 1) (.cst (.int 2000))) (.cst (.int 100)))]))) (.call F__law_take [.var 0, .cst (.int 3)])) (.cst (.int 1))),
  .asg (.nm 3) (.bin .add (.cst (.int 2000)) (.call F__law_take [.var 0, .bin .sub (.var 1) (.cst (.int 1999))])),
  .asg (.nm 4) (.idx (.frz (.lst [.var 3, .var 3, .blt .min [.var 1, .blt .max [.cst (.int 2000), .var 2]]])) (.call F__law_take [.var 0, .cst (.int 3)])),
  .asg (.nm 5) (.idx (.frz (.lst [.bin .add (.cst (.int 1)) (.call F__law_take [.var 0, .cst (.int 12)]), .cst (.int 2)])) (.blt .int [.cmp .eq (.call F__law_take [.var 0, .cst (.int 4)]) (.cst (.int 0))])),
  .asg (.nm 6) (.call F__law_length [.var 4, .var 5]),
  .asg (.nm 7) (.idx (.frz (.lst [.bin .add (.cst (.int 1)) (.call F__law_take [.var 0, .var 6]), .var 6, .cst (.int 1), .blt .min [.var 6, .cst (.int 28)]])) (.call F__law_take [.var 0, .cst (.int 4)])),
  .ret (.tup [.var 4, .var 5, .var 7])]

def b__law_whole : Fd where
  ps := 1
  nn := 1
  body := [
  .ret (.bop true [.isi (.var 0) ["int"], .not (.isi (.var 0) ["bool"])])]

def b__law_refused : Fd where
  ps := 1
  nn := 3
  body := [
  .asg (.nm 1) (.cst (.non)),
  .tryS [
    .exp (.call F_day_of [.idx (.var 0) (.cst (.int 0)), .idx (.var 0) (.cst (.int 1)), .idx (.var 0) (.cst (.int 2))])] "ArchiveError" [2] [.asg (.nm 1) (.var 2), .kill [2]],
  .ifS (.isi (.var 1) ["GoneMaker", "Held", "MustStay", "NoCall", "NoDeed", "NoLeave", "NoNumber", "NoPaper", "NoText", "Twice"]) [
    .ret (.cst (.bl false))] [],
  .ret (.bop true [.isi (.var 1) ["NoDay"], .isi (.var 1) ["ValueError"]])]

def b__law_no_date : Fd where
  ps := 2
  nn := 9
  body := [
  .unp [.nm 6, .nm 7, .nm 8] (.var 0),
  .asg (.nm 2) (.idx (.frz (.lst [.cst (.int 0), .cst (.int 13), .neg (.cst (.int 1)), .bin .sub (.cst (.int 0)) (.var 7), .bin .add (.cst (.int 12)) (.var 7), .bin .pow (.cst (.int 10)) (.cst (.int 9))])) (.call F__law_take [.var 1, .cst (.int 6)])),
  .asg (.nm 3) (.idx (.frz (.lst [.cst (.int 0), .bin .add (.call F__law_length [.var 6, .var 7]) (.cst (.int 1)), .cst (.int 32), .neg (.cst (.int 1)), .bin .sub (.cst (.int 0)) (.var 8), .bin .add (.cst (.int 100)) (.var 8)])) (.call F__law_take [.var 1, .cst (.int 6)])),
  .asg (.nm 4) (.idx (.frz (.lst [.cst (.int 1999), .cst (.int 10000), .cst (.int 0), .bin .sub (.cst (.int 0)) (.var 6), .bin .pow (.cst (.int 10)) (.cst (.int 9)), .bin .add (.cst (.int 1900)) (.call F__law_take [.var 1, .cst (.int 100)])])) (.call F__law_take [.var 1, .cst (.int 6)])),
  .asg (.nm 5) (.frz (.lst [.tup [.var 6, .var 2, .var 8], .tup [.var 6, .var 7, .var 3], .tup [.var 4, .var 7, .var 8]])),
  .asg (.nm 5) (.frz (.cat (.var 5) (.frz (.lst [.tup [.var 4, .var 2, .var 8], .tup [.var 6, .var 2, .var 3], .tup [.var 4, .var 7, .var 3]])))),
  .ret (.idx (.var 5) (.call F__law_take [.var 1, .cst (.int 6)]))]

def m__law_right_1 : Ex := .call F__law_whole [.var 4]
def b__law_right : Fd where
  ps := 1
  nn := 5
  body := [
  .asg (.nm 1) (.call F__law_day [.var 0]),
  .asg (.nm 2) (.call F_day_of [.idx (.var 0) (.cst (.int 0)), .idx (.var 0) (.cst (.int 1)), .idx (.var 0) (.cst (.int 2))]),
  .ifS (.bop false [.not (.call F__law_whole [.var 2]), .cmp .ne (.var 2) (.var 1)]) [
    .ret (.cst (.bl false))] [],
  .asg (.nm 3) (.call F_date_of [.var 2]),
  .ifS (.bop false [.not (.isi (.var 3) ["tuple"]), .cmp .ne (.blt .len [.var 3]) (.cst (.int 3)), .not (.blt .all [.frz (.comp [4] .seq [.var 3] [] m__law_right_1)])]) [
    .ret (.cst (.bl false))] [],
  .ret (.cmp .eq (.var 3) (.var 0))]

def l_law_1 : List St := [
  .asg (.nm 2) (.cel (.call F__law_pack [.var 0, .var 1])),
  .asg (.nm 3) (.idx (.frz (.lst [.cst (.int 2273), .cst (.int 9999)])) (.blt .int [.cmp .eq (.call F__law_take [.var 2, .cst (.int 4)]) (.cst (.int 0))])),
  .asg (.nm 4) (.call F__law_drawn_date [.var 2, .var 3]),
  .ifS (.bop false [.not (.call F__law_refused [.call F__law_no_date [.var 4, .var 2]]), .not (.call F__law_right [.var 4])]) [
    .ret (.cst (.bl false))] [],
  .asg (.nm 5) (.call F__law_date [.bin .add (.call F__law_day [.var 4]) (.cst (.int 1))]),
  .ifS (.bop true [.cmp .lt (.idx (.var 5) (.cst (.int 0))) (.cst (.int 10000)), .not (.call F__law_right [.var 5])]) [
    .ret (.cst (.bl false))] [],
  .ifS (.not (.call F__law_refused [.call F__law_no_date [.var 4, .var 2]])) [
    .ret (.cst (.bl false))] []]
def b_law : Fd where
  ps := 1
  nn := 6
  body := [
  .forS [1] .range [.blt .max [.cst (.int 1), .blt .min [.blt .len [.var 0], .cst (.int 16)]]] l_law_1,
  .ret (.bop true [.cmp .eq (.call F_day_of [.cst (.int 2000), .cst (.int 1), .cst (.int 1)]) (.cst (.int 0)), .cmp .eq (.call F_date_of [.cst (.int 0)]) (.tup [.cst (.int 2000), .cst (.int 1), .cst (.int 1)])])]

def tab : List Fd := [b_is_long, b_length_of, b_long_years, b_days_ahead, b_is_date, b_day_at, b_day_of, b_date_of, b__law_mixed, b__law_pack, b__law_take, b__law_length, b__law_ahead, b__law_day, b__law_date, b__law_drawn_date, b__law_whole, b__law_refused, b__law_no_date, b__law_right, b_law]
end Ev
set_option maxHeartbeats 0
namespace HT
open PySem PySem.Spec PyProof.Rows L2 Ev
def top (i : Nat) : Stmt := PySem.Challenge.pw_goneday_k01_days_and_dates.main.body.getD i (.Pass ⟨0, 0, 0, 0⟩)
def ents : List Ent := [⟨"is_long", b_is_long, ["year"], top 17, none⟩, ⟨"length_of", b_length_of, ["year", "month"], top 18, none⟩, ⟨"long_years", b_long_years, ["year"], top 19, none⟩, ⟨"days_ahead", b_days_ahead, ["year"], top 20, none⟩, ⟨"is_date", b_is_date, ["year", "month", "day"], top 21, none⟩, ⟨"day_at", b_day_at, ["year", "month", "day", "ahead"], top 22, none⟩, ⟨"day_of", b_day_of, ["year", "month", "day"], top 23, none⟩, ⟨"date_of", b_date_of, ["day", "year", "left", "month"], top 24, none⟩, ⟨"_law_mixed", b__law_mixed, ["_law_cell"], top 26, none⟩, ⟨"_law_pack", b__law_pack, ["_law_script", "_law_k"], top 27, none⟩, ⟨"_law_take", b__law_take, ["_law_pack_here", "_law_size", "_law_digit"], top 28, none⟩, ⟨"_law_length", b__law_length, ["_law_year", "_law_month"], top 29, none⟩, ⟨"_law_ahead", b__law_ahead, ["_law_year", "_law_gone"], top 30, none⟩, ⟨"_law_day", b__law_day, ["_law_date_here", "_law_year", "_law_month", "_law_number", "_law_k"], top 31, none⟩, ⟨"_law_date", b__law_date, ["_law_day_here", "_law_year", "_law_month", "_law_number"], top 32, none⟩, ⟨"_law_drawn_date", b__law_drawn_date, ["_law_pack_here", "_law_most", "_law_century", "_law_any_year", "_law_year", "_law_month", "_law_last", "_law_number"], top 33, none⟩, ⟨"_law_whole", b__law_whole, ["_law_thing"], top 34, none⟩, ⟨"_law_refused", b__law_refused, ["_law_date_here", "_law_caught", "e"], top 35, none⟩, ⟨"_law_no_date", b__law_no_date, ["_law_date_here", "_law_pack_here", "_law_odd_month", "_law_odd_number", "_law_odd_year", "_law_some", "_law_year", "_law_month", "_law_number"], top 36, none⟩, ⟨"_law_right", b__law_right, ["_law_date_here", "_law_day_here", "_law_told", "_law_found", "_law_part"], top 37, none⟩, ⟨"law", b_law, ["_law_script", "_law_k", "_law_pack_here", "_law_most", "_law_date_here", "_law_behind"], top 38, none⟩]
def cs : List (String × D) := [("LENGTHS", c_LENGTHS), ("FIRST_YEAR", c_FIRST_YEAR), ("LAST_YEAR", c_LAST_YEAR), ("ArchiveError", .exc "ArchiveError" []), ("NoDay", .exc "NoDay" []), ("NoDeed", .exc "NoDeed" []), ("Twice", .exc "Twice" [("", .non)]), ("GoneMaker", .exc "GoneMaker" [("", .non)]), ("NoNumber", .exc "NoNumber" []), ("NoPaper", .exc "NoPaper" []), ("MustStay", .exc "MustStay" [("", .non)]), ("Held", .exc "Held" [("", .non)]), ("NoLeave", .exc "NoLeave" []), ("NoText", .exc "NoText" [("", .non)]), ("NoCall", .exc "NoCall" [("", .non)])]
def ci : List CI := []
abbrev R : PySem.W.OpenRow := PySem.W.OpenLaw.row PySem.Challenge.rw_goneday_k01_days_and_dates
abbrev hk : PySem.W.Hook := He.hookX 5 (faT ents ci) (fnT ents) (tabT cs) [] (exT cs)
def ob (s : PySem.W.SharedT) : He.AlX := He.obsX 5 (faT ents ci) (fnT ents) (tabT cs) [] (exT cs) (HandSHeadRun.getT s)
theorem ob_eq (s : PySem.W.SharedT) : ob s = hk.obs s.abs := He.obsX_eq (HandSHeadRun.getT_eq s)
def nm : List PySem.Str := (["__name__", "ArchiveError", "NoDay", "NoDeed", "Twice", "GoneMaker", "NoNumber", "NoPaper", "MustStay", "Held", "NoLeave", "NoText", "NoCall", "LENGTHS", "FIRST_YEAR", "LAST_YEAR", "is_long", "length_of", "long_years", "days_ahead"] : List PySem.Str) ++ (["is_date", "day_at", "day_of", "date_of", "_law_mixed", "_law_pack", "_law_take", "_law_length", "_law_ahead", "_law_day", "_law_date", "_law_drawn_date", "_law_whole", "_law_refused", "_law_no_date", "_law_right"] : List PySem.Str)
theorem run1 (w : World) : HandSHeadRun.RunEq R (PySem.W.view R.prog [38]) hk ob 40000 nm (w.withFollow "special-get-raises" false) := by
  intro os
  kernel_rfl
theorem run2 (w : World) : HandSHeadRun.RunEq R (PySem.W.view R.prog [38]) hk ob 40000 nm (w.withFollow "special-get-raises" true) := by
  intro os
  kernel_rfl
theorem run (w : World) : HandSHeadRun.RunEq R (PySem.W.view R.prog [38]) hk ob 40000 nm w := PySem.W.byRow2 "special-get-raises" (P := fun w => HandSHeadRun.RunEq R (PySem.W.view R.prog [38]) hk ob 40000 nm w) run1 run2 w
end HT
set_option maxHeartbeats 1000000
/-! Ev, part 2: how trees and the store lie in the layer's abstract heap. -/
namespace Ev
open PySem PySem.Spec PyProof.Rows L2

/-- the written part, the names of the functions that are values -/
structure Kx where
  K : PySem.W.Frag
  w : World
  nm : Nat → Str
  /-- the classes of errors -/
  es : List String
theorem tx_inj {x y : Nm} (h : tx x = tx y) : x = y := by
  have e : x.toArray = y.toArray := congrArg Str.cps h
  simpa using e
theorem tx_app (x y : Nm) : tx (x ++ y) = tx x ++ tx y := by
  show (⟨(x ++ y).toArray⟩ : Str) = ⟨x.toArray ++ y.toArray⟩
  simp
theorem tx_len (x : Nm) : (tx x).length = x.length := by
  show x.toArray.size = x.length
  simp
theorem tx_list (x : Nm) : (tx x).cps.toList = x := by simp [tx]
def kx : Ky → L2.Key
  | .inl i => .inl i
  | .inr x => .inr (tx x)
theorem kx_inj {a b : Ky} (h : kx a = kx b) : a = b := by
  cases a <;> cases b
  · exact congrArg Sum.inl (Sum.inl.inj h)
  · cases h
  · cases h
  · exact congrArg Sum.inr (tx_inj (Sum.inr.inj h))

def kyOk : Ky → Bool
  | .inl _ => true
  | .inr x => szOk x.length
def KLst (K : PySem.W.Frag) (a : Addr) (xs : List V) : Prop :=
  ∃ (o : Obj) (its : Array Value) (n : Nat), K.lookup a = some o ∧ o.cls = .type "list" ∧ o.dict = none ∧ o.data = .seq its n ∧ its.size ≤ sizeLine ∧ Vals xs its.toList
/-- a written dict with text keys -/
structure KDic (κ : Kx) (a : Addr) (ks : List Nm) : Prop where
  low : (a == sysModules) = false
  non : ∀ z : Nm, z ∉ ks → PySem.W.nsIn κ.K a (tx z) = some none
  lit : ∃ es n, KDict κ.K κ.w a es n
/-- a caught exception, kept as a value -/
def excO (a C : Addr) (dx : Option Addr) : HO := .ext fun h => ∃ o, h.get? a = some o ∧ o.cls = .ref C ∧ o.dict = dx ∧ ∃ vs, o.data = .fields vs
/-- what never changes -/
def imm : HO → Prop
  | .tup _ => True
  | .frz _ _ => True
  | .ext _ => True
  | _ => False
/-- a thing that is frozen -/
def Frz (H : Hp) (a : Addr) (u : HO) : Prop := ∃ o, H a = some (.frz o u)
theorem Frz.rd {H : Hp} {a : Addr} {u : HO} (h : Frz H a u) : Rd H a u := .inr h
/-- no attribute but these -/
def OnlyF (fs : List (String × D)) (fvs : List (Str × V)) : Prop := ∀ g : String, lookF fs g = none → fvs.lookup (Str.ofString g) = none

/-- a tuple without a dict of its own -/
def PlT (K : PySem.W.Frag) (H : Hp) (a : Addr) : Prop := (∃ o u, H a = some (.frz o (.tup u)) ∧ o.dict = none) ∨ ∃ o, K.lookup a = some o ∧ o.dict = none
structure SqP (K : PySem.W.Frag) (H : Hp) (a : Addr) (vs : List V) : Prop where
  sq : SqT K H a vs
  pl : PlT K H a
mutual
def IsD (κ : Kx) (as : List Addr) (H : Hp) : D → V → Prop
  | .non, v => v = .non
  | .bl b, v => v = .bl b
  | .int i, v => v = .int i
  | .str x, v => v = .str (tx x) ∧ szOk x.length = true
  | .ref i, v => ∃ a, as[i]? = some a ∧ v = .ref a
  | .fn k, v => v = .ref (He.ga κ.K (κ.nm k))
  | .tup ds, v => ∃ a vs, v = .ref a ∧ SqP κ.K H a vs ∧ IsDs κ as H ds vs
  | .scr ns, v => ∃ a, v = .ref a ∧ (Frz H a (.lst (ns.map V.int)) ∨ KLst κ.K a (ns.map V.int))
  | .lst ds, v => ∃ a vs, v = .ref a ∧ Frz H a (.lst vs) ∧ IsDs κ as H ds vs
  | .dic kvs, v => ∃ a kws, v = .ref a ∧ Frz H a (.dK kws) ∧ IsKs κ as H kvs kws
  | .kdic kvs, v => ∃ a, v = .ref a ∧ KDic κ a (kvs.map (·.1)) ∧ IsZs κ as H a kvs
  | .obj c fs, v => ∃ a dx fvs, v = .ref a ∧ Frz H a (.ins (He.ga κ.K (Str.ofString c)) dx fvs) ∧ OnlyF fs fvs ∧ IsFs κ as H fs fvs
  | .exc c fs, v => ∃ a, v = .ref a ∧ H a = some (excO a (He.ga κ.K (Str.ofString c)) none) ∧ (fs = [] ∧ c ∈ κ.es)
def IsDs (κ : Kx) (as : List Addr) (H : Hp) : List D → List V → Prop
  | [], [] => True
  | d :: ds, v :: vs => IsD κ as H d v ∧ IsDs κ as H ds vs
  | _, _ => False
def IsKs (κ : Kx) (as : List Addr) (H : Hp) : List (Ky × D) → List (L2.Key × V) → Prop
  | [], [] => True
  | (k, d) :: ds, (q, v) :: vs => (q = kx k ∧ kyOk k = true) ∧ IsD κ as H d v ∧ IsKs κ as H ds vs
  | _, _ => False
/-- what a written dict holds -/
def IsZs (κ : Kx) (as : List Addr) (H : Hp) (a : Addr) : List (Nm × D) → Prop
  | [] => True
  | (k, d) :: r => (∃ u v, PySem.W.nsIn κ.K a (tx k) = some (some u) ∧ RelV v u ∧ IsD κ as H d v) ∧ IsZs κ as H a r
def IsFs (κ : Kx) (as : List Addr) (H : Hp) : List (String × D) → List (Str × V) → Prop
  | [], _ => True
  | (f, d) :: ds, fvs => (∃ v, fvs.lookup (Str.ofString f) = some v ∧ IsD κ as H d v) ∧ IsFs κ as H ds fvs
end

def RepC (κ : Kx) (as : List Addr) (H : Hp) (a : Addr) : Cell → Prop
  | .lst ds => ∃ vs, H a = some (.lst vs) ∧ IsDs κ as H ds vs
  | .dct kvs => ∃ kws, H a = some (.dK kws) ∧ IsKs κ as H kvs kws
  | .obj g c fs => ∃ dx fvs, H a = some (.ins (He.ga κ.K (Str.ofString c)) dx fvs) ∧ OnlyF fs fvs ∧ IsFs κ as H fs fvs ∧ (∀ x, g = some x → x = a) ∧ fvs.length ≤ fs.length
structure RepS (κ : Kx) (as : List Addr) (H : Hp) (S : Sto) : Prop where
  len : as.length = S.length
  nd : as.Nodup
  cell : ∀ (i : Nat) (a : Addr) (c : Cell), as[i]? = some a → S[i]? = some c → RepC κ as H a c

/-- what is fixed stays, and what is none of the cells; the cells grow by new ones -/
def Imm (H H' : Hp) : Prop := ∀ a o, H a = some o → imm o → H' a = some o
structure Step (as : List Addr) (H : Hp) (as' : List Addr) (H' : Hp) : Prop where
  ext : ∃ t, as' = as ++ t ∧ ∀ a ∈ t, H a = none
  imm : Imm H H'
  keep : ∀ a o, H a = some o → a ∉ as → H' a = some o
  there : ∀ a, H a ≠ none → H' a ≠ none
theorem Step.refl {as : List Addr} {H : Hp} : Step as H as H := ⟨⟨[], by simp⟩, fun _ _ h _ => h, fun _ _ h _ => h, fun _ h => h⟩
theorem Step.trans {as as1 as2 : List Addr} {H H1 H2 : Hp} (a : Step as H as1 H1) (b : Step as1 H1 as2 H2) : Step as H as2 H2 := by
  obtain ⟨t, e, f⟩ := a.ext
  obtain ⟨t2, e2, f2⟩ := b.ext
  subst e e2
  refine ⟨⟨t ++ t2, by simp, fun x hx => ?_⟩, fun x o h n => b.imm x o (a.imm x o h n) n, fun x o h n => ?_, fun x h => b.there x (a.there x h)⟩
  · rcases List.mem_append.mp hx with hx | hx
    · exact f x hx
    · have := f2 x hx
      cases q : H x with
      | none => rfl
      | some o => exact absurd this (a.there x (by rw [q]; simp))
  · refine b.keep x o (a.keep x o h n) fun z => ?_
    rcases List.mem_append.mp z with z | z
    · exact n z
    · rw [f x z] at h; cases h
theorem Step.pre {as as' : List Addr} {H H' : Hp} (a : Step as H as' H') {i : Nat} {x : Addr} (h : as[i]? = some x) : as'[i]? = some x := by
  obtain ⟨t, e, _⟩ := a.ext
  subst e
  rw [List.getElem?_append_left (List.getElem?_eq_some_iff.mp h).1]
  exact h
theorem Step.notin {as as' : List Addr} {H H' : Hp} (a : Step as H as' H') {x : Addr} {o : HO} (h : H x = some o) (n : x ∉ as) : x ∉ as' := by
  obtain ⟨t, e, f⟩ := a.ext
  subst e
  intro z
  rcases List.mem_append.mp z with z | z
  · exact n z
  · rw [f x z] at h; cases h

theorem Imm.frz {H H' : Hp} (st : Imm H H') {a : Addr} {u : HO} (r : Frz H a u) : Frz H' a u :=
  let ⟨o, r⟩ := r
  ⟨o, st a _ r True.intro⟩
theorem Imm.sqT {K : PySem.W.Frag} {H H' : Hp} (st : Imm H H') {a : Addr} {vs : List V} (r : SqT K H a vs) : SqT K H' a vs := by
  rcases r with (r | ⟨o, r⟩) | r
  · exact .inl (.inl (st a _ r True.intro))
  · exact .inl (.inr ⟨o, st a _ r True.intro⟩)
  · exact .inr r
theorem Imm.plT {K : PySem.W.Frag} {H H' : Hp} (st : Imm H H') {a : Addr} (r : PlT K H a) : PlT K H' a := by
  rcases r with ⟨o, u, r, h⟩ | r
  · exact .inl ⟨o, u, st a _ r True.intro, h⟩
  · exact .inr r
theorem Imm.sqP {K : PySem.W.Frag} {H H' : Hp} (st : Imm H H') {a : Addr} {vs : List V} (r : SqP K H a vs) : SqP K H' a vs := ⟨st.sqT r.sq, st.plT r.pl⟩
theorem Imm.refl {H : Hp} : Imm H H := fun _ _ h _ => h
/-- the cells' addresses grow -/
def Pre (as as' : List Addr) : Prop := ∀ (i : Nat) (a : Addr), as[i]? = some a → as'[i]? = some a
section
variable {κ : Kx} {as as' : List Addr} {H H' : Hp} {S S' : Sto}
mutual
theorem IsD.mono (pr : Pre as as') (st : Imm H H') : ∀ {d : D} {v : V}, IsD κ as H d v → IsD κ as' H' d v
  | .non, _, h => h
  | .bl _, _, h => h
  | .int _, _, h => h
  | .str _, _, h => h
  | .fn _, _, h => h
  | .ref _, _, h => by
    obtain ⟨a, h1, h2⟩ := h
    exact ⟨a, pr _ _ h1, h2⟩
  | .tup ds, _, h => by
    obtain ⟨a, vs, e, h1, h2⟩ := h
    exact ⟨a, vs, e, st.sqP h1, IsDs.mono pr st h2⟩
  | .lst ds, _, h => by
    obtain ⟨a, vs, e, h1, h2⟩ := h
    exact ⟨a, vs, e, st.frz h1, IsDs.mono pr st h2⟩
  | .scr ns, _, h => by
    obtain ⟨a, e, h1⟩ := h
    exact ⟨a, e, h1.imp st.frz id⟩
  | .dic kvs, _, h => by
    obtain ⟨a, kws, e, r, h2⟩ := h
    exact ⟨a, kws, e, st.frz r, IsKs.mono pr st h2⟩
  | .kdic kvs, _, h => by
    obtain ⟨a, e, r, h2⟩ := h
    exact ⟨a, e, r, IsZs.mono pr st h2⟩
  | .obj c fs, _, h => by
    obtain ⟨a, dx, fvs, e, r, o, h2⟩ := h
    exact ⟨a, dx, fvs, e, st.frz r, o, IsFs.mono pr st h2⟩
  | .exc c fs, _, h => by
    obtain ⟨a, e, h1, h2⟩ := h
    exact ⟨a, e, st a _ h1 True.intro, h2⟩
theorem IsDs.mono (pr : Pre as as') (st : Imm H H') : ∀ {ds : List D} {vs : List V}, IsDs κ as H ds vs → IsDs κ as' H' ds vs
  | [], [], _ => True.intro
  | _ :: _, _ :: _, h => ⟨IsD.mono pr st h.1, IsDs.mono pr st h.2⟩
  | [], _ :: _, h => h.elim
  | _ :: _, [], h => h.elim
theorem IsKs.mono (pr : Pre as as') (st : Imm H H') : ∀ {ds : List (Ky × D)} {vs : List (L2.Key × V)}, IsKs κ as H ds vs → IsKs κ as' H' ds vs
  | [], [], _ => True.intro
  | (_, _) :: _, (_, _) :: _, h => ⟨h.1, IsD.mono pr st h.2.1, IsKs.mono pr st h.2.2⟩
  | [], _ :: _, h => h.elim
  | (_, _) :: _, [], h => h.elim
theorem IsZs.mono {a : Addr} (pr : Pre as as') (st : Imm H H') : ∀ {ds : List (Nm × D)}, IsZs κ as H a ds → IsZs κ as' H' a ds
  | [], _ => True.intro
  | (_, _) :: _, h => ⟨let ⟨u, v, h1, h2, h3⟩ := h.1; ⟨u, v, h1, h2, IsD.mono pr st h3⟩, IsZs.mono pr st h.2⟩
theorem IsFs.mono (pr : Pre as as') (st : Imm H H') : ∀ {ds : List (String × D)} {vs : List (Str × V)}, IsFs κ as H ds vs → IsFs κ as' H' ds vs
  | [], _, _ => True.intro
  | (_, _) :: _, _, h => ⟨let ⟨v, h1, h2⟩ := h.1; ⟨v, h1, IsD.mono pr st h2⟩, IsFs.mono pr st h.2⟩
end
theorem Step.pr (st : Step as H as' H') : Pre as as' := fun _ _ h => st.pre h
theorem IsD.step (st : Step as H as' H') {d : D} {v : V} (h : IsD κ as H d v) : IsD κ as' H' d v := h.mono st.pr st.imm
theorem IsDs.step (st : Step as H as' H') {d : List D} {v : List V} (h : IsDs κ as H d v) : IsDs κ as' H' d v := h.mono st.pr st.imm
theorem IsDs.length : ∀ {ds : List D} {vs : List V}, IsDs κ as H ds vs → ds.length = vs.length
  | [], [], _ => rfl
  | _ :: _, _ :: _, h => congrArg (· + 1) (IsDs.length h.2)
  | [], _ :: _, h => h.elim
  | _ :: _, [], h => h.elim
theorem IsKs.length : ∀ {ds : List (Ky × D)} {vs : List (L2.Key × V)}, IsKs κ as H ds vs → ds.length = vs.length
  | [], [], _ => rfl
  | (_, _) :: _, (_, _) :: _, h => congrArg (· + 1) (IsKs.length h.2.2)
  | [], _ :: _, h => h.elim
  | (_, _) :: _, [], h => h.elim
theorem IsDs.get : ∀ {ds : List D} {vs : List V} {i : Nat} {d : D}, IsDs κ as H ds vs → ds[i]? = some d → ∃ v, vs[i]? = some v ∧ IsD κ as H d v
  | [], [], _, _, _, e => by simp at e
  | _ :: _, v :: _, 0, _, h, e => by
    simp at e
    subst e
    exact ⟨v, rfl, h.1⟩
  | _ :: _, _ :: _, i + 1, d, h, e => by
    obtain ⟨v, e1, e2⟩ := IsDs.get (i := i) (d := d) h.2 (by simpa using e)
    exact ⟨v, by simpa using e1, e2⟩
  | [], _ :: _, _, _, h, _ => h.elim
  | _ :: _, [], _, _, h, _ => h.elim
theorem IsDs.get' : ∀ {ds : List D} {vs : List V} {i : Nat} {v : V}, IsDs κ as H ds vs → vs[i]? = some v → ∃ d, ds[i]? = some d ∧ IsD κ as H d v
  | [], [], _, _, _, e => by simp at e
  | d :: _, v :: _, 0, _, h, e => by
    simp at e
    subst e
    exact ⟨d, rfl, h.1⟩
  | _ :: _, _ :: _, i + 1, d, h, e => by
    obtain ⟨v, e1, e2⟩ := IsDs.get' (i := i) (v := d) h.2 (by simpa using e)
    exact ⟨v, by simpa using e1, e2⟩
  | [], _ :: _, _, _, h, _ => h.elim
  | _ :: _, [], _, _, h, _ => h.elim
theorem IsDs.append : ∀ {ds es : List D} {vs ws : List V}, IsDs κ as H ds vs → IsDs κ as H es ws → IsDs κ as H (ds ++ es) (vs ++ ws)
  | [], _, [], _, _, h => h
  | _ :: _, _, _ :: _, _, h, h' => ⟨h.1, IsDs.append h.2 h'⟩
  | [], _, _ :: _, _, h, _ => h.elim
  | _ :: _, _, [], _, h, _ => h.elim
theorem IsDs.take : ∀ {ds : List D} {vs : List V} (n : Nat), IsDs κ as H ds vs → IsDs κ as H (ds.take n) (vs.take n)
  | _, _, 0, _ => by simp [IsDs]
  | [], [], _ + 1, h => h
  | _ :: _, _ :: _, n + 1, h => ⟨h.1, IsDs.take n h.2⟩
  | [], _ :: _, _ + 1, h => h.elim
  | _ :: _, [], _ + 1, h => h.elim
theorem IsDs.drop : ∀ {ds : List D} {vs : List V} (n : Nat), IsDs κ as H ds vs → IsDs κ as H (ds.drop n) (vs.drop n)
  | _, _, 0, h => h
  | [], [], _ + 1, h => h
  | _ :: _, _ :: _, n + 1, h => IsDs.drop n h.2
  | [], _ :: _, _ + 1, h => h.elim
  | _ :: _, [], _ + 1, h => h.elim
theorem IsDs.set {d : D} {v : V} (hd : IsD κ as H d v) : ∀ {ds : List D} {vs : List V} (n : Nat), IsDs κ as H ds vs → IsDs κ as H (ds.set n d) (vs.set n v)
  | [], [], _, h => h
  | _ :: _, _ :: _, 0, h => ⟨hd, h.2⟩
  | _ :: _, _ :: _, n + 1, h => ⟨h.1, IsDs.set hd n h.2⟩
  | [], _ :: _, _, h => h.elim
  | _ :: _, [], _, h => h.elim
theorem IsDs.one {d : D} {v : V} (h : IsD κ as H d v) : IsDs κ as H [d] [v] := ⟨h, True.intro⟩
theorem IsDs.reverse : ∀ {ds : List D} {vs : List V}, IsDs κ as H ds vs → IsDs κ as H ds.reverse vs.reverse
  | [], [], _ => True.intro
  | _ :: _, _ :: _, h => by
    rw [List.reverse_cons, List.reverse_cons]
    exact (IsDs.reverse h.2).append ⟨h.1, True.intro⟩
  | [], _ :: _, h => h.elim
  | _ :: _, [], h => h.elim
theorem IsDs.mem : ∀ {ds : List D} {vs : List V}, IsDs κ as H ds vs → ∀ v ∈ vs, ∃ d ∈ ds, IsD κ as H d v
  | [], [], _ => fun v h => nomatch h
  | d :: _, w :: _, h => fun v hv => by
    rcases List.mem_cons.mp hv with rfl | hv
    · exact ⟨d, List.mem_cons_self, h.1⟩
    · obtain ⟨e, he, r⟩ := IsDs.mem h.2 v hv
      exact ⟨e, List.mem_cons_of_mem _ he, r⟩
  | [], _ :: _, h => h.elim
  | _ :: _, [], h => h.elim

/-- what a value is, a thing that may change seen as the thing that it is -/
def IsV (κ : Kx) (as : List Addr) (H : Hp) (d : D) (v : V) : Prop := match d with
  | .lst ds => ∃ a vs, v = .ref a ∧ Rd H a (.lst vs) ∧ IsDs κ as H ds vs
  | .scr ns => ∃ a, v = .ref a ∧ SqL κ.K H a (ns.map V.int)
  | .tup ds => ∃ a vs, v = .ref a ∧ SqP κ.K H a vs ∧ IsDs κ as H ds vs
  | .dic kvs => ∃ a kws, v = .ref a ∧ Rd H a (.dK kws) ∧ IsKs κ as H kvs kws
  | .obj c fs => ∃ a dx fvs, v = .ref a ∧ Rd H a (.ins (He.ga κ.K (Str.ofString c)) dx fvs) ∧ OnlyF fs fvs ∧ IsFs κ as H fs fvs
  | d => IsD κ as H d v
/-- what an expression hands back -/
def IsE (κ : Kx) (as : List Addr) (H : Hp) (w : W) (v : V) : Prop := match w with
  | .d x => IsD κ as H x v
  | .own c => ∃ a, v = .ref a ∧ a ∉ as ∧ RepC κ as H a c
theorem IsD.v {d : D} {v : V} (h : IsD κ as H d v) : IsV κ as H d v := by
  cases d with
  | lst ds =>
    obtain ⟨a, vs, e, h1, h2⟩ := h
    exact ⟨a, vs, e, h1.rd, h2⟩
  | scr ns =>
    obtain ⟨a, e, h1⟩ := h
    exact ⟨a, e, h1.elim (fun z => .inl z.rd) .inr⟩
  | tup ds =>
    obtain ⟨a, vs, e, h1, h2⟩ := h
    exact ⟨a, vs, e, h1, h2⟩
  | dic kvs =>
    obtain ⟨a, kws, e, r, h2⟩ := h
    exact ⟨a, kws, e, r.rd, h2⟩
  | obj c fs =>
    obtain ⟨a, dx, fvs, e, r, o, h2⟩ := h
    exact ⟨a, dx, fvs, e, r.rd, o, h2⟩
  | _ => exact h
theorem RepC.v {a : Addr} {c : Cell} (h : RepC κ as H a c) : IsV κ as H c.vw (.ref a) := by
  cases c with
  | lst ds =>
    obtain ⟨vs, h1, h2⟩ := h
    exact ⟨a, vs, rfl, .inl h1, h2⟩
  | dct kvs =>
    obtain ⟨kws, h1, h2⟩ := h
    exact ⟨a, kws, rfl, .inl h1, h2⟩
  | obj g c fs =>
    obtain ⟨dx, fvs, h1, h2, h3, _⟩ := h
    exact ⟨a, dx, fvs, rfl, .inl h1, h2, h3⟩
theorem IsD.vw (hS : RepS κ as H S) {d : D} {v : V} (h : IsD κ as H d v) : IsV κ as H (Ev.vw S d) v := by
  cases d with
  | ref i =>
    obtain ⟨a, e, rfl⟩ := id h
    have hi : i < as.length := (List.getElem?_eq_some_iff.mp e).1
    rw [hS.len] at hi
    have q : S[i]? = some S[i] := List.getElem?_eq_getElem hi
    have e2 : Ev.vw S (.ref i) = S[i].vw := by simp only [Ev.vw, q]
    rw [e2]
    exact (hS.cell i a _ e q).v
  | _ => exact IsD.v h
theorem IsE.vw (hS : RepS κ as H S) {w : W} {v : V} (h : IsE κ as H w v) : IsV κ as H (w.vw S) v := by
  cases w with
  | d x => exact IsD.vw hS h
  | own c =>
    obtain ⟨a, rfl, _, h⟩ := h
    exact h.v
theorem RepC.at {a : Addr} {c : Cell} (h : RepC κ as H a c) (pr : Pre as as') (st : Imm H H') (e : H' a = H a) : RepC κ as' H' a c := by
  cases c with
  | lst ds => obtain ⟨vs, h1, h2⟩ := h; exact ⟨vs, e.trans h1, h2.mono pr st⟩
  | dct ds => obtain ⟨vs, h1, h2⟩ := h; exact ⟨vs, e.trans h1, h2.mono pr st⟩
  | obj g c fs => obtain ⟨dx, vs, h1, h2, h3, h4⟩ := h; exact ⟨dx, vs, e.trans h1, h2, h3.mono pr st, h4⟩
theorem RepC.some {a : Addr} {c : Cell} (h : RepC κ as H a c) : ∃ o, H a = some o ∧ ¬ imm o := by
  cases c with
  | lst ds => obtain ⟨vs, h1, h2⟩ := h; exact ⟨_, h1, fun z => z⟩
  | dct ds => obtain ⟨vs, h1, h2⟩ := h; exact ⟨_, h1, fun z => z⟩
  | obj g c fs => obtain ⟨dx, vs, h1, h2, h3, _⟩ := h; exact ⟨_, h1, fun z => z⟩
theorem IsE.step (st : Step as H as' H') {w : W} {v : V} (h : IsE κ as H w v) : IsE κ as' H' w v := by
  cases w with
  | d x => exact IsD.step st h
  | own c =>
    obtain ⟨a, rfl, n, h⟩ := h
    obtain ⟨o, ho, _⟩ := h.some
    exact ⟨a, rfl, st.notin ho n, h.at st.pr st.imm ((st.keep a o ho n).trans ho.symm)⟩
theorem RepS.mem (hS : RepS κ as H S) {a : Addr} (h : a ∈ as) : ∃ (i : Nat) (c : Cell), as[i]? = some a ∧ S[i]? = some c ∧ RepC κ as H a c := by
  obtain ⟨i, hi, e⟩ := List.getElem_of_mem h
  have q : as[i]? = some a := by rw [List.getElem?_eq_getElem hi, e]
  have hi' : i < S.length := by rw [← hS.len]; exact hi
  exact ⟨i, S[i], q, List.getElem?_eq_getElem hi', hS.cell i a _ q (List.getElem?_eq_getElem hi')⟩
theorem RepS.not_imm (hS : RepS κ as H S) {a : Addr} {o : HO} (h : a ∈ as) (e : H a = some o) : ¬ imm o := by
  obtain ⟨i, c, _, _, r⟩ := hS.mem h
  obtain ⟨u, hu, n⟩ := r.some
  rw [e] at hu
  cases hu
  exact n
theorem fresh {p : Addr} (hp : H p = none) (hS : RepS κ as H S) : p ∉ as := fun h => by
  obtain ⟨i, c, _, _, r⟩ := hS.mem h
  obtain ⟨u, hu, n⟩ := r.some
  rw [hp] at hu
  cases hu
/-! a new object; a cell that is written; a thing of one's own that is written -/
theorem Imm.new {p : Addr} {o : HO} (hp : H p = none) : Imm H (upd H p o) := fun a u h _ => by rw [upd_ne (ne_of_none h hp)]; exact h
theorem Imm.write {p : Addr} {o u : HO} (hp : H p = some u) (hu : ¬ imm u) : Imm H (upd H p o) := fun a u' h n => by
  refine (upd_ne ?_).trans h
  rintro rfl
  rw [hp] at h
  cases h
  exact hu n
theorem upd_there {p : Addr} {o : HO} : ∀ a, H a ≠ none → upd H p o a ≠ none := fun a h z => by
  by_cases e : a = p
  · rw [e, upd_same] at z; cases z
  · rw [upd_ne e] at z; exact h z
theorem Step.new {p : Addr} {o : HO} (hp : H p = none) : Step as H as (upd H p o) :=
  ⟨⟨[], by simp⟩, Imm.new hp, fun a u h _ => by rw [upd_ne (ne_of_none h hp)]; exact h, upd_there⟩
/-- .. that is a cell from now on -/
theorem Step.newC {p : Addr} {o : HO} (hp : H p = none) : Step as H (as ++ [p]) (upd H p o) :=
  ⟨⟨[p], rfl, fun a h => by rw [List.mem_singleton.mp h]; exact hp⟩, Imm.new hp, fun a u h _ => by rw [upd_ne (ne_of_none h hp)]; exact h, upd_there⟩
theorem Step.write {p : Addr} {o u : HO} (h : p ∈ as) (hp : H p = some u) (hu : ¬ Ev.imm u) : Step as H as (upd H p o) :=
  ⟨⟨[], by simp⟩, Imm.write hp hu, fun a v e n => by rw [upd_ne (fun z => n (by rw [z]; exact h))]; exact e, upd_there⟩
theorem RepS.new {p : Addr} {o : HO} (hp : H p = none) (hS : RepS κ as H S) : RepS κ as (upd H p o) S :=
  ⟨hS.len, hS.nd, fun i a c e1 e2 => (hS.cell i a c e1 e2).at (fun _ _ h => h) (Imm.new hp) (upd_ne fun z => fresh hp hS (z ▸ List.mem_of_getElem? e1))⟩
/-- what is none of the cells changes -/
theorem RepS.off {p : Addr} {o : HO} (hS : RepS κ as H S) (n : p ∉ as) (im : Imm H (upd H p o)) : RepS κ as (upd H p o) S :=
  ⟨hS.len, hS.nd, fun i a c e1 e2 => (hS.cell i a c e1 e2).at (fun _ _ h => h) im (upd_ne fun z => n (z ▸ List.mem_of_getElem? e1))⟩
theorem Pre.snoc {p : Addr} : Pre as (as ++ [p]) := fun i a h => by
  rw [List.getElem?_append_left (List.getElem?_eq_some_iff.mp h).1]; exact h
theorem RepS.newC {p : Addr} {o : HO} {c : Cell} (hp : H p = none) (hS : RepS κ as H S) (hc : RepC κ as (upd H p o) p c) : RepS κ (as ++ [p]) (upd H p o) (S ++ [c]) := by
  have np := fresh hp hS
  refine ⟨by simp [hS.len], List.nodup_append.mpr ⟨hS.nd, by simp, fun a ha b hb => ?_⟩, fun i a c' e1 e2 => ?_⟩
  · rw [List.mem_singleton.mp hb]
    rintro rfl
    exact np ha
  · by_cases hi : i < as.length
    · rw [List.getElem?_append_left hi] at e1
      rw [List.getElem?_append_left (by rw [← hS.len]; exact hi)] at e2
      exact (hS.cell i a c' e1 e2).at Pre.snoc (Imm.new hp) (upd_ne fun z => np (z ▸ List.mem_of_getElem? e1))
    · rw [List.getElem?_append_right (by omega)] at e1
      rw [List.getElem?_append_right (by rw [← hS.len]; omega)] at e2
      rw [← hS.len] at e2
      cases q : i - as.length with
      | zero =>
        rw [q] at e1 e2
        cases e1
        cases e2
        exact hc.at Pre.snoc Imm.refl rfl
      | succ n => rw [q] at e1; simp at e1
theorem RepS.put {i : Nat} {p : Addr} {o u : HO} {c : Cell} (hS : RepS κ as H S) (e : as[i]? = some p) (hp : H p = some u) (hu : ¬ imm u) (hc : RepC κ as (upd H p o) p c) : RepS κ as (upd H p o) (S.set i c) := by
  refine ⟨by simp [hS.len], hS.nd, fun j a c' e1 e2 => ?_⟩
  by_cases z : j = i
  · subst z
    rw [e] at e1
    cases e1
    have hj : j < S.length := by rw [← hS.len]; exact (List.getElem?_eq_some_iff.mp e).1
    rw [List.getElem?_set_self hj] at e2
    cases e2
    exact hc
  · rw [List.getElem?_set_ne (Ne.symm z)] at e2
    refine (hS.cell j a c' e1 e2).at (fun _ _ h => h) (Imm.write hp hu) (upd_ne fun q => z ?_)
    subst q
    obtain ⟨hj, e1'⟩ := List.getElem?_eq_some_iff.mp e1
    obtain ⟨hi, e'⟩ := List.getElem?_eq_some_iff.mp e
    exact (List.getElem_inj hS.nd).mp (e1'.trans e'.symm)
end
/-! ### the names -/
structure RelS (κ : Kx) (as : List Addr) (H0 H : Hp) (σ : L2.St) (ρ : Env) : Prop where
  val : ∀ i d, ρ.get i = some (.d d) → ∃ v, σ[i]? = some (some v) ∧ IsD κ as H d v
  own : ∀ i c, ρ.get i = some (.own c) → ∃ a, σ[i]? = some (some (.ref a)) ∧ a ∉ as ∧ H0 a = none ∧ RepC κ as H a c
  dis : ∀ i j c e a, i ≠ j → ρ.get i = some (.own c) → ρ.get j = some (.own e) → σ[i]? = some (some (.ref a)) → σ[j]? ≠ some (some (.ref a))
theorem RelS.step {κ : Kx} {as as' : List Addr} {H0 H H' : Hp} {σ : L2.St} {ρ : Env} (r : RelS κ as H0 H σ ρ) (st : Step as H as' H') : RelS κ as' H0 H' σ ρ :=
  ⟨fun i d e => let ⟨v, h1, h2⟩ := r.val i d e; ⟨v, h1, h2.step st⟩, fun i c e => by
    obtain ⟨a, h1, h2, h3, h4⟩ := r.own i c e
    obtain ⟨o, ho, _⟩ := h4.some
    exact ⟨a, h1, st.notin ho h2, h3, h4.at st.pr st.imm ((st.keep a o ho h2).trans ho.symm)⟩, r.dis⟩
theorem RelS.get {κ : Kx} {as : List Addr} {H0 H : Hp} {σ : L2.St} {ρ : Env} (r : RelS κ as H0 H σ ρ) {i : Nat} {w : W} (e : ρ.get i = some w) : ∃ v, σ[i]? = some (some v) ∧ IsE κ as H w v := by
  cases w with
  | d x => exact r.val i x e
  | own c =>
    obtain ⟨a, h1, h2, _, h4⟩ := r.own i c e
    exact ⟨_, h1, a, rfl, h2, h4⟩
theorem get_put : ∀ (ρ : Env) (i j : Nat) (d : W), Env.get (Env.put ρ i d) j = if i = j ∧ i < ρ.length then some d else Env.get ρ j
  | [], i, j, d => by simp [Env.put, Env.get]
  | x :: r, 0, 0, d => by simp [Env.put, Env.get]
  | x :: r, 0, j + 1, d => by simp [Env.put, Env.get]
  | x :: r, i + 1, 0, d => by simp [Env.put, Env.get]
  | x :: r, i + 1, j + 1, d => by
    have h := get_put r i j d
    simp only [Env.put, Env.get, h, Nat.add_right_cancel_iff, List.length_cons, Nat.add_lt_add_iff_right]
theorem get_del : ∀ (ρ : Env) (i j : Nat), Env.get (Env.del ρ i) j = if i = j then none else Env.get ρ j
  | [], i, j => by simp [Env.del, Env.get]
  | x :: r, 0, 0 => by simp [Env.del, Env.get]
  | x :: r, 0, j + 1 => by simp [Env.del, Env.get]
  | x :: r, i + 1, 0 => by simp [Env.del, Env.get]
  | x :: r, i + 1, j + 1 => by
    have h := get_del r i j
    simp only [Env.del, Env.get, h, Nat.add_right_cancel_iff]
theorem get_none : ∀ (ρ : Env) (i : Nat), ¬ i < ρ.length → Env.get ρ i = none
  | [], _, _ => rfl
  | _ :: _, 0, h => by simp at h
  | _ :: r, i + 1, h => get_none r i (by simpa using h)
section
variable {κ : Kx} {as : List Addr} {H0 H : Hp} {σ : L2.St} {ρ : Env}
theorem RelS.set (r : RelS κ as H0 H σ ρ) {i : Nat} {d : D} {v : V} (hi : i < σ.length) (h : IsD κ as H d v) : RelS κ as H0 H (σ.set i (some v)) (ρ.put i (.d d)) := by
  have key : ∀ j w, (ρ.put i (.d d)).get j = some w → (j = i ∧ w = .d d) ∨ (j ≠ i ∧ ρ.get j = some w) := fun j w e => by
    rw [get_put] at e
    by_cases z : i = j ∧ i < ρ.length
    · rw [if_pos z] at e
      cases e
      exact .inl ⟨z.1.symm, rfl⟩
    · rw [if_neg z] at e
      refine .inr ⟨fun q => ?_, e⟩
      subst q
      rw [get_none ρ j fun q => z ⟨rfl, q⟩] at e
      cases e
  refine ⟨fun j x e => ?_, fun j c e => ?_, fun j k c e a n e1 e2 s1 s2 => ?_⟩
  · rcases key j _ e with ⟨rfl, q⟩ | ⟨n, q⟩
    · cases q
      exact ⟨v, by rw [List.getElem?_set_self hi], h⟩
    · obtain ⟨u, h1, h2⟩ := r.val j x q
      exact ⟨u, by rw [List.getElem?_set_ne (Ne.symm n)]; exact h1, h2⟩
  · rcases key j _ e with ⟨rfl, q⟩ | ⟨n, q⟩
    · cases q
    · obtain ⟨a, h1, h2⟩ := r.own j c q
      exact ⟨a, by rw [List.getElem?_set_ne (Ne.symm n)]; exact h1, h2⟩
  · rcases key j _ e1 with ⟨rfl, q⟩ | ⟨n1, q1⟩
    · cases q
    · rcases key k _ e2 with ⟨rfl, q⟩ | ⟨n2, q2⟩
      · cases q
      · rw [List.getElem?_set_ne (Ne.symm n1)] at s1
        rw [List.getElem?_set_ne (Ne.symm n2)] at s2
        exact r.dis j k c e a n q1 q2 s1 s2
/-- a thing of one's own is new in the names -/
theorem RelS.setO (r : RelS κ as H0 H σ ρ) {i : Nat} {c : Cell} {a : Addr} (hi : i < σ.length) (n : a ∉ as) (h0 : H0 a = none) (h : RepC κ as H a c) (new : ∀ j e, ρ.get j = some (.own e) → j ≠ i → σ[j]? ≠ some (some (.ref a))) :
    RelS κ as H0 H (σ.set i (some (.ref a))) (ρ.put i (.own c)) := by
  have key : ∀ j w, (ρ.put i (.own c)).get j = some w → (j = i ∧ w = .own c) ∨ (j ≠ i ∧ ρ.get j = some w) := fun j w e => by
    rw [get_put] at e
    by_cases z : i = j ∧ i < ρ.length
    · rw [if_pos z] at e
      cases e
      exact .inl ⟨z.1.symm, rfl⟩
    · rw [if_neg z] at e
      refine .inr ⟨fun q => ?_, e⟩
      subst q
      rw [get_none ρ j fun q => z ⟨rfl, q⟩] at e
      cases e
  refine ⟨fun j x e => ?_, fun j c' e => ?_, fun j k c1 c2 b nn e1 e2 s1 s2 => ?_⟩
  · rcases key j _ e with ⟨rfl, q⟩ | ⟨n, q⟩
    · cases q
    · obtain ⟨u, h1, h2⟩ := r.val j x q
      exact ⟨u, by rw [List.getElem?_set_ne (Ne.symm n)]; exact h1, h2⟩
  · rcases key j _ e with ⟨rfl, q⟩ | ⟨n', q⟩
    · cases q
      exact ⟨a, by rw [List.getElem?_set_self hi], n, h0, h⟩
    · obtain ⟨b, h1, h2⟩ := r.own j c' q
      exact ⟨b, by rw [List.getElem?_set_ne (Ne.symm n')]; exact h1, h2⟩
  · rcases key j _ e1 with ⟨rfl, q⟩ | ⟨n1, q1⟩
    · rw [List.getElem?_set_self hi] at s1
      cases s1
      rcases key k _ e2 with ⟨rfl, q'⟩ | ⟨n2, q2⟩
      · exact nn rfl
      · rw [List.getElem?_set_ne (Ne.symm n2)] at s2
        exact new k _ q2 n2 s2
    · rw [List.getElem?_set_ne (Ne.symm n1)] at s1
      rcases key k _ e2 with ⟨rfl, q'⟩ | ⟨n2, q2⟩
      · rw [List.getElem?_set_self hi] at s2
        cases s2
        exact new j _ q1 n1 s1
      · rw [List.getElem?_set_ne (Ne.symm n2)] at s2
        exact r.dis j k _ _ b nn q1 q2 s1 s2
/-- a thing of one's own is written -/
theorem RelS.mut (r : RelS κ as H0 H σ ρ) {i : Nat} {c c' : Cell} {a : Addr} {o u : HO} (e : ρ.get i = some (.own c)) (s : σ[i]? = some (some (.ref a))) (ha : H a = some u) (hu : ¬ imm u) (h : RepC κ as (upd H a o) a c') :
    RelS κ as H0 (upd H a o) σ (ρ.put i (.own c')) := by
  have key : ∀ j w, (ρ.put i (.own c')).get j = some w → (j = i ∧ w = .own c') ∨ (j ≠ i ∧ ρ.get j = some w) := fun j w e => by
    rw [get_put] at e
    by_cases z : i = j ∧ i < ρ.length
    · rw [if_pos z] at e
      cases e
      exact .inl ⟨z.1.symm, rfl⟩
    · rw [if_neg z] at e
      refine .inr ⟨fun q => ?_, e⟩
      subst q
      rw [get_none ρ j fun q => z ⟨rfl, q⟩] at e
      cases e
  have im : Imm H (upd H a o) := Imm.write ha hu
  obtain ⟨b, s', n, h0, hc⟩ := r.own i c e
  rw [s] at s'
  cases s'
  refine ⟨fun j x e => ?_, fun j c1 e1 => ?_, fun j k c1 c2 b nn e1 e2 s1 s2 => ?_⟩
  · rcases key j _ e with ⟨rfl, q⟩ | ⟨n, q⟩
    · cases q
    · obtain ⟨u, h1, h2⟩ := r.val j x q
      exact ⟨u, h1, h2.mono (fun _ _ h => h) im⟩
  · rcases key j _ e1 with ⟨rfl, q⟩ | ⟨n', q⟩
    · cases q
      exact ⟨a, s, n, h0, h⟩
    · obtain ⟨b, h1, h2, h3, h4⟩ := r.own j c1 q
      exact ⟨b, h1, h2, h3, h4.at (fun _ _ h => h) im (upd_ne fun z => r.dis i j _ _ a (Ne.symm n') e q s (z ▸ h1))⟩
  · have old : ∀ j w, (ρ.put i (.own c')).get j = some (.own w) → ∃ w', ρ.get j = some (.own w') := fun j w q => by
      rcases key j _ q with ⟨rfl, _⟩ | ⟨_, q⟩
      · exact ⟨_, e⟩
      · exact ⟨_, q⟩
    obtain ⟨w1, q1⟩ := old j _ e1
    obtain ⟨w2, q2⟩ := old k _ e2
    exact r.dis j k _ _ b nn q1 q2 s1 s2
theorem RelS.del (r : RelS κ as H0 H σ ρ) (i : Nat) : RelS κ as H0 H σ (ρ.del i) := by
  have key : ∀ j w, (ρ.del i).get j = some w → ρ.get j = some w := fun j w e => by
    rw [get_del] at e
    by_cases z : i = j
    · rw [if_pos z] at e; cases e
    · rw [if_neg z] at e; exact e
  exact ⟨fun j x e => r.val j x (key j _ e), fun j c e => r.own j c (key j _ e), fun j k c e a n e1 e2 => r.dis j k c e a n (key j _ e1) (key k _ e2)⟩
theorem RelS.dels (r : RelS κ as H0 H σ ρ) : ∀ is : List Nat, RelS κ as H0 H σ (ρ.dels is) := by
  intro is
  induction is generalizing ρ with
  | nil => exact r
  | cons i is ih => exact ih (r.del i)
end
end Ev
set_option maxHeartbeats 1000000
/-! Ev, part 3: readings. -/
namespace Ev
open PySem PySem.Spec PyProof.Rows L2

/-- an exception behind the layer's words -/
def IsX (κ : Kx) (as : List Addr) (H : Hp) (x : D) (cls : Value) (dd : Option Addr) : Prop := match x with
  | .exc c fs => cls = .ref (He.ga κ.K (Str.ofString c)) ∧ c ∈ κ.es ∧ (fs = [] → dd = none) ∧ (fs ≠ [] → ∃ dx fvs, dd = some dx ∧ H dx = some (.xd fvs) ∧ IsFs κ as H fs fvs)
  | _ => False
def Out {α : Type} (r : R α) (k : α → Sto → Prop) (ke : D → Sto → Prop) : Prop := match r with
  | .ok a S => k a S
  | .exc e S => ke e S
  | .bad => False
section
variable {α β : Type} {r : R α} {k k' : α → Sto → Prop} {ke ke' : D → Sto → Prop}
theorem Out.of_bind {f : α → Sto → R β} {k : β → Sto → Prop} (h : Out (r.bind f) k ke) : Out r (fun a S => Out (f a S) k ke) ke := by
  cases r <;> exact h
theorem Out.imp (h : Out r k ke) (a : ∀ x S, k x S → k' x S) (b : ∀ x S, ke x S → ke' x S) : Out r k' ke' := by
  cases r with
  | ok x S => exact a x S h
  | exc e S => exact b e S h
  | bad => exact h.elim
theorem Out.of_chk {b : Bool} (h : Out (R.chk b r) k ke) : b = true ∧ Out r k ke := by
  unfold R.chk at h
  by_cases z : b = true
  · rw [if_pos z] at h; exact ⟨z, h⟩
  · rw [if_neg z] at h; exact h.elim
theorem Out.of_of {S : Sto} {o : Option α} (h : Out (R.of S o) k ke) : ∃ a, o = some a ∧ k a S := by
  cases o with
  | none => exact h.elim
  | some a => exact ⟨a, rfl, h⟩
end
theorem Out.of_w {r : R D} {k : W → Sto → Prop} {ke : D → Sto → Prop} (h : Out r.w k ke) : Out r (fun d S => k (.d d) S) ke := by
  cases r <;> exact h
theorem Out.of_d {r : R W} {k : D → Sto → Prop} {ke : D → Sto → Prop} (h : Out r.d k ke) : Out r (fun w S => ∃ d, w = .d d ∧ k d S) ke := by
  cases r with
  | ok w S => cases w with
    | d x => exact ⟨x, rfl, h⟩
    | own c => exact h.elim
  | exc e S => exact h
  | bad => exact h
theorem Out.of_t {r : R W} {k : Bool → Sto → Prop} {ke : D → Sto → Prop} (h : Out r.t k ke) : Out r (fun w S => Out (truD S (w.vw S)) k ke) ke := by
  cases r <;> exact h

/-! what is wanted: of a value, of data, of an exception, of a truth, of a list -/
def kW (κ : Kx) (as : List Addr) (H : Hp) (Q : VK) : W → Sto → Prop := fun w S' => ∀ as' H' v, Step as H as' H' → IsE κ as' H' w v → RepS κ as' H' S' → Q v H'
def kD (κ : Kx) (as : List Addr) (H : Hp) (Q : VK) : D → Sto → Prop := fun d S' => ∀ as' H' v, Step as H as' H' → IsD κ as' H' d v → RepS κ as' H' S' → Q v H'
def kX (κ : Kx) (as : List Addr) (H : Hp) (σ : L2.St) (Wx : L2.WX) : D → Sto → Prop := fun e S' => ∀ as' H' cls dd, Step as H as' H' → IsX κ as' H' e cls dd → RepS κ as' H' S' → Wx cls dd σ H'
def kT (κ : Kx) (as : List Addr) (H : Hp) (Q : Bool → Hp → Prop) : Bool → Sto → Prop := fun b S' => ∀ as' H', Step as H as' H' → RepS κ as' H' S' → Q b H'
def kDs (κ : Kx) (as : List Addr) (H : Hp) (Q : List V → Hp → Prop) : List D → Sto → Prop := fun ds S' => ∀ as' H' vs, Step as H as' H' → IsDs κ as' H' ds vs → RepS κ as' H' S' → Q vs H'
def IsEs (κ : Kx) (as : List Addr) (H : Hp) : List W → List V → Prop
  | [], [] => True
  | d :: ds, v :: vs => IsE κ as H d v ∧ IsEs κ as H ds vs
  | _, _ => False
def kWs (κ : Kx) (as : List Addr) (H : Hp) (Q : List V → Hp → Prop) : List W → Sto → Prop := fun ds S' => ∀ as' H' vs, Step as H as' H' → IsEs κ as' H' ds vs → RepS κ as' H' S' → Q vs H'
/-- a new thing that may change -/
def kN (κ : Kx) (as : List Addr) (H : Hp) (Q : VK) : Cell → Sto → Prop := fun c S' => ∀ as' H' a, Step as H as' H' → H a = none → a ∉ as' → RepC κ as' H' a c → RepS κ as' H' S' → Q (.ref a) H'
theorem IsEs.step {κ : Kx} {as as' : List Addr} {H H' : Hp} (st : Step as H as' H') : ∀ {ws : List W} {vs : List V}, IsEs κ as H ws vs → IsEs κ as' H' ws vs
  | [], [], _ => True.intro
  | _ :: _, _ :: _, h => ⟨h.1.step st, IsEs.step st h.2⟩
  | [], _ :: _, h => h.elim
  | _ :: _, [], h => h.elim
section
variable {κ : Kx} {as as' : List Addr} {H H' : Hp} {σ : L2.St} {Wx : L2.WX} {Q : VK}
theorem kW.on (st : Step as H as' H') {w : W} {S : Sto} (k : kW κ as H Q w S) : kW κ as' H' Q w S := fun as2 H2 v st2 r hS => k as2 H2 v (st.trans st2) r hS
theorem kD.on (st : Step as H as' H') {w : D} {S : Sto} (k : kD κ as H Q w S) : kD κ as' H' Q w S := fun as2 H2 v st2 r hS => k as2 H2 v (st.trans st2) r hS
theorem kX.on (st : Step as H as' H') {w : D} {S : Sto} (k : kX κ as H σ Wx w S) : kX κ as' H' σ Wx w S := fun as2 H2 c d st2 r hS => k as2 H2 c d (st.trans st2) r hS
theorem kT.on {Q : Bool → Hp → Prop} (st : Step as H as' H') {w : Bool} {S : Sto} (k : kT κ as H Q w S) : kT κ as' H' Q w S := fun as2 H2 st2 hS => k as2 H2 (st.trans st2) hS
theorem kDs.on {Q : List V → Hp → Prop} (st : Step as H as' H') {w : List D} {S : Sto} (k : kDs κ as H Q w S) : kDs κ as' H' Q w S := fun as2 H2 v st2 r hS => k as2 H2 v (st.trans st2) r hS
theorem kN.on (st : Step as H as' H') {w : Cell} {S : Sto} (k : kN κ as H Q w S) : kN κ as' H' Q w S := fun as2 H2 v st2 n m r hS => k as2 H2 v (st.trans st2) (by
  cases q : H v with
  | none => rfl
  | some o => exact absurd n (st.there v (by rw [q]; simp))) m r hS
theorem kW.here {w : W} {v : V} {S : Sto} (k : kW κ as H Q w S) (r : IsE κ as H w v) (hS : RepS κ as H S) : Q v H := k as H v Step.refl r hS
theorem kD.here {w : D} {v : V} {S : Sto} (k : kD κ as H Q w S) (r : IsD κ as H w v) (hS : RepS κ as H S) : Q v H := k as H v Step.refl r hS
theorem kW.d {d : D} {S : Sto} (k : kW κ as H Q (.d d) S) : kD κ as H Q d S := k
end
/-! readings -/
abbrev MW := Env → Sto → R W
def rdW (κ : Kx) (Wx : L2.WX) (m : MW) : TE := fun σ H Q => ∃ as H0 ρ S, RelS κ as H0 H σ ρ ∧ RepS κ as H S ∧ Out (m ρ S) (kW κ as H Q) (kX κ as H σ Wx)
def rdT (κ : Kx) (Wx : L2.WX) (m : Env → Sto → R Bool) : TT := fun σ H Q => ∃ as H0 ρ S, RelS κ as H0 H σ ρ ∧ RepS κ as H S ∧ Out (m ρ S) (kT κ as H Q) (kX κ as H σ Wx)
def rdDs (κ : Kx) (Wx : L2.WX) (m : Env → Sto → R (List D)) : TA := fun σ H Q => ∃ as H0 ρ S, RelS κ as H0 H σ ρ ∧ RepS κ as H S ∧ Out (m ρ S) (kDs κ as H Q) (kX κ as H σ Wx)
def rdWs (κ : Kx) (Wx : L2.WX) (m : Env → Sto → R (List W)) : TA := fun σ H Q => ∃ as H0 ρ S, RelS κ as H0 H σ ρ ∧ RepS κ as H S ∧ Out (m ρ S) (kWs κ as H Q) (kX κ as H σ Wx)
def rdN (κ : Kx) (Wx : L2.WX) (m : Env → Sto → R Cell) : TE := fun σ H Q => ∃ as H0 ρ S, RelS κ as H0 H σ ρ ∧ RepS κ as H S ∧ Out (m ρ S) (kN κ as H Q) (kX κ as H σ Wx)
section
variable {κ : Kx} {Wx : L2.WX} {as : List Addr} {H0 H : Hp} {σ : L2.St} {ρ : Env} {S : Sto}
theorem rdW.mk {m : MW} {Q : VK} (rs : RelS κ as H0 H σ ρ) (hS : RepS κ as H S) {k : W → Sto → Prop} (o : Out (m ρ S) k (kX κ as H σ Wx)) (h : ∀ w S1 as1 H1 v, k w S1 → Step as H as1 H1 → IsE κ as1 H1 w v → RepS κ as1 H1 S1 → Q v H1) : rdW κ Wx m σ H Q :=
  ⟨as, H0, ρ, S, rs, hS, o.imp (fun w S1 kk as1 H1 v st r hS1 => h w S1 as1 H1 v kk st r hS1) fun _ _ z => z⟩
theorem rdT.mk {m : Env → Sto → R Bool} {Q : Bool → Hp → Prop} (rs : RelS κ as H0 H σ ρ) (hS : RepS κ as H S) {k : Bool → Sto → Prop} (o : Out (m ρ S) k (kX κ as H σ Wx)) (h : ∀ w S1 as1 H1, k w S1 → Step as H as1 H1 → RepS κ as1 H1 S1 → Q w H1) : rdT κ Wx m σ H Q :=
  ⟨as, H0, ρ, S, rs, hS, o.imp (fun w S1 kk as1 H1 st hS1 => h w S1 as1 H1 kk st hS1) fun _ _ z => z⟩
theorem rdDs.mk {m : Env → Sto → R (List D)} {Q : List V → Hp → Prop} (rs : RelS κ as H0 H σ ρ) (hS : RepS κ as H S) {k : List D → Sto → Prop} (o : Out (m ρ S) k (kX κ as H σ Wx)) (h : ∀ w S1 as1 H1 vs, k w S1 → Step as H as1 H1 → IsDs κ as1 H1 w vs → RepS κ as1 H1 S1 → Q vs H1) : rdDs κ Wx m σ H Q :=
  ⟨as, H0, ρ, S, rs, hS, o.imp (fun w S1 kk as1 H1 v st r hS1 => h w S1 as1 H1 v kk st r hS1) fun _ _ z => z⟩
theorem rdWs.mk {m : Env → Sto → R (List W)} {Q : List V → Hp → Prop} (rs : RelS κ as H0 H σ ρ) (hS : RepS κ as H S) {k : List W → Sto → Prop} (o : Out (m ρ S) k (kX κ as H σ Wx)) (h : ∀ w S1 as1 H1 vs, k w S1 → Step as H as1 H1 → IsEs κ as1 H1 w vs → RepS κ as1 H1 S1 → Q vs H1) : rdWs κ Wx m σ H Q :=
  ⟨as, H0, ρ, S, rs, hS, o.imp (fun w S1 kk as1 H1 v st r hS1 => h w S1 as1 H1 v kk st r hS1) fun _ _ z => z⟩
theorem rdN.mk {m : Env → Sto → R Cell} {Q : VK} (rs : RelS κ as H0 H σ ρ) (hS : RepS κ as H S) {k : Cell → Sto → Prop} (o : Out (m ρ S) k (kX κ as H σ Wx)) (h : ∀ c S1 as1 H1 a, k c S1 → Step as H as1 H1 → H a = none → a ∉ as1 → RepC κ as1 H1 a c → RepS κ as1 H1 S1 → Q (.ref a) H1) : rdN κ Wx m σ H Q :=
  ⟨as, H0, ρ, S, rs, hS, o.imp (fun w S1 kk as1 H1 v st n i r hS1 => h w S1 as1 H1 v kk st n i r hS1) fun _ _ z => z⟩
theorem Out.onX {α : Type} {r : R α} {k : α → Sto → Prop} {as1 : List Addr} {H1 : Hp} (st : Step as H as1 H1) (o : Out r k (kX κ as H σ Wx)) : Out r k (kX κ as1 H1 σ Wx) := o.imp (fun _ _ z => z) fun _ _ z => kX.on st z
end
section
variable {κ : Kx} {Wx : L2.WX} {as as1 : List Addr} {H H1 : Hp} {σ : L2.St}
theorem Out.onW {r : R W} {Q : VK} (st : Step as H as1 H1) (o : Out r (kW κ as H Q) (kX κ as H σ Wx)) : Out r (kW κ as1 H1 Q) (kX κ as1 H1 σ Wx) := o.imp (fun _ _ z => kW.on st z) fun _ _ z => kX.on st z
theorem Out.onT {r : R Bool} {Q : Bool → Hp → Prop} (st : Step as H as1 H1) (o : Out r (kT κ as H Q) (kX κ as H σ Wx)) : Out r (kT κ as1 H1 Q) (kX κ as1 H1 σ Wx) := o.imp (fun _ _ z => kT.on st z) fun _ _ z => kX.on st z
theorem Out.onDs {r : R (List D)} {Q : List V → Hp → Prop} (st : Step as H as1 H1) (o : Out r (kDs κ as H Q) (kX κ as H σ Wx)) : Out r (kDs κ as1 H1 Q) (kX κ as1 H1 σ Wx) := o.imp (fun _ _ z => kDs.on st z) fun _ _ z => kX.on st z
theorem kWs.on {Q : List V → Hp → Prop} (st : Step as H as1 H1) {w : List W} {S : Sto} (k : kWs κ as H Q w S) : kWs κ as1 H1 Q w S := fun as2 H2 v st2 r hS => k as2 H2 v (st.trans st2) r hS
theorem Out.onWs {r : R (List W)} {Q : List V → Hp → Prop} (st : Step as H as1 H1) (o : Out r (kWs κ as H Q) (kX κ as H σ Wx)) : Out r (kWs κ as1 H1 Q) (kX κ as1 H1 σ Wx) := o.imp (fun _ _ z => kWs.on st z) fun _ _ z => kX.on st z
theorem Out.onN {r : R Cell} {Q : VK} (st : Step as H as1 H1) (o : Out r (kN κ as H Q) (kX κ as H σ Wx)) : Out r (kN κ as1 H1 Q) (kX κ as1 H1 σ Wx) := o.imp (fun _ _ z => kN.on st z) fun _ _ z => kX.on st z
end
theorem PE.imp {X : Cx} {e : Expr} {t t' : TE} (h : PE X e t) (i : ∀ σ H Q, t' σ H Q → t σ H Q) : PE X e t' := ⟨fun pins s σ H Q I q => h.run pins s σ H Q I (i σ H Q q)⟩
theorem PT.imp {X : Cx} {e : Expr} {t t' : TT} (h : PT X e t) (i : ∀ σ H Q, t' σ H Q → t σ H Q) : PT X e t' := ⟨fun pins s σ H Q I q => h.run pins s σ H Q I (i σ H Q q)⟩
theorem PW.imp {X : Cx} {e : Expr} {t t' : TT} (h : PW X e t) (i : ∀ σ H Q, t' σ H Q → t σ H Q) : PW X e t' := ⟨fun wh pins s σ H Q I q => h.run wh pins s σ H Q I (i σ H Q q)⟩
theorem PA.imp {X : Cx} {e : List Expr} {t t' : TA} (h : PA X e t) (i : ∀ σ H Q, t' σ H Q → t σ H Q) : PA X e t' := ⟨fun pos pins s σ H Q I q => h.run pos pins s σ H Q I (i σ H Q q)⟩
theorem PS.imp {X : Cx} {e : Stmt} {t t' : TS} (h : PS X e t) (i : ∀ D σ H, t' D σ H → t D σ H) : PS X e t' := ⟨fun pins s σ H D I q => h.run pins s σ H D I (i D σ H q)⟩
theorem PSs.imp {X : Cx} {e : List Stmt} {t t' : TS} (h : PSs X e t) (i : ∀ D σ H, t' D σ H → t D σ H) : PSs X e t' := ⟨fun pins s σ H D I q => h.run pins s σ H D I (i D σ H q)⟩
theorem OpR.imp {X : Cx} {f : Value → Value → Sem Value} {r r' : R2} (h : OpR X f r) (i : ∀ x y H Q, r' x y H Q → r x y H Q) : OpR X f r' := fun pins s σ H x y v u Q I rx ry q => h pins s σ H x y v u Q I rx ry (i x y H Q q)
theorem OpR.use {X : Cx} {f : Value → Value → Sem Value} {r : R2} (h : OpR X f r) {pins : List (Addr × Obj)} {s : Shared} {σ : L2.St} {H : Hp} {x y : V} {v u : Value} {Q : VK} (I : Inv X pins σ H s) (rx : RelV x v) (ry : RelV y u) (q : r x y H Q) :
    wpAny (model X.prog X.w) X.A (f v u) (EP X pins σ Q) X.xe s := h pins s σ H x y v u Q I rx ry q
theorem CallR.use {X : Cx} {f : Value} {r : List V → Hp → VK → Prop} (h : CallR X f r) {pins : List (Addr × Obj)} {s : Shared} {σ : L2.St} {H : Hp} {xs : List V} {us : List Value} {Q : VK} (I : Inv X pins σ H s) (rx : Vals xs us) (q : r xs H Q) :
    wpAny (model X.prog X.w) X.A (PySem.call f us) (EP X pins σ Q) X.xe s := h pins s σ H xs us Q I rx q

/-! ### to freeze -/
def soft : HO → Prop
  | .lst _ => True
  | .dK _ => True
  | .ins _ _ _ => True
  | _ => False
theorem freeze {X : Cx} {pins : List (Addr × Obj)} {σ : L2.St} {H : Hp} {s : Shared} {a : Addr} {u : HO} (I : Inv X pins σ H s) (h : H a = some u) (hu : soft u) : ∃ o, Inv X pins σ (upd H a (.frz o u)) s := by
  have ok := I.hok a u h
  have mu : Mut (H a) := by
    rw [h]
    cases u <;> first | exact True.intro | exact hu.elim
  have ex : ∃ o, s.heap.get? a = some o := by
    cases u with
    | lst xs => obtain ⟨_, _, _, _, e⟩ := ok; exact ⟨_, e⟩
    | dK kvs => obtain ⟨_, _, _, _, o, _, _, e, _⟩ := ok; exact ⟨o, e⟩
    | ins C dx fs => obtain ⟨_, _, _, e, _⟩ := ok; exact ⟨_, e⟩
    | _ => exact hu.elim
  obtain ⟨o, e⟩ := ex
  have new : ObjOk X.prog X.w (upd H a (.frz o u)) s.heap a (.frz o u) := by
    refine ⟨e, ?_⟩
    cases u with
    | lst xs => exact ok
    | dK kvs => exact ok
    | ins C dx fs =>
      obtain ⟨d, z, ne, r⟩ := ok
      exact ⟨by rw [upd_ne ne]; exact d, z, ne, r⟩
    | _ => exact hu.elim
  exact ⟨o, I.write (h' := s.heap) (t' := s.toks) mu (.inl rfl) (fun _ _ _ q => q) ⟨o, e⟩ new⟩
/-- .. or to freeze what is handed back -/
def frzK (Q : VK) : VK := fun v H => Q v H ∨ ∃ p u, v = .ref p ∧ H p = some u ∧ soft u ∧ ∀ o, Q v (upd H p (.frz o u))
theorem EP.frz {X : Cx} {pins : List (Addr × Obj)} {σ : L2.St} {Q : VK} {u : Value} {s : Shared} (h : EP X pins σ (frzK Q) u s) : EP X pins σ Q u s := by
  obtain ⟨v, H', I, r, q | ⟨p, o, rfl, e, hu, q⟩⟩ := h
  · exact ⟨v, H', I, r, q⟩
  · obtain ⟨ob, I'⟩ := freeze I e hu
    exact ⟨_, _, I', r, q ob⟩
theorem PE.frz {X : Cx} {e : Expr} {t : TE} (h : PE X e t) : PE X e (fun σ H Q => t σ H (frzK Q)) := ⟨fun pins s σ H Q I q => thn (h.run pins s σ H _ I q) fun _ _ z => EP.frz z⟩
section
variable {κ : Kx} {as : List Addr} {H : Hp} {S : Sto}
theorem soft_of {a : Addr} {c : Cell} (h : RepC κ as H a c) : ∃ u, H a = some u ∧ soft u ∧ ¬ imm u := by
  cases c with
  | lst ds => obtain ⟨vs, h1, h2⟩ := h; exact ⟨_, h1, True.intro, fun z => z⟩
  | dct ds => obtain ⟨vs, h1, h2⟩ := h; exact ⟨_, h1, True.intro, fun z => z⟩
  | obj g c fs => obtain ⟨dx, vs, h1, h2, h3, _⟩ := h; exact ⟨_, h1, True.intro, fun z => z⟩
/-- what is frozen is a value -/
theorem frozen {a : Addr} {c : Cell} {u : HO} {o : Obj} (h : RepC κ as H a c) (e : H a = some u) : IsD κ as (upd H a (.frz o u)) c.vw (.ref a) := by
  obtain ⟨u', e', _, n⟩ := soft_of h
  rw [e] at e'
  cases e'
  have im : Imm H (upd H a (.frz o u)) := Imm.write e n
  cases c with
  | lst ds =>
    obtain ⟨vs, h1, h2⟩ := h
    rw [e] at h1
    cases h1
    exact ⟨a, vs, rfl, ⟨o, upd_same⟩, h2.mono (fun _ _ h => h) im⟩
  | dct ds =>
    obtain ⟨vs, h1, h2⟩ := h
    rw [e] at h1
    cases h1
    exact ⟨a, vs, rfl, ⟨o, upd_same⟩, h2.mono (fun _ _ h => h) im⟩
  | obj g c fs =>
    obtain ⟨dx, vs, h1, h2, h3, _⟩ := h
    rw [e] at h1
    cases h1
    exact ⟨a, dx, vs, rfl, ⟨o, upd_same⟩, h2, h3.mono (fun _ _ h => h) im⟩
/-- a new thing is frozen: a step from ahead of it -/
theorem Step.frz {as0 : List Addr} {H0 : Hp} {a : Addr} {u : HO} {o : Obj} (st : Step as0 H0 as H) (n : H0 a = none) (e : H a = some u) (hu : ¬ Ev.imm u) : Step as0 H0 as (upd H a (.frz o u)) :=
  ⟨st.ext, fun b v h i => by rw [upd_ne (ne_of_none h n)]; exact st.imm b v h i, fun b v h i => by rw [upd_ne (ne_of_none h n)]; exact st.keep b v h i, fun b h => upd_there b (st.there b h)⟩
end
/-- frozen at once -/
theorem pe_frz {X : Cx} {κ : Kx} {Wx : L2.WX} {e : Expr} {m : Env → Sto → R Cell} (h : PE X e (rdN κ Wx m)) : PE X e (rdW κ Wx fun ρ S => (m ρ S).bind fun c S1 => .ok (.d c.vw) S1) := by
  refine PE.imp (PE.frz h) fun σ H Q ⟨as, H0, ρ, S, rs, hS, w⟩ => rdN.mk rs hS w.of_bind fun c S1 as1 H1 a k st n i r hS1 => ?_
  obtain ⟨u, eu, hu, nu⟩ := soft_of r
  exact .inr ⟨a, u, rfl, eu, hu, fun o => k as1 _ _ (st.frz n eu nu) (frozen r eu) (hS1.off i (Imm.write eu nu))⟩
/-- a cell at once -/
theorem pe_cel {X : Cx} {κ : Kx} {Wx : L2.WX} {e : Expr} {m : Env → Sto → R Cell} (h : PE X e (rdN κ Wx m)) : PE X e (rdW κ Wx fun ρ S => (m ρ S).bind fun c S1 => .ok (.d (.ref S1.length)) (S1 ++ [c])) := by
  refine PE.imp h fun σ H Q ⟨as, H0, ρ, S, rs, hS, w⟩ => rdN.mk rs hS w.of_bind fun c S1 as1 H1 a k st n i r hS1 => ?_
  have hS2 : RepS κ (as1 ++ [a]) H1 (S1 ++ [c]) := by
    refine ⟨by simp [hS1.len], List.nodup_append.mpr ⟨hS1.nd, by simp, fun x hx y hy => ?_⟩, fun j b c' e1 e2 => ?_⟩
    · rw [List.mem_singleton.mp hy]
      rintro rfl
      exact i hx
    · by_cases hj : j < as1.length
      · rw [List.getElem?_append_left hj] at e1
        rw [List.getElem?_append_left (by rw [← hS1.len]; exact hj)] at e2
        exact (hS1.cell j b c' e1 e2).at Pre.snoc Imm.refl rfl
      · rw [List.getElem?_append_right (by omega)] at e1
        rw [List.getElem?_append_right (by rw [← hS1.len]; omega)] at e2
        rw [← hS1.len] at e2
        cases q : j - as1.length with
        | zero =>
          rw [q] at e1 e2
          cases e1
          cases e2
          exact r.at Pre.snoc Imm.refl rfl
        | succ m => rw [q] at e1; simp at e1
  obtain ⟨t, et, ft⟩ := st.ext
  have st2 : Step as H (as1 ++ [a]) H1 := ⟨⟨t ++ [a], by rw [et, List.append_assoc], fun b hb => by
    rcases List.mem_append.mp hb with hb | hb
    · exact ft b hb
    · rw [List.mem_singleton.mp hb]; exact n⟩, st.imm, st.keep, st.there⟩
  exact k _ H1 _ st2 ⟨a, by rw [← hS1.len]; simp, rfl⟩ hS2
end Ev
set_option maxHeartbeats 4000000
/-! Ev, part 2b: classes of errors. -/
namespace Ev
open PySem PySem.Spec PyProof.Rows L2
/-- a class of errors is as the text says; l: what its __init__ keeps -/
structure ExK (K : PySem.W.Frag) (mg : Str → Option Value) (cs : List (String × D)) (x : String) (l : List (String × D)) : Prop where
  mg : mg (Str.ofString x) = some (.ref (He.ga K (Str.ofString x)))
  own : l = [] → PySem.W.excIn K (He.ga K (Str.ofString x)) He.veBase "ValueError.__new__" = true
  keep : PySem.W.keepIn K (.ref (He.ga K (Str.ofString x))) = true
  sub : PySem.W.subIn K (.ref (He.ga K (Str.ofString x))) (.type "BaseException") = some true
  ty : PySem.W.typeIn K (.ref (He.ga K (Str.ofString x))) = some (.type "type")
  c : ExcC K (He.ga K (Str.ofString x))
  er : errs.contains x = true
  ve : PySem.W.kitOne K (.ref (He.ga K (Str.ofString x))) (.type "ValueError") = some true
  nn : ∀ t ∈ vtNames, PySem.W.kitOne K (.type t) (.ref (He.ga K (Str.ofString x))) = some false
  pair : ∀ y c z, (y, D.exc c z) ∈ cs → PySem.W.exmOne K (.ref (He.ga K (Str.ofString x))) (.ref (He.ga K (Str.ofString y))) = some (subC x y) ∧ PySem.W.kitOne K (.ref (He.ga K (Str.ofString x))) (.ref (He.ga K (Str.ofString y))) = some (subC x y)
/-- what is known of the module's constants, and of its classes of errors -/
structure CsOk (K : PySem.W.Frag) (mg : Str → Option Value) (κ : Kx) (cs : List (String × D)) : Prop where
  v : ∀ y d, (y, d) ∈ cs → isExc d = false → ∃ u v, mg (Str.ofString y) = some u ∧ RelV v u ∧ ∀ (as : List Addr) (H : Hp), IsD κ as H d v
  e : ∀ x c l, (x, D.exc c l) ∈ cs → ExK K mg cs x l
  k : ∀ c, c ∈ κ.es ↔ ∃ c' l, (c, D.exc c' l) ∈ cs
/-- the classes of errors among these -/
def exN (cs : List (String × D)) : List String := (cs.filter fun p => isExc p.2).map (·.1)
theorem exN_mem {cs : List (String × D)} {c : String} : c ∈ exN cs ↔ ∃ c' l, (c, D.exc c' l) ∈ cs := by
  unfold exN
  rw [List.mem_map]
  constructor
  · rintro ⟨⟨a, d⟩, h, rfl⟩
    obtain ⟨h1, h2⟩ := List.mem_filter.mp h
    cases d with
    | exc c' l => exact ⟨c', l, h1⟩
    | _ => cases h2
  · rintro ⟨c', l, h⟩
    exact ⟨(c, .exc c' l), List.mem_filter.mpr ⟨h, rfl⟩, rfl⟩
theorem a2 {a b : Bool} (h : (a && b) = true) : a = true ∧ b = true := Bool.and_eq_true_iff.mp h
theorem exKB_ok {h : Heap} {K : PySem.W.Frag} {mg : Str → Option Value} {cs : List (String × D)} {x : String} {l : List (String × D)} (X : K.In h) (G : h.Ns mainGlobals mg) (c : exKB K cs x l = true) : ExK K mg cs x l := by
  obtain ⟨c0, c⟩ := a2 c
  obtain ⟨cA, cB⟩ := a2 c
  obtain ⟨c1, c2⟩ := a2 cA
  obtain ⟨g1, g2⟩ := a2 c1
  obtain ⟨g3, g4⟩ := a2 c2
  obtain ⟨g4, g5⟩ := a2 g4
  obtain ⟨c3, c4⟩ := a2 cB
  obtain ⟨c5, c6⟩ := a2 c3
  obtain ⟨f1, f2⟩ := a2 c5
  obtain ⟨f3, c6⟩ := a2 c6
  obtain ⟨f4, c6⟩ := a2 c6
  obtain ⟨f5, c6⟩ := a2 c6
  obtain ⟨f6, f7⟩ := a2 c6
  obtain ⟨v1, c4⟩ := a2 c4
  obtain ⟨v2, v3⟩ := a2 c4
  refine ⟨He.glo_ok X G g1, fun e => ?_, g3, of_decide_eq_true g4, of_decide_eq_true g5, ⟨He.eqO_ok f1, He.eqO_ok f2, of_decide_eq_true g4, f3, He.eqO_ok f4, of_decide_eq_true f5, of_decide_eq_true f6, of_decide_eq_true f7⟩, c0, of_decide_eq_true v1, fun t ht => of_decide_eq_true (List.all_eq_true.mp v2 t ht), fun y c z hy => ?_⟩
  · subst e
    exact g2
  · obtain ⟨p1, p2⟩ := a2 (List.all_eq_true.mp v3 (y, .exc c z) hy)
    exact ⟨of_decide_eq_true p1, of_decide_eq_true p2⟩
end Ev
set_option maxHeartbeats 2000000
/-! Ev, part 3b: what makes a tuple makes a plain one. -/
namespace Ev
open PySem PySem.Spec PyProof.Rows L2
/-- wanted of a new tuple -/
def QT (Q : VK) (H : Hp) (vs : List V) : Prop := ∀ p o, H p = none → o.dict = none → Q (.ref p) (upd H p (.frz o (.tup vs)))
section
variable {X : Cx} {pins : List (Addr × Obj)} {σ : L2.St} {H : Hp} {s : Shared} {Q : VK}
/-- a new tuple on the heap -/
theorem Inv.laidT {h' : Heap} {t' : Nat} {xs : List V} {its : List Value} (I : Inv X pins σ H { s with heap := h' }) (hz : xs.length ≤ sizeLine) (r : Vals xs its) (q : QT Q H xs) : EP X pins σ Q (.ref h'.objs.size) { s with heap := h'.push { cls := .type "tuple", data := .seq its.toArray }, toks := t' } := by
  have e : (h'.push { cls := .type "tuple", data := .seq its.toArray }).get? h'.objs.size = some { cls := .type "tuple", data := .seq its.toArray } := Heap.get?_push_size _ rfl
  have I2 : Inv X pins σ (upd H h'.objs.size (.frz { cls := .type "tuple", data := .seq its.toArray } (.tup xs))) { s with heap := h'.push { cls := .type "tuple", data := .seq its.toArray }, toks := t' } :=
    I.laid (t' := t') (fun b u z => Heap.get?_push_of_some _ z) (Nat.le_refl _) ⟨e, hz, its, r, ⟨_, e, rfl, _, rfl⟩⟩
  exact ⟨.ref _, _, I2, rfl, q _ _ (I.hok.fresh (Nat.le_refl _)) rfl⟩
end
def tTupP (t : TA) : TE := fun σ H Q => t σ H fun xs H1 => xs.length ≤ sizeLine ∧ QT Q H1 xs
section
variable {X : Cx} {es : List Expr} {t : TA} {pos : Pos}
theorem pe_tupP {k : Nat} (h : PA X es t) : PE X (.Tuple es k pos) (tTupP t) := by
  constructor
  intro pins s σ H Q I hq
  refine wpAny_Tuple_spliced (thn (h.run pos pins s σ H _ I hq) fun us s1 ⟨xs, H1, I1, r, z, q⟩ => ⟨Nat.le_trans (Nat.le_of_eq r.length.symm) z, ?_⟩)
  exact Inv.laidT (s := s1) I1 z r q
/-- tuple(xs) -/
theorem call_tupP : CallR X (.type "tuple") (fun xs H Q => ∃ p ys, xs = [.ref p] ∧ ((SqL X.K H p ys ∧ QT Q H ys) ∨ (SqT X.K H p ys ∧ Q (.ref p) H))) := by
  intro pins s σ H xs us Q I r h
  obtain ⟨p, ys, rfl, h⟩ := h
  obtain ⟨u, rfl, rx⟩ := vals1 r
  cases rx
  rcases h with ⟨hq, q⟩ | ⟨hq, q⟩
  · obtain ⟨its, rv, pl, hz⟩ := I.list hq
    have hl := rv.length
    refine call_tuple_list pl.isList (fun h' kp => ?_) (by simp only [List.size_toArray] <;> omega)
    have I1 : Inv X pins σ H { s with heap := h' } := I.kept (t' := s.toks) kp
    exact Inv.laidT I1 hz rv q
  · obtain ⟨its, rv, pl, hz⟩ := I.tuple hq
    exact call_tuple_same pl ⟨.ref p, H, I, rfl, q⟩
theorem call_divmodP : CallR X (.builtin "divmod") (fun xs H Q => ∃ i j, xs = [.int i, .int j] ∧ CDiv i j ∧ QT Q H [.int (i / j), .int (i % j)]) := by
  intro pins s σ H xs us Q I r h
  obtain ⟨i, j, rfl, ⟨c1, c2⟩, q⟩ := h
  obtain ⟨u, w', rfl, ⟨t1, rfl⟩, ⟨t2, rfl⟩⟩ := vals2 r
  refine divmod_int (by omega) ?_ (.inl (PyProof.noPylong_small (by omega)))
  rw [Int.fdiv_eq_ediv_of_nonneg i (by omega), Int.fmod_eq_emod_of_nonneg i (by omega)]
  refine Inv.laidT (its := [.int (i / j) s.toks, .int (i % j) (s.toks + 1)]) I ?_ ?_ q
  · rw [sizeLine_eq]; show 2 ≤ 16777216; decide
  · exact .cons ⟨_, rfl⟩ (.cons ⟨_, rfl⟩ .nil)
/-- t + u -/
theorem op_catP : OpR X (binaryOp .Add) (fun x y H Q => ∃ a b xs ys, x = .ref a ∧ y = .ref b ∧ SqT X.K H a xs ∧ SqT X.K H b ys ∧ xs.length + ys.length ≤ sizeLine ∧ (xs = [] → Q (.ref b) H) ∧ (ys = [] → Q (.ref a) H) ∧ QT Q H (xs ++ ys)) := by
  intro pins s σ H x y v u Q I rx ry h
  obtain ⟨a, b, xs, ys, rfl, rfl, ha, hb, hz, q0, q1, q2⟩ := h
  cases rx
  cases ry
  obtain ⟨its, r1, p1, _⟩ := I.tuple ha
  obtain ⟨its2, r2, p2, _⟩ := I.tuple hb
  by_cases hx : xs = []
  · subst hx
    cases r1
    exact cat_tup0 p1 p2 ⟨.ref b, H, I, rfl, q0 rfl⟩
  · have l1 := r1.length
    have l2 := r2.length
    refine HT.cat_tup p1 p2 (fun z => hx (r1.nil_iff.mp z)) (fun z => ⟨.ref a, H, I, rfl, q1 (r2.nil_iff.mp z)⟩) (fun z => ?_) (by omega)
    exact Inv.laidT (s := s) I (by rw [List.length_append]; exact hz) (r1.append r2) q2
/-- t[lo:hi] -/
theorem sl_tupP : SlR X (fun x lo hi H Q => ∃ a xs, x = .ref a ∧ SqT X.K H a xs ∧
    (HT.sIx xs.length 0 lo = 0 ∧ HT.sIx xs.length xs.length hi = xs.length → Q (.ref a) H) ∧ (¬ (HT.sIx xs.length 0 lo = 0 ∧ HT.sIx xs.length xs.length hi = xs.length) → QT Q H (cutV xs lo hi))) := by
  intro pins s σ H x v vl vu lo hi sl Q I rx hs pl pu h
  obtain ⟨a, xs, rfl, hx, q1, q2⟩ := h
  cases rx
  obtain ⟨its, rv, ht, hz⟩ := I.tuple hx
  have hlen : its.toArray.size = xs.length := by rw [List.size_toArray]; exact rv.length.symm
  refine ⟨"tuple", _, PyProof.Rows.slot_tuple_getitem.lookup, ht.typeIs, ?_⟩
  by_cases hw : HT.sIx xs.length 0 lo = 0 ∧ HT.sIx xs.length xs.length hi = xs.length
  · exact getItem_tuple_whole ht hs pl pu (by rw [hlen]; exact hw) ⟨.ref a, H, I, rfl, q1 hw⟩
  · refine HT.getItem_tuple_cut ht hs pl pu (by rw [hlen]; exact hw) ?_ (by rw [hlen]; exact hz)
    rw [hlen]
    exact Inv.laidT (s := s) I (Nat.le_trans (cutV_length xs lo hi) hz) ((rv.drop (HT.sIx xs.length 0 lo)).take (HT.sIx xs.length xs.length hi - HT.sIx xs.length 0 lo)) (q2 hw)
/-- t * n -/
theorem op_repP : OpR X (binaryOp .Mult) (fun x y H Q => ∃ l k xs, x = .ref l ∧ y = .int k ∧ SqT X.K H l xs ∧ xs ≠ [] ∧ 2 ≤ k ∧ k ≤ 1000 ∧ xs.length ≤ 1000 ∧ QT Q H (List.replicate k.toNat xs).flatten) := by
  intro pins s σ H x y v u Q I rx ry h
  obtain ⟨l, k, xs, rfl, rfl, hT, hne, k1, k2, hz, q⟩ := h
  cases rx
  obtain ⟨t, rfl⟩ := ry
  obtain ⟨its, r, ⟨⟨cls, dd, data, sl⟩, ho, hc, n, hd⟩, hs⟩ := I.tuple hT
  cases hc
  cases hd
  have hl := r.length
  have hi : its.toArray.isEmpty = false := by
    cases its with
    | nil => cases r; exact absurd rfl hne
    | cons a b => rfl
  have hsz : its.toArray.size = xs.length := by rw [List.size_toArray, hl]
  have hm : ((its.toArray.size : Nat) : Int) * k ≤ 1000000 := by
    have a1 : ((xs.length : Nat) : Int) * k ≤ 1000 * k := Int.mul_le_mul_of_nonneg_right (by omega) (by omega)
    rw [hsz]; omega
  have le6 : k.toNat * xs.length ≤ 1000 * 1000 := Nat.mul_le_mul (by omega) hz
  have fl : (List.replicate k.toNat its).flatten.length ≤ sizeLine := by rw [PyProof.Rows.lm_len_rep_flat, ← hl, sizeLine_eq]; omega
  have d0 : (decide (k < -(2 ^ 63)) || decide (k ≥ 2 ^ 63)) = false := by
    have x1 : decide (k < -(2 ^ 63)) = false := decide_eq_false (by omega)
    have x2 : decide (k ≥ 2 ^ 63) = false := decide_eq_false (by omega)
    rw [x1, x2]; rfl
  have d1 : (its.toArray.isEmpty || k == 1) = false := by
    have x1 : (k == 1) = false := beq_eq_false_iff_ne.mpr (by omega)
    rw [hi, x1]; rfl
  have d2 : (decide (k ≤ 0) || its.toArray.isEmpty) = false := by
    have x1 : decide (k ≤ 0) = false := decide_eq_false (by omega)
    rw [hi, x1]; rfl
  have d4 : Builtin.Tuple.tupleTooMany (((its.toArray.size : Nat) : Int) * k) = false := by
    unfold Builtin.Tuple.tupleTooMany
    exact decide_eq_false (by rw [sizeLine_eq]; omega)
  have mu := tuple_mulW l its.toArray n dd sl k t d0 d1 d2 (by omega) d4 (by rw [size_rep, List.size_toArray]; exact fl)
  have wq := Inv.laidT (s := s) (t' := s.toks) I (by rw [PyProof.Rows.lm_len_rep_flat, sizeLine_eq]; omega) (r.rep k.toNat) q
  rw [← size_rep] at wq
  have tz : s.TypeIs (.ref l) "tuple" := ⟨_, ho, rfl⟩
  exact wpAny_binaryOp_repeat_ref (T := "tuple") (U := "int") (by decide) tz (fun s' => typeIs_int s' k t) noFill_tuple_mul F.fills_int_mul F.slot_int_rmul repeat_tuple F.slot_int_index.lookup
    (call_meets F.slot_int_rmul (typeIs_int s k t) F.entry_int_rmul (F.args_int_rmul_2 _ _) (int_rmul_tuple k t l its.toArray n dd sl) ⟨ho, rfl, tz, call_meets F.slot_tuple_mul tz F.entry_tuple_mul (F.args_tuple_mul_2 _ _) mu ⟨ho, wq⟩⟩)
end
end Ev
set_option maxHeartbeats 2000000
/-! Ev, part 4: the operators. -/
namespace Ev
open PySem PySem.Spec PyProof.Rows L2

theorem szOk_of {n : Nat} (h : szOk n = true) : n ≤ sizeLine := by
  rw [sizeLine_eq]
  exact of_decide_eq_true h
theorem ba2 {a b : Bool} (h : (a && b) = true) : a = true ∧ b = true := Bool.and_eq_true_iff.mp h
theorem repOk_of {n : Nat} {j : Int} (h : repOk n j = true) : n * j.toNat ≤ sizeLine ∧ -1000000 < j ∧ j < 1000000 := by
  obtain ⟨h1, h2⟩ := ba2 h
  obtain ⟨h0, h1⟩ := ba2 h1
  exact ⟨szOk_of h0, of_decide_eq_true h1, of_decide_eq_true h2⟩
def mulP (i j : Int) : Prop := i.natAbs.log2 < 30000000 ∧ j.natAbs.log2 < 30000000
theorem mulP.ok {i j : Int} (h : mulP i j) : IntMulOk i j := by
  have b : ∀ x : Int, Builtin.Int.intBits x ≤ x.natAbs.log2 + 1 := fun x => by
    unfold Builtin.Int.intBits
    split <;> omega
  have h1 := b i
  have h2 := b j
  have h3 := h.1
  have h4 := h.2
  have e : bitsLine = 134217728 := by decide
  unfold IntMulOk
  intro z
  rw [Bool.and_eq_true] at z
  have z2 := z.2
  unfold Builtin.Int.intTooBig at z2
  have z3 := of_decide_eq_true z2
  rw [e] at z3
  omega
def bopE : Bop → Operator
  | .add => .Add
  | .sub => .Sub
  | .mul => .Mult
  | .fdv => .FloorDiv
  | .mod => .Mod
  | .pow => .Pow
  | .shr => .RShift
  | .band => .BitAnd
section
variable {X : Cx} {κ : Kx} {as : List Addr} {H : Hp} {S : Sto} {Q : VK}
theorem rdM {pins : List (Addr × Obj)} {s : Shared} {σ : L2.St} {H : Hp} {l : Addr} {xs : List V} (I : Inv X pins σ H s) (hH : Rd H l (.lst xs)) : xs.length ≤ sizeLine ∧ ∃ (its : List Value) (n : Nat), Vals xs its ∧ xs.length = its.length ∧ s.heap.get? l = some { cls := .type "list", data := .seq its.toArray n } := by
  obtain ⟨z, its, n, r, e⟩ := hH.ok I.hok
  exact ⟨z, its, n, r, r.length, e⟩
theorem op_mulM : OpR X (binaryOp .Mult) (rI mulP fun i j => .int (i * j)) := opI fun _ _ _ _ _ _ _ hc q => mul_int q hc.ok
theorem kD.tup (k : kD κ as H Q (.tup ds) S) (hS : RepS κ as H S) {vs : List V} (r : IsDs κ as H ds vs) : QT Q H vs := fun p o hp ho =>
  k as _ _ (Step.new hp) ⟨p, vs, rfl, ⟨.inl (.inr ⟨o, upd_same⟩), .inl ⟨o, _, upd_same, ho⟩⟩, r.mono (fun _ _ h => h) (Imm.new hp)⟩ (RepS.new hp hS)
theorem fold_app (x : Array Nat) : ∀ (m : Nat) (acc : Array Nat), (List.replicate m x).foldl (· ++ ·) acc = acc ++ ((List.replicate m x.toList).flatten).toArray
  | 0, acc => by simp
  | m + 1, acc => by
    rw [List.replicate_succ, List.foldl_cons, fold_app x m, List.replicate_succ, List.flatten_cons]
    apply Array.toList_inj.mp
    simp
/-- s * n -/
theorem op_repS : OpR X (binaryOp .Mult) (fun x y H Q => ∃ (z : Nm) (j : Int), x = .str (tx z) ∧ y = .int j ∧ repOk z.length j = true ∧ Q (.str (tx (List.replicate j.toNat z).flatten)) H) := by
  intro pins s σ H x y v u Q I rx ry h
  obtain ⟨z, j, rfl, rfl, ok, q⟩ := h
  obtain ⟨t, rfl⟩ := rx
  obtain ⟨t', rfl⟩ := ry
  obtain ⟨h1, h2, h3⟩ := repOk_of ok
  have el : (tx z).length = z.length := tx_len z
  refine PySem.P.mul_str ?_ (fun hn _ => ?_) (fun hn _ => ?_) ?_
  · rw [decide_eq_false (by omega), decide_eq_false (by omega)]; rfl
  · rw [el]
    have hz : z.length ≤ sizeLine := by
      have : 1 ≤ j.toNat := by omega
      exact Nat.le_trans (Nat.le_mul_of_pos_right _ this) h1
    rw [sizeLine_eq] at hz
    have : (16777216 : Int) ≤ (2 ^ 63 - 1) / j := by
      rw [Int.le_ediv_iff_mul_le (by omega)]
      omega
    omega
  · rw [el]
    unfold Builtin.Str.tooLong
    rw [decide_eq_false (by omega)]
  · by_cases hn : j < 1
    · rw [if_pos hn]
      refine ⟨by decide, ?_⟩
      have e : (List.replicate j.toNat z).flatten = [] := by
        have : j.toNat = 0 := by omega
        rw [this]; rfl
      rw [e] at q
      exact ⟨.str _, H, I.tok _, ⟨_, rfl⟩, q⟩
    · rw [if_neg hn]
      by_cases hb : (j == 1 || (tx z).length == 0) = true
      · rw [if_pos hb]
        have e : (List.replicate j.toNat z).flatten = z := by
          rcases Bool.or_eq_true_iff.mp hb with e | e
          · have : j = 1 := eq_of_beq e
            subst this
            simp
          · have : z.length = 0 := by rw [← el]; exact eq_of_beq e
            rw [List.length_eq_zero_iff.mp this]
            induction j.toNat with
            | zero => rfl
            | succ n ih => rw [List.replicate_succ, List.flatten_cons, ih]; rfl
        rw [e] at q
        exact ⟨.str _, H, I, ⟨_, rfl⟩, q⟩
      · rw [if_neg hb]
        have e : (⟨(List.replicate j.toNat (tx z).cps).foldl (· ++ ·) #[]⟩ : Str) = tx (List.replicate j.toNat z).flatten := by
          rw [fold_app, tx_list]
          simp [tx]
        rw [e]
        refine ⟨?_, ⟨.str _, H, I.tok _, ⟨_, rfl⟩, q⟩⟩
        rw [tx_len, List.length_flatten, List.map_replicate, List.sum_replicate_nat, Nat.mul_comm]
        exact h1
def rBin (κ : Kx) (o : Bop) : R2 := fun x y H Q => ∃ as S dx dy ke, RepS κ as H S ∧ IsV κ as H dx x ∧ IsV κ as H dy y ∧ Out (binD o dx dy S) (kD κ as H Q) ke
theorem op_bin (hκ : κ.K = X.K) (o : Bop) : OpR X (binaryOp (bopE o)) (rBin κ o) := by
  intro pins s σ H x y v u Q I rx ry q
  obtain ⟨as, S, dx, dy, ke, hS, wx, wy, b⟩ := q
  have ii : ∀ {i : Int} {x : V}, IsV κ as H (.int i) x → x = .int i := fun a => a
  have ss : ∀ {i : Nm} {x : V}, IsV κ as H (.str i) x → x = .str (tx i) := fun a => a.1
  cases o with
  | add =>
    cases dx with
    | int i => cases dy with
      | int j => exact OpR.use op_add I rx ry ⟨i, j, ii wx, ii wy, kD.here b rfl hS⟩
      | _ => exact b.elim
    | str i => cases dy with
      | str j =>
        obtain ⟨z, b⟩ := b.of_chk
        exact OpR.use op_add_str I rx ry ⟨tx i, tx j, ss wx, ss wy, by rw [tx_len, tx_len]; exact szOk_of z, by rw [← tx_app]; exact kD.here b ⟨rfl, by rw [List.length_append]; exact z⟩ hS⟩
      | _ => exact b.elim
    | tup xs => cases dy with
      | tup ys =>
        obtain ⟨z, b⟩ := b.of_chk
        obtain ⟨a, vs, ea, ha, ra⟩ := wx
        obtain ⟨a2, ws, eb, hb, rb⟩ := wy
        rw [hκ] at ha hb
        have hl : vs.length + ws.length ≤ sizeLine := by rw [← ra.length, ← rb.length]; exact szOk_of z
        refine OpR.use op_catP I rx ry ⟨a, a2, vs, ws, ea, eb, ha.sq, hb.sq, hl, fun z => ?_, fun z => ?_, kD.tup b hS (ra.append rb)⟩
        · have e : xs = [] := List.length_eq_zero_iff.mp (by rw [ra.length, z]; rfl)
          subst e
          exact kD.here b ⟨a2, ws, rfl, by rw [hκ]; exact hb, rb⟩ hS
        · have e : ys = [] := List.length_eq_zero_iff.mp (by rw [rb.length, z]; rfl)
          subst e
          have b2 : kD κ as H Q (.tup (xs ++ [])) S := b
          rw [List.append_nil] at b2
          exact kD.here b2 ⟨a, vs, rfl, by rw [hκ]; exact ha, ra⟩ hS
      | _ => exact b.elim
    | _ => exact b.elim
  | sub =>
    cases dx with
    | int i => cases dy with
      | int j => exact OpR.use op_sub I rx ry ⟨i, j, ii wx, ii wy, kD.here b rfl hS⟩
      | _ => exact b.elim
    | _ => exact b.elim
  | mul =>
    cases dx with
    | int i => cases dy with
      | int j =>
        obtain ⟨z, b⟩ := b.of_chk
        obtain ⟨z1, z2⟩ := ba2 z
        exact OpR.use op_mulM I rx ry ⟨i, j, ii wx, ii wy, ⟨of_decide_eq_true z1, of_decide_eq_true z2⟩, kD.here b rfl hS⟩
      | _ => exact b.elim
    | str i => cases dy with
      | int j =>
        obtain ⟨z, b⟩ := b.of_chk
        exact OpR.use op_repS I rx ry ⟨i, j, ss wx, ii wy, z, kD.here b ⟨rfl, by rw [List.length_flatten, List.map_replicate, List.sum_replicate_nat, Nat.mul_comm]; exact (ba2 (ba2 z).1).1⟩ hS⟩
      | _ => exact b.elim
    | tup xs => cases dy with
      | int j =>
        obtain ⟨z, b⟩ := b.of_chk
        obtain ⟨z, z4⟩ := ba2 z
        obtain ⟨z, z3⟩ := ba2 z
        obtain ⟨z1, z2⟩ := ba2 z
        obtain ⟨a, vs, ea, ha, ra⟩ := wx
        rw [hκ] at ha
        have rr : ∀ n : Nat, IsDs κ as H (List.replicate n xs).flatten (List.replicate n vs).flatten := fun n => by
          induction n with
          | zero => exact True.intro
          | succ n ih => rw [List.replicate_succ, List.replicate_succ, List.flatten_cons, List.flatten_cons]; exact ra.append ih
        refine OpR.use op_repP I rx ry ⟨a, j, vs, ea, ii wy, ha.sq, ?_, of_decide_eq_true z1, of_decide_eq_true z2, by rw [← ra.length]; exact of_decide_eq_true z3, kD.tup b hS (rr _)⟩
        rintro rfl
        have := ra.length
        cases xs with
        | nil => simp at z4
        | cons _ _ => simp at this
      | _ => exact b.elim
    | _ => exact b.elim
  | fdv =>
    cases dx with
    | int i => cases dy with
      | int j =>
        obtain ⟨z, b⟩ := b.of_chk
        obtain ⟨z1, z2⟩ := ba2 z
        exact OpR.use op_fdiv I rx ry ⟨i, j, ii wx, ii wy, ⟨of_decide_eq_true z1, of_decide_eq_true z2⟩, kD.here b rfl hS⟩
      | _ => exact b.elim
    | _ => exact b.elim
  | mod =>
    cases dx with
    | int i => cases dy with
      | int j =>
        obtain ⟨z, b⟩ := b.of_chk
        exact OpR.use op_mod I rx ry ⟨i, j, ii wx, ii wy, of_decide_eq_true z, kD.here b rfl hS⟩
      | _ => exact b.elim
    | _ => exact b.elim
  | pow =>
    cases dx with
    | int i => cases dy with
      | int j =>
        obtain ⟨z, b⟩ := b.of_chk
        obtain ⟨z, z3⟩ := ba2 z
        obtain ⟨z1, z2⟩ := ba2 z
        exact OpR.use op_pow I rx ry ⟨i, j, ii wx, ii wy, ⟨of_decide_eq_true z1, of_decide_eq_true z2, of_decide_eq_true z3⟩, kD.here b rfl hS⟩
      | _ => exact b.elim
    | _ => exact b.elim
  | shr =>
    cases dx with
    | int i => cases dy with
      | int j =>
        obtain ⟨z, b⟩ := b.of_chk
        exact OpR.use op_shr I rx ry ⟨i, j, ii wx, ii wy, of_decide_eq_true z, kD.here b rfl hS⟩
      | _ => exact b.elim
    | _ => exact b.elim
  | band =>
    cases dx with
    | int i => cases dy with
      | int j =>
        obtain ⟨z, b⟩ := b.of_chk
        obtain ⟨z1, z2⟩ := ba2 z
        have e : j = 1 := of_decide_eq_true z2
        subst e
        refine OpR.use op_and I rx ry ⟨i, 1, ii wx, ii wy, ?_⟩
        have e := Bits.bitAnd_mask (x := i) 1 (of_decide_eq_true z1)
        have e2 : Builtin.bitAnd i 1 = i % 2 := by
          have : (2 : Int) ^ 1 - 1 = 1 := by decide
          rw [this] at e
          rw [e]
          rfl
        show Q (.int (Builtin.bitAnd i 1)) H
        rw [e2]
        exact kD.here (w := .int (i % 2)) (Out.of_chk b).2 rfl hS
      | _ => exact b.elim
    | _ => exact b.elim
/-! xs + ys, xs * n of lists, new ones -/
theorem kN.lst (k : kN κ as H Q (.lst ds) S) (hS : RepS κ as H S) {vs : List V} (r : IsDs κ as H ds vs) : ∀ p, H p = none → Q (.ref p) (upd H p (.lst vs)) := fun p hp =>
  k as _ _ (Step.new hp) hp (fresh hp hS) ⟨vs, upd_same, r.mono (fun _ _ h => h) (Imm.new hp)⟩ (RepS.new hp hS)
theorem kN.dct (k : kN κ as H Q (.dct ds) S) (hS : RepS κ as H S) {kws : List (L2.Key × V)} (r : IsKs κ as H ds kws) : ∀ p, H p = none → Q (.ref p) (upd H p (.dK kws)) := fun p hp =>
  k as _ _ (Step.new hp) hp (fresh hp hS) ⟨kws, upd_same, r.mono (fun _ _ h => h) (Imm.new hp)⟩ (RepS.new hp hS)
def rCat (κ : Kx) : R2 := fun x y H Q => ∃ as S xs ys, RepS κ as H S ∧ IsV κ as H (.lst xs) x ∧ IsV κ as H (.lst ys) y ∧ szOk (xs.length + ys.length) = true ∧ kN κ as H Q (.lst (xs ++ ys)) S
theorem op_catN : OpR X (binaryOp .Add) (rCat κ) := by
  intro pins s σ H x y v u Q I rx ry ⟨as, S, xs, ys, hS, wx, wy, z, k⟩
  obtain ⟨a, vs, rfl, ha, ra⟩ := wx
  obtain ⟨b, ws, rfl, hb, rb⟩ := wy
  obtain rfl : v = .ref a := rx
  obtain rfl : u = .ref b := ry
  have ⟨_, us, _, ru, lu, gu⟩ := rdM I ha
  have ⟨_, ts, _, rt, lt, gt⟩ := rdM I hb
  have z' := szOk_of z
  have l1 := ra.length
  have l2 := rb.length
  have J := I.lnew (t' := s.toks) (ru.append rt) (by rw [List.length_append]; omega)
  refine PySem.P.add_list gu gt ?_ (by simp only [List.size_toArray]; omega)
  rw [show us.toArray ++ ts.toArray = (us ++ ts).toArray by simp]
  exact ⟨.ref s.heap.objs.size, _, J, rfl, kN.lst k hS (ra.append rb) _ I.fresh⟩
def rRepN (κ : Kx) : R2 := fun x y H Q => ∃ as S xs j, RepS κ as H S ∧ IsV κ as H (.lst xs) x ∧ y = .int j ∧ repOk xs.length j = true ∧ kN κ as H Q (.lst (List.replicate j.toNat xs).flatten) S
theorem op_repN : OpR X (binaryOp .Mult) (rRepN κ) := by
  intro pins s σ H x y v u Q I rx ry ⟨as, S, xs, k, hS, wx, ey, z, kk⟩
  obtain ⟨l, vs, rfl, ha, ra⟩ := wx
  subst ey
  obtain rfl : v = .ref l := rx
  obtain ⟨t, rfl⟩ := ry
  obtain ⟨z0, its, n, r, hl, e⟩ := rdM I ha
  obtain ⟨z1, z2, z3⟩ := repOk_of z
  have el := ra.length
  have hlen : its.toArray.size * k.toNat ≤ sizeLine := by rw [List.size_toArray, ← hl, ← el]; exact z1
  have hcap : ¬ its.toArray.size * k.toNat > (2 ^ 63 - 1) / 8 := by
    have : (sizeLine : Nat) ≤ (2 ^ 63 - 1) / 8 := by decide
    omega
  have hfit : ¬ (!Builtin.List.listFitsIndex k) = true := by
    rw [fitsIndex_both (by omega) (by omega)]
    exact Bool.false_ne_true
  have hlong : ¬ Builtin.List.listTooLong (its.toArray.size * k.toNat) = true := by
    rw [notLongL hlen]
    exact Bool.false_ne_true
  have hnew : List.foldl (fun x1 x2 => x1 ++ x2) #[] (List.replicate (if its.toArray.isEmpty = true then 0 else k.toNat) its.toArray) = (List.replicate k.toNat its).flatten.toArray := by
    have f0 : ∀ m : Nat, List.foldl (fun x1 x2 => x1 ++ x2) #[] (List.replicate m its.toArray) = (List.replicate m its).flatten.toArray := fun m => by
      have := foldl_rep its m []
      rw [List.nil_append] at this
      exact this
    rw [f0]
    cases its with
    | nil => simp
    | cons a r' => rw [if_neg (by simp)]
  have rr : ∀ n : Nat, IsDs κ as H (List.replicate n xs).flatten (List.replicate n vs).flatten := fun n => by
    induction n with
    | zero => exact True.intro
    | succ n ih => rw [List.replicate_succ, List.replicate_succ, List.flatten_cons, List.flatten_cons]; exact ra.append ih
  refine wpAny_binaryOp_repeat_ref (T := "list") (U := "int") (by decide) ⟨_, e, rfl⟩ (fun s' => typeIs_int s' k t) noFill_list_mul PySem.F.fills_int_mul PySem.F.slot_int_rmul repeat_list PySem.F.slot_int_index.lookup
    (call_meets PySem.F.slot_int_rmul (typeIs_int s k t) PySem.F.entry_int_rmul (PySem.F.args_int_rmul_2 _ _) (int___rmul___int_list k t l its.toArray n)
      ⟨e, rfl, ⟨_, e, rfl⟩, call_meets PySem.F.slot_list_mul ⟨_, e, rfl⟩ PySem.F.entry_list_mul (PySem.F.args_list_mul_2 _ _) (AutoListH.list___mul___list_int_3 l its.toArray n k t hfit hcap hlong) ⟨e, ?_⟩⟩)
  rw [hnew]
  exact ⟨.ref _, _, I.lnew (t' := s.toks) (r.rep k.toNat) (by rw [PyProof.Rows.lm_len_rep_flat, Nat.mul_comm, ← el]; exact z1), rfl, kN.lst kk hS (rr _) _ I.fresh⟩
end
end Ev
set_option maxHeartbeats 2000000
/-! Ev, part 5: == and its kin over trees. -/
namespace Ev
open PySem PySem.Spec PyProof.Rows L2 PySem.SeqAt

mutual
def RdV (h : Heap) : D → Value → Prop
  | .non, u => u = .none
  | .bl b, u => u = .bool b
  | .int i, u => ∃ t, u = .int i t
  | .str x, u => ∃ t, u = .str (tx x) t
  | .tup ds, u => ∃ l its, u = .ref l ∧ h.IsTuple l its.toArray ∧ RdVs h ds its
  | .lst ds, u => ∃ l its, u = .ref l ∧ h.IsList l its.toArray ∧ RdVs h ds its
  | _, _ => False
def RdVs (h : Heap) : List D → List Value → Prop
  | [], [] => True
  | d :: ds, u :: us => RdV h d u ∧ RdVs h ds us
  | _, _ => False
end
theorem RdVs.length {h : Heap} : ∀ {ds : List D} {us : List Value}, RdVs h ds us → ds.length = us.length
  | [], [], _ => rfl
  | _ :: _, _ :: _, r => congrArg (· + 1) (RdVs.length r.2)
  | [], _ :: _, r => r.elim
  | _ :: _, [], r => r.elim
theorem Vals.mk {x : V} {xs : List V} {u : Value} {us : List Value} (h : Vals (x :: xs) (u :: us)) : RelV x u ∧ Vals xs us := by
  cases h with
  | cons a b => exact ⟨a, b⟩
section
variable {X : Cx} {κ : Kx} {as : List Addr} {pins : List (Addr × Obj)} {σ : L2.St} {H : Hp} {s : Shared}
mutual
theorem rdv_of (hκ : κ.K = X.K) (I : Inv X pins σ H s) : ∀ {d : D} {n : Nat} {v : V} {u : Value}, okD d n = true → IsV κ as H d v → RelV v u → RdV s.heap d u
  | .tup ds, n, v, u, ok, h, r => by
    obtain ⟨a, vs, rfl, hq, hd⟩ := h
    cases r
    obtain ⟨its, rv, p, _⟩ := I.tuple (hκ ▸ hq.sq)
    have ok' : (decide (0 < n) && okDs ds (n - 1)) = true := by rw [okD] at ok; exact ok
    exact ⟨a, its, rfl, p, rdvs_of hκ I (Bool.and_eq_true_iff.mp ok').2 hd rv⟩
  | .lst ds, n, v, u, ok, h, r => by
    obtain ⟨a, vs, rfl, hq, hd⟩ := h
    cases r
    obtain ⟨its, rv, p, _⟩ := I.list (.inl hq)
    have ok' : (decide (0 < n) && okDs ds (n - 1)) = true := by rw [okD] at ok; exact ok
    exact ⟨a, its, rfl, p.isList, rdvs_of hκ I (Bool.and_eq_true_iff.mp ok').2 hd rv⟩
  | .non, n, v, u, ok, h, r => by
    have e : v = V.non := h
    subst e
    exact r
  | .bl b, n, v, u, ok, h, r => by
    have e : v = V.bl b := h
    subst e
    exact r
  | .int i, n, v, u, ok, h, r => by
    have e : v = V.int i := h
    subst e
    exact r
  | .str x, n, v, u, ok, h, r => by
    have e : v = V.str (tx x) := h.1
    subst e
    exact r
  | .ref x, n, v, u, ok, h, r => by simp [okD] at ok
  | .scr x, n, v, u, ok, h, r => by simp [okD] at ok
  | .dic x, n, v, u, ok, h, r => by simp [okD] at ok
  | .kdic x, n, v, u, ok, h, r => by simp [okD] at ok
  | .exc x y, n, v, u, ok, h, r => by simp [okD] at ok
  | .obj x y, n, v, u, ok, h, r => by simp [okD] at ok
  | .fn x, n, v, u, ok, h, r => by simp [okD] at ok
theorem rdvs_of (hκ : κ.K = X.K) (I : Inv X pins σ H s) : ∀ {ds : List D} {n : Nat} {vs : List V} {us : List Value}, okDs ds n = true → IsDs κ as H ds vs → Vals vs us → RdVs s.heap ds us
  | [], n, vs, us, ok, h, r => by
    cases vs with
    | nil => cases r; exact True.intro
    | cons _ _ => exact h.elim
  | d :: ds, n, vs, us, ok, h, r => by
    cases vs with
    | nil => exact h.elim
    | cons v vs =>
      cases us with
      | nil => cases r
      | cons u us =>
        obtain ⟨r1, r2⟩ := Vals.mk r
        have ok' : (okD d n && okDs ds n) = true := by rw [okDs] at ok; exact ok
        obtain ⟨o1, o2⟩ := Bool.and_eq_true_iff.mp ok'
        exact ⟨rdv_of hκ I o1 h.1.v r1, rdvs_of hκ I o2 h.2 r2⟩
end
end
theorem tup_inj {h : Heap} {l : Addr} {a b : Array Value} (x : h.IsTuple l a) (y : h.IsTuple l b) : a = b := by
  obtain ⟨o, e, _, n, d⟩ := x
  obtain ⟨o', e', _, n', d'⟩ := y
  rw [e] at e'
  cases e'
  rw [d] at d'
  injection d'
theorem lst_inj {h : Heap} {l : Addr} {a b : Array Value} (x : h.IsList l a) (y : h.IsList l b) : a = b := by
  obtain ⟨o, e, _, n, d⟩ := x
  obtain ⟨o', e', _, n', d'⟩ := y
  rw [e] at e'
  cases e'
  rw [d] at d'
  injection d'
theorem lst_tup {h : Heap} {l : Addr} {a b : Array Value} (x : h.IsList l a) (y : h.IsTuple l b) : False := by
  obtain ⟨o, e, c, n, d⟩ := x
  obtain ⟨o', e', c', n', d'⟩ := y
  rw [e] at e'
  cases e'
  rw [c] at c'
  exact absurd c' (by decide)
mutual
theorem rdv_same {h : Heap} : ∀ {d e : D} {u : Value}, RdV h d u → RdV h e u → eqv d e = true
  | .non, e, u, a, b => by
    cases a
    cases e with
    | non => rfl
    | bl b' => cases b
    | int i => obtain ⟨t, b⟩ := b; cases b
    | str x => obtain ⟨t, b⟩ := b; cases b
    | tup ds => obtain ⟨_, _, b, _⟩ := b; cases b
    | lst ds => obtain ⟨_, _, b, _⟩ := b; cases b
    | _ => exact b.elim
  | .bl x, e, u, a, b => by
    cases a
    cases e with
    | non => cases b
    | bl b' => cases b; simp [eqv]
    | int i => obtain ⟨t, b⟩ := b; cases b
    | str x => obtain ⟨t, b⟩ := b; cases b
    | tup ds => obtain ⟨_, _, b, _⟩ := b; cases b
    | lst ds => obtain ⟨_, _, b, _⟩ := b; cases b
    | _ => exact b.elim
  | .int x, e, u, a, b => by
    obtain ⟨t0, rfl⟩ := a
    cases e with
    | non => cases b
    | bl b' => cases b
    | int i => obtain ⟨t, b⟩ := b; cases b; simp [eqv]
    | str x => obtain ⟨t, b⟩ := b; cases b
    | tup ds => obtain ⟨_, _, b, _⟩ := b; cases b
    | lst ds => obtain ⟨_, _, b, _⟩ := b; cases b
    | _ => exact b.elim
  | .str x, e, u, a, b => by
    obtain ⟨t0, rfl⟩ := a
    cases e with
    | non => cases b
    | bl b' => cases b
    | int i => obtain ⟨t, b⟩ := b; cases b
    | str x => obtain ⟨t, b⟩ := b; cases b; simp [eqv]
    | tup ds => obtain ⟨_, _, b, _⟩ := b; cases b
    | lst ds => obtain ⟨_, _, b, _⟩ := b; cases b
    | _ => exact b.elim
  | .tup xs, e, u, a, b => by
    obtain ⟨l, its, rfl, p, r⟩ := a
    cases e with
    | non => cases b
    | bl b' => cases b
    | int i => obtain ⟨t, b⟩ := b; cases b
    | str x => obtain ⟨t, b⟩ := b; cases b
    | tup ds =>
      obtain ⟨l', its', e, p', r'⟩ := b
      cases e
      have e2 := tup_inj p p'
      have e3 : its = its' := by simpa using e2
      subst e3
      rw [eqv]
      exact rdvs_same r r'
    | lst ds =>
      obtain ⟨l', its', e, p', r'⟩ := b
      cases e
      exact (lst_tup p' p).elim
    | _ => exact b.elim
  | .lst xs, e, u, a, b => by
    obtain ⟨l, its, rfl, p, r⟩ := a
    cases e with
    | non => cases b
    | bl b' => cases b
    | int i => obtain ⟨t, b⟩ := b; cases b
    | str x => obtain ⟨t, b⟩ := b; cases b
    | lst ds =>
      obtain ⟨l', its', e, p', r'⟩ := b
      cases e
      have e2 := lst_inj p p'
      have e3 : its = its' := by simpa using e2
      subst e3
      rw [eqv]
      exact rdvs_same r r'
    | tup ds =>
      obtain ⟨l', its', e, p', r'⟩ := b
      cases e
      exact (lst_tup p p').elim
    | _ => exact b.elim
  | .fn _, _, _, a, _ => a.elim
  | .obj _ _, _, _, a, _ => a.elim
  | .ref _, _, _, a, _ => a.elim
  | .scr _, _, _, a, _ => a.elim
  | .dic _, _, _, a, _ => a.elim
  | .kdic _, _, _, a, _ => a.elim
  | .exc _ _, _, _, a, _ => a.elim
theorem rdvs_same {h : Heap} : ∀ {ds es : List D} {us : List Value}, RdVs h ds us → RdVs h es us → eqvs ds es = true
  | [], [], _, _, _ => by rw [eqvs]
  | [], _ :: _, [], _, b => b.elim
  | [], _ :: _, _ :: _, a, _ => a.elim
  | _ :: _, _, [], a, _ => a.elim
  | _ :: _, [], _ :: _, _, b => b.elim
  | d :: ds, e :: es, u :: us, a, b => by
    rw [eqvs, rdv_same a.1 b.1, rdvs_same a.2 b.2]
    rfl
end
def pEq (xs ys : List D) (j : Nat) : Bool := match xs[j]?, ys[j]? with
  | some x, some y => eqv x y
  | _, _ => true
theorem eqvs_eq : ∀ xs ys : List D, ((List.range (min xs.length ys.length)).all (pEq xs ys) && xs.length == ys.length) = eqvs xs ys
  | [], [] => by rw [eqvs]; rfl
  | [], _ :: _ => by rw [eqvs]; rfl; all_goals simp
  | _ :: _, [] => by rw [eqvs]; rfl; all_goals simp
  | x :: xs, y :: ys => by
    rw [eqvs, ← eqvs_eq xs ys]
    have e : min (x :: xs).length (y :: ys).length = min xs.length ys.length + 1 := by simp only [List.length_cons]; omega
    rw [e, List.range_succ_eq_map, List.all_cons, List.all_map]
    have e0 : pEq (x :: xs) (y :: ys) 0 = eqv x y := rfl
    have e1 : (pEq (x :: xs) (y :: ys) ∘ Nat.succ) = pEq xs ys := by
      funext j
      simp [pEq, Function.comp]
    rw [e0, e1, Bool.and_assoc]
    congr 1
    simp
theorem eqvs_len {xs ys : List D} (h : xs.length = ys.length) : (List.range xs.length).all (pEq xs ys) = eqvs xs ys := by
  rw [← eqvs_eq, h]
  simp
theorem eqvs_ne {xs ys : List D} (h : xs.length ≠ ys.length) : eqvs xs ys = false := by
  rw [← eqvs_eq]
  simp [h]
theorem strEq (x y : Nm) : (tx x == tx y) = (x == y) := by
  by_cases h : x = y
  · subst h; simp
  · rw [beq_eq_false_iff_ne.mpr fun z => h (tx_inj z), beq_eq_false_iff_ne.mpr h]
theorem rm {u n : Nat} (h : u + n < cLine) : u < cLine := by omega
mutual
theorem rcAt {A : Around} {s : Shared} : ∀ {d e : D} {a b : Value} {n : Nat}, okD d n = true → A.units + n < cLine → RdV s.heap d a → RdV s.heap e b → RcAt A s a b (eqv d e)
  | .non, e, a, b, n, ok, hu, ra, rb => by
    cases ra
    cases e with
    | non => cases rb; exact RcAt.none_none
    | bl y => cases rb; exact RcAt.none_bool y
    | int y => obtain ⟨u, rfl⟩ := rb; exact RcAt.none_int y u
    | str y => obtain ⟨u, rfl⟩ := rb; exact RcAt.none_str (tx y) u
    | lst y => obtain ⟨l, its, rfl, p, _⟩ := rb; exact RcAt.none_list p (rm hu)
    | tup y => obtain ⟨l, its, rfl, p, _⟩ := rb; exact RcAt.none_tuple p (rm hu)
    | _ => exact rb.elim
  | .bl x, e, a, b, n, ok, hu, ra, rb => by
    cases ra
    cases e with
    | non => cases rb; exact RcAt.bool_none x
    | bl y => cases rb; exact RcAt.bool_bool x y
    | int y => obtain ⟨u, rfl⟩ := rb; exact RcAt.bool_int x y u
    | str y => obtain ⟨u, rfl⟩ := rb; exact RcAt.bool_str x (tx y) u
    | lst y => obtain ⟨l, its, rfl, p, _⟩ := rb; exact RcAt.bool_list x p (rm hu)
    | tup y => obtain ⟨l, its, rfl, p, _⟩ := rb; exact RcAt.bool_tuple x p (rm hu)
    | _ => exact rb.elim
  | .int x, e, a, b, n, ok, hu, ra, rb => by
    obtain ⟨t, rfl⟩ := ra
    cases e with
    | non => cases rb; exact RcAt.int_none x t
    | bl y => cases rb; exact RcAt.int_bool x t y
    | int y => obtain ⟨u, rfl⟩ := rb; exact RcAt.int_int x t y u
    | str y => obtain ⟨u, rfl⟩ := rb; exact RcAt.int_str x t (tx y) u
    | lst y => obtain ⟨l, its, rfl, p, _⟩ := rb; exact RcAt.int_list x t p (rm hu)
    | tup y => obtain ⟨l, its, rfl, p, _⟩ := rb; exact RcAt.int_tuple x t p (rm hu)
    | _ => exact rb.elim
  | .str x, e, a, b, n, ok, hu, ra, rb => by
    obtain ⟨t, rfl⟩ := ra
    cases e with
    | non => cases rb; exact RcAt.str_none (tx x) t
    | bl y => cases rb; exact RcAt.str_bool (tx x) t y
    | int y => obtain ⟨u, rfl⟩ := rb; exact RcAt.str_int (tx x) t y u
    | str y => obtain ⟨u, rfl⟩ := rb; exact (by have h := RcAt.str_str (A := A) (s := s) (tx x) t (tx y) u; rw [strEq] at h; exact h)
    | lst y => obtain ⟨l, its, rfl, p, _⟩ := rb; exact RcAt.str_list (tx x) t p (rm hu)
    | tup y => obtain ⟨l, its, rfl, p, _⟩ := rb; exact RcAt.str_tuple (tx x) t p (rm hu)
    | _ => exact rb.elim
  | .lst xs, e, a, b, n, ok, hu, ra, rb => by
    obtain ⟨l, its, rfl, p, r⟩ := ra
    have ok' : (decide (0 < n) && okDs xs (n - 1)) = true := by rw [okD] at ok; exact ok
    obtain ⟨h0, h1⟩ := Bool.and_eq_true_iff.mp ok'
    have h0' : 0 < n := of_decide_eq_true h0
    cases e with
    | non => cases rb; exact RcAt.list_none p (rm hu)
    | bl y => cases rb; exact RcAt.list_bool y p (rm hu)
    | int y => obtain ⟨u, rfl⟩ := rb; exact RcAt.list_int y u p (rm hu)
    | str y => obtain ⟨u, rfl⟩ := rb; exact RcAt.list_str (tx y) u p (rm hu)
    | tup y => obtain ⟨l', its', rfl, p', _⟩ := rb; exact RcAt.list_tuple p p' (rm hu)
    | lst ys =>
      obtain ⟨l', its', rfl, p', r'⟩ := rb
      have n1 := r.length
      have n2 := r'.length
      have he : ∀ j (j1 : j < its.toArray.size) (j2 : j < its'.toArray.size), EqAt A.in1 s its.toArray[j] its'.toArray[j] (pEq xs ys j) := fun j j1 j2 => by
        have hu' : A.in1.units + (n - 1) < cLine := by show A.units + 1 + (n - 1) < cLine; omega
        have := eqAts (A := A.in1) (s := s) h1 hu' r r' j (by simpa using j1) (by simpa using j2)
        simpa using this
      show RcAt A s (.ref l) (.ref l') (eqvs xs ys)
      by_cases hsz : its.toArray.size = its'.toArray.size
      · have e : xs.length = ys.length := by rw [n1, n2]; simpa using hsz
        rw [← eqvs_len e, n1]
        have z := RcAt.lists p p' hsz (rm hu) he
        simpa using z
      · rw [eqvs_ne (by rw [n1, n2]; simpa using hsz)]
        exact RcAt.lists_lengths p p' (by simpa using hsz) (rm hu)
    | _ => exact rb.elim
  | .tup xs, e, a, b, n, ok, hu, ra, rb => by
    obtain ⟨l, its, rfl, p, r⟩ := ra
    have ok' : (decide (0 < n) && okDs xs (n - 1)) = true := by rw [okD] at ok; exact ok
    obtain ⟨h0, h1⟩ := Bool.and_eq_true_iff.mp ok'
    have h0' : 0 < n := of_decide_eq_true h0
    cases e with
    | non => cases rb; exact RcAt.tuple_none p (rm hu)
    | bl y => cases rb; exact RcAt.tuple_bool y p (rm hu)
    | int y => obtain ⟨u, rfl⟩ := rb; exact RcAt.tuple_int y u p (rm hu)
    | str y => obtain ⟨u, rfl⟩ := rb; exact RcAt.tuple_str (tx y) u p (rm hu)
    | lst y => obtain ⟨l', its', rfl, p', _⟩ := rb; exact RcAt.tuple_list p p' (rm hu)
    | tup ys =>
      obtain ⟨l', its', rfl, p', r'⟩ := rb
      have n1 := r.length
      have n2 := r'.length
      have he : ∀ j (j1 : j < its.toArray.size) (j2 : j < its'.toArray.size), EqAt A.in1 s its.toArray[j] its'.toArray[j] (pEq xs ys j) := fun j j1 j2 => by
        have hu' : A.in1.units + (n - 1) < cLine := by show A.units + 1 + (n - 1) < cLine; omega
        have := eqAts (A := A.in1) (s := s) h1 hu' r r' j (by simpa using j1) (by simpa using j2)
        simpa using this
      show RcAt A s (.ref l) (.ref l') (eqvs xs ys)
      rw [← eqvs_eq xs ys, n1, n2]
      have z := RcAt.tuples p p' (rm hu) he
      simpa using z
    | _ => exact rb.elim
  | .fn _, _, _, _, _, _, _, a, _ => a.elim
  | .obj _ _, _, _, _, _, _, _, a, _ => a.elim
  | .ref _, _, _, _, _, _, _, a, _ => a.elim
  | .scr _, _, _, _, _, _, _, a, _ => a.elim
  | .dic _, _, _, _, _, _, _, a, _ => a.elim
  | .kdic _, _, _, _, _, _, _, a, _ => a.elim
  | .exc _ _, _, _, _, _, _, _, a, _ => a.elim
termination_by d => (sizeOf d, 0)
theorem eqAt {A : Around} {s : Shared} : ∀ {d e : D} {a b : Value} {n : Nat}, okD d n = true → A.units + n < cLine → RdV s.heap d a → RdV s.heap e b → EqAt A s a b (eqv d e)
  | .non, e, a, b, n, ok, hu, ra, rb => by
    cases ra
    cases e with
    | non => cases rb; exact EqAt.same _
    | bl y => cases rb; exact EqAt.none_bool  y
    | int y => obtain ⟨u, rfl⟩ := rb; exact EqAt.none_int  y u
    | str y => obtain ⟨u, rfl⟩ := rb; exact EqAt.none_str  (tx y) u
    | lst y => obtain ⟨l, its, rfl, p, _⟩ := rb; exact EqAt.none_list  p (rm hu)
    | tup y => obtain ⟨l, its, rfl, p, _⟩ := rb; exact EqAt.none_tuple  p (rm hu)
    | _ => exact rb.elim
  | .bl x, e, a, b, n, ok, hu, ra, rb => by
    cases ra
    cases e with
    | non => cases rb; exact EqAt.bool_none x 
    | bl y => cases rb; exact EqAt.bool_bool x y
    | int y => obtain ⟨u, rfl⟩ := rb; exact EqAt.bool_int x y u
    | str y => obtain ⟨u, rfl⟩ := rb; exact EqAt.bool_str x (tx y) u
    | lst y => obtain ⟨l, its, rfl, p, _⟩ := rb; exact EqAt.bool_list x p (rm hu)
    | tup y => obtain ⟨l, its, rfl, p, _⟩ := rb; exact EqAt.bool_tuple x p (rm hu)
    | _ => exact rb.elim
  | .int x, e, a, b, n, ok, hu, ra, rb => by
    obtain ⟨t, rfl⟩ := ra
    cases e with
    | non => cases rb; exact EqAt.int_none x t 
    | bl y => cases rb; exact EqAt.int_bool x t y
    | int y => obtain ⟨u, rfl⟩ := rb; exact EqAt.int_int x t y u
    | str y => obtain ⟨u, rfl⟩ := rb; exact EqAt.int_str x t (tx y) u
    | lst y => obtain ⟨l, its, rfl, p, _⟩ := rb; exact EqAt.int_list x t p (rm hu)
    | tup y => obtain ⟨l, its, rfl, p, _⟩ := rb; exact EqAt.int_tuple x t p (rm hu)
    | _ => exact rb.elim
  | .str x, e, a, b, n, ok, hu, ra, rb => by
    obtain ⟨t, rfl⟩ := ra
    cases e with
    | non => cases rb; exact EqAt.str_none (tx x) t 
    | bl y => cases rb; exact EqAt.str_bool (tx x) t y
    | int y => obtain ⟨u, rfl⟩ := rb; exact EqAt.str_int (tx x) t y u
    | str y => obtain ⟨u, rfl⟩ := rb; exact (by have h := EqAt.str_str (A := A) (s := s) (tx x) t (tx y) u; rw [strEq] at h; exact h)
    | lst y => obtain ⟨l, its, rfl, p, _⟩ := rb; exact EqAt.str_list (tx x) t p (rm hu)
    | tup y => obtain ⟨l, its, rfl, p, _⟩ := rb; exact EqAt.str_tuple (tx x) t p (rm hu)
    | _ => exact rb.elim
  | .lst xs, e, a, b, n, ok, hu, ra, rb => by
    have ra0 := ra
    obtain ⟨l, its, rfl, p, r⟩ := ra
    cases e with
    | non => cases rb; exact EqAt.list_none  p (rm hu)
    | bl y => cases rb; exact EqAt.list_bool y p (rm hu)
    | int y => obtain ⟨u, rfl⟩ := rb; exact EqAt.list_int y u p (rm hu)
    | str y => obtain ⟨u, rfl⟩ := rb; exact EqAt.list_str (tx y) u p (rm hu)
    | lst ys =>
      have rb0 := rb
      obtain ⟨l', its', rfl, p', r'⟩ := rb
      by_cases hll : l = l'
      · subst hll
        rw [rdv_same ra0 rb0]
        exact EqAt.same _
      · exact EqAt.of_refs hll (rcAt ok hu ra0 rb0)
    | tup y => obtain ⟨l', its', rfl, p', _⟩ := rb; exact EqAt.list_tuple p p' (rm hu)
    | _ => exact rb.elim
  | .tup xs, e, a, b, n, ok, hu, ra, rb => by
    have ra0 := ra
    obtain ⟨l, its, rfl, p, r⟩ := ra
    cases e with
    | non => cases rb; exact EqAt.tuple_none  p (rm hu)
    | bl y => cases rb; exact EqAt.tuple_bool y p (rm hu)
    | int y => obtain ⟨u, rfl⟩ := rb; exact EqAt.tuple_int y u p (rm hu)
    | str y => obtain ⟨u, rfl⟩ := rb; exact EqAt.tuple_str (tx y) u p (rm hu)
    | lst y => obtain ⟨l', its', rfl, p', _⟩ := rb; exact EqAt.tuple_list p p' (rm hu)
    | tup ys =>
      have rb0 := rb
      obtain ⟨l', its', rfl, p', r'⟩ := rb
      by_cases hll : l = l'
      · subst hll
        rw [rdv_same ra0 rb0]
        exact EqAt.same _
      · exact EqAt.of_refs hll (rcAt ok hu ra0 rb0)
    | _ => exact rb.elim
  | .fn _, _, _, _, _, _, _, a, _ => a.elim
  | .obj _ _, _, _, _, _, _, _, a, _ => a.elim
  | .ref _, _, _, _, _, _, _, a, _ => a.elim
  | .scr _, _, _, _, _, _, _, a, _ => a.elim
  | .dic _, _, _, _, _, _, _, a, _ => a.elim
  | .kdic _, _, _, _, _, _, _, a, _ => a.elim
  | .exc _ _, _, _, _, _, _, _, a, _ => a.elim
termination_by d => (sizeOf d, 1)
theorem eqAts {A : Around} {s : Shared} : ∀ {ds es : List D} {us ws : List Value} {n : Nat}, okDs ds n = true → A.units + n < cLine → RdVs s.heap ds us → RdVs s.heap es ws → ∀ j (h1 : j < us.length) (h2 : j < ws.length), EqAt A s us[j] ws[j] (pEq ds es j)
  | [], _, us, _, n, ok, hu, ra, rb, j, h1, h2 => by
    cases us with
    | nil => simp at h1
    | cons _ _ => exact ra.elim
  | d :: ds, [], us, ws, n, ok, hu, ra, rb, j, h1, h2 => by
    cases ws with
    | nil => simp at h2
    | cons _ _ => exact rb.elim
  | d :: ds, e :: es, us, ws, n, ok, hu, ra, rb, j, h1, h2 => by
    cases us with
    | nil => simp at h1
    | cons u us =>
      cases ws with
      | nil => simp at h2
      | cons w ws =>
        have ok' : (okD d n && okDs ds n) = true := by rw [okDs] at ok; exact ok
        obtain ⟨o1, o2⟩ := Bool.and_eq_true_iff.mp ok'
        cases j with
        | zero => exact eqAt o1 hu ra.1 rb.1
        | succ j =>
          have z := eqAts o2 hu ra.2 rb.2 j (by simpa using h1) (by simpa using h2)
          simpa [pEq] using z
termination_by ds => (sizeOf ds, 2)
end
end Ev
set_option maxHeartbeats 4000000
/-! Ev, part 5b: things as data by which they are put in order. -/
namespace Ev
open PySem PySem.Spec PyProof.Rows L2 PySem.W
theorem pdDs_map : ∀ xs : List D, pdD.pdDs xs = xs.map pdD
  | [] => rfl
  | x :: xs => by rw [pdD.pdDs, pdDs_map xs]; rfl
mutual
theorem reads_of {h : Heap} : ∀ {d : D} {n : Nat} {u : Value}, okD d n = true → RdV h d u → ∃ as, Reads h u (pdD d) as
  | .non, n, u, ok, r => by cases r; exact ⟨[], .none⟩
  | .bl b, n, u, ok, r => by cases r; exact ⟨[], .bool b⟩
  | .int i, n, u, ok, r => by obtain ⟨t, rfl⟩ := r; exact ⟨[], .int i t⟩
  | .str x, n, u, ok, r => by obtain ⟨t, rfl⟩ := r; exact ⟨[], .str _ t⟩
  | .tup ds, n, u, ok, r => by
    obtain ⟨l, its, rfl, ⟨o, ho, hc, k, hd⟩, rs⟩ := r
    have ok' : (decide (0 < n) && okDs ds (n - 1)) = true := by rw [okD] at ok; exact ok
    obtain ⟨as, ra⟩ := readsAll_of (Bool.and_eq_true_iff.mp ok').2 rs
    exact ⟨as, .tuple ho hc hd (by simpa using ra)⟩
  | .lst ds, n, u, ok, r => by
    obtain ⟨l, its, rfl, ⟨o, ho, hc, k, hd⟩, rs⟩ := r
    have ok' : (decide (0 < n) && okDs ds (n - 1)) = true := by rw [okD] at ok; exact ok
    obtain ⟨as, ra⟩ := readsAll_of (Bool.and_eq_true_iff.mp ok').2 rs
    exact ⟨l :: as, .list ho hc hd (by simpa using ra)⟩
  | .ref _, _, _, ok, _ => by simp [okD] at ok
  | .scr _, _, _, ok, _ => by simp [okD] at ok
  | .dic _, _, _, ok, _ => by simp [okD] at ok
  | .kdic _, _, _, ok, _ => by simp [okD] at ok
  | .exc _ _, _, _, ok, _ => by simp [okD] at ok
  | .obj _ _, _, _, ok, _ => by simp [okD] at ok
  | .fn _, _, _, ok, _ => by simp [okD] at ok
theorem readsAll_of {h : Heap} : ∀ {ds : List D} {n : Nat} {us : List Value}, okDs ds n = true → RdVs h ds us → ∃ as, ReadsAll h us (pdD.pdDs ds) as
  | [], n, [], ok, r => ⟨[], .nil⟩
  | d :: ds, n, u :: us, ok, r => by
    have ok' : (okD d n && okDs ds n) = true := by rw [okDs] at ok; exact ok
    obtain ⟨as, h1⟩ := reads_of (Bool.and_eq_true_iff.mp ok').1 r.1
    obtain ⟨bs, h2⟩ := readsAll_of (Bool.and_eq_true_iff.mp ok').2 r.2
    exact ⟨as ++ bs, .cons h1 h2⟩
  | [], _, _ :: _, _, r => r.elim
  | _ :: _, _, [], _, r => r.elim
end
mutual
theorem depth_of : ∀ {d : D} {n : Nat}, okD d n = true → (pdD d).depth ≤ n
  | .non, n, ok => Nat.zero_le _
  | .bl b, n, ok => Nat.zero_le _
  | .int i, n, ok => Nat.zero_le _
  | .str x, n, ok => Nat.zero_le _
  | .tup ds, n, ok => by
    have ok' : (decide (0 < n) && okDs ds (n - 1)) = true := by rw [okD] at ok; exact ok
    obtain ⟨h1, h2⟩ := Bool.and_eq_true_iff.mp ok'
    have := depthAll_of h2
    have h1 := of_decide_eq_true h1
    show PyData.depthAll (pdD.pdDs ds) + 1 ≤ n
    omega
  | .lst ds, n, ok => by
    have ok' : (decide (0 < n) && okDs ds (n - 1)) = true := by rw [okD] at ok; exact ok
    obtain ⟨h1, h2⟩ := Bool.and_eq_true_iff.mp ok'
    have := depthAll_of h2
    have h1 := of_decide_eq_true h1
    show PyData.depthAll (pdD.pdDs ds) + 1 ≤ n
    omega
  | .ref _, _, ok => by simp [okD] at ok
  | .scr _, _, ok => by simp [okD] at ok
  | .dic _, _, ok => by simp [okD] at ok
  | .kdic _, _, ok => by simp [okD] at ok
  | .exc _ _, _, ok => by simp [okD] at ok
  | .obj _ _, _, ok => by simp [okD] at ok
  | .fn _, _, ok => by simp [okD] at ok
theorem depthAll_of : ∀ {ds : List D} {n : Nat}, okDs ds n = true → PyData.depthAll (pdD.pdDs ds) ≤ n
  | [], n, ok => Nat.zero_le _
  | d :: ds, n, ok => by
    have ok' : (okD d n && okDs ds n) = true := by rw [okDs] at ok; exact ok
    obtain ⟨h1, h2⟩ := Bool.and_eq_true_iff.mp ok'
    exact Nat.max_le.mpr ⟨depth_of h1, depthAll_of h2⟩
end
end Ev
set_option maxHeartbeats 2000000
/-! Ev, part 6: comparisons, subscripts. -/
namespace Ev
open PySem PySem.Spec PyProof.Rows L2 PySem.SeqAt
theorem strNe (x y : Nm) : (tx x != tx y) = !(x == y) := by
  show (!(tx x == tx y)) = _
  rw [strEq]
theorem rcNeAt {A : Around} {s : Shared} : ∀ {d e : D} {a b : Value} {n : Nat}, okD d n = true → A.units + n < cLine → RdV s.heap d a → RdV s.heap e b → RcNeAt A s a b (!eqv d e)
  | .non, e, a, b, n, ok, hu, ra, rb => by
    cases ra
    cases e with
    | non => cases rb; exact RcNeAt.none_none
    | bl y => cases rb; exact RcNeAt.none_bool y
    | int y => obtain ⟨u, rfl⟩ := rb; exact RcNeAt.none_int y u
    | str y => obtain ⟨u, rfl⟩ := rb; exact RcNeAt.none_str (tx y) u
    | lst y => obtain ⟨l, its, rfl, p, _⟩ := rb; exact RcNeAt.none_list p (rm hu)
    | tup y => obtain ⟨l, its, rfl, p, _⟩ := rb; exact RcNeAt.none_tuple p (rm hu)
    | _ => exact rb.elim
  | .bl x, e, a, b, n, ok, hu, ra, rb => by
    cases ra
    cases e with
    | non => cases rb; exact RcNeAt.bool_none x
    | bl y => cases rb; exact RcNeAt.bool_bool x y
    | int y => obtain ⟨u, rfl⟩ := rb; exact RcNeAt.bool_int x y u
    | str y => obtain ⟨u, rfl⟩ := rb; exact RcNeAt.bool_str x (tx y) u
    | lst y => obtain ⟨l, its, rfl, p, _⟩ := rb; exact RcNeAt.bool_list x p (rm hu)
    | tup y => obtain ⟨l, its, rfl, p, _⟩ := rb; exact RcNeAt.bool_tuple x p (rm hu)
    | _ => exact rb.elim
  | .int x, e, a, b, n, ok, hu, ra, rb => by
    obtain ⟨t, rfl⟩ := ra
    cases e with
    | non => cases rb; exact RcNeAt.int_none x t
    | bl y => cases rb; exact RcNeAt.int_bool x t y
    | int y => obtain ⟨u, rfl⟩ := rb; exact RcNeAt.int_int x t y u
    | str y => obtain ⟨u, rfl⟩ := rb; exact RcNeAt.int_str x t (tx y) u
    | lst y => obtain ⟨l, its, rfl, p, _⟩ := rb; exact RcNeAt.int_list x t p (rm hu)
    | tup y => obtain ⟨l, its, rfl, p, _⟩ := rb; exact RcNeAt.int_tuple x t p (rm hu)
    | _ => exact rb.elim
  | .str x, e, a, b, n, ok, hu, ra, rb => by
    obtain ⟨t, rfl⟩ := ra
    cases e with
    | non => cases rb; exact RcNeAt.str_none (tx x) t
    | bl y => cases rb; exact RcNeAt.str_bool (tx x) t y
    | int y => obtain ⟨u, rfl⟩ := rb; exact RcNeAt.str_int (tx x) t y u
    | str y => obtain ⟨u, rfl⟩ := rb; exact (by have h := RcNeAt.str_str (A := A) (s := s) (tx x) t (tx y) u; rw [strEq] at h; exact h)
    | lst y => obtain ⟨l, its, rfl, p, _⟩ := rb; exact RcNeAt.str_list (tx x) t p (rm hu)
    | tup y => obtain ⟨l, its, rfl, p, _⟩ := rb; exact RcNeAt.str_tuple (tx x) t p (rm hu)
    | _ => exact rb.elim
  | .lst xs, e, a, b, n, ok, hu, ra, rb => by
    obtain ⟨l, its, rfl, p, r⟩ := ra
    have ok' : (decide (0 < n) && okDs xs (n - 1)) = true := by rw [okD] at ok; exact ok
    obtain ⟨h0, h1⟩ := Bool.and_eq_true_iff.mp ok'
    have h0' : 0 < n := of_decide_eq_true h0
    cases e with
    | non => cases rb; exact RcNeAt.list_none p (rm hu)
    | bl y => cases rb; exact RcNeAt.list_bool y p (rm hu)
    | int y => obtain ⟨u, rfl⟩ := rb; exact RcNeAt.list_int y u p (rm hu)
    | str y => obtain ⟨u, rfl⟩ := rb; exact RcNeAt.list_str (tx y) u p (rm hu)
    | tup y => obtain ⟨l', its', rfl, p', _⟩ := rb; exact RcNeAt.list_tuple p p' (rm hu)
    | lst ys =>
      obtain ⟨l', its', rfl, p', r'⟩ := rb
      have n1 := r.length
      have n2 := r'.length
      have he : ∀ j (j1 : j < its.toArray.size) (j2 : j < its'.toArray.size), EqAt A.in1 s its.toArray[j] its'.toArray[j] (pEq xs ys j) := fun j j1 j2 => by
        have hu' : A.in1.units + (n - 1) < cLine := by show A.units + 1 + (n - 1) < cLine; omega
        have := eqAts (A := A.in1) (s := s) h1 hu' r r' j (by simpa using j1) (by simpa using j2)
        simpa using this
      show RcNeAt A s (.ref l) (.ref l') (!eqvs xs ys)
      by_cases hsz : its.toArray.size = its'.toArray.size
      · have e : xs.length = ys.length := by rw [n1, n2]; simpa using hsz
        rw [← eqvs_len e, n1]
        have z := RcNeAt.lists p p' hsz (rm hu) he
        simpa using z
      · rw [eqvs_ne (by rw [n1, n2]; simpa using hsz)]
        exact RcNeAt.lists_lengths p p' (by simpa using hsz) (rm hu)
    | _ => exact rb.elim
  | .tup xs, e, a, b, n, ok, hu, ra, rb => by
    obtain ⟨l, its, rfl, p, r⟩ := ra
    have ok' : (decide (0 < n) && okDs xs (n - 1)) = true := by rw [okD] at ok; exact ok
    obtain ⟨h0, h1⟩ := Bool.and_eq_true_iff.mp ok'
    have h0' : 0 < n := of_decide_eq_true h0
    cases e with
    | non => cases rb; exact RcNeAt.tuple_none p (rm hu)
    | bl y => cases rb; exact RcNeAt.tuple_bool y p (rm hu)
    | int y => obtain ⟨u, rfl⟩ := rb; exact RcNeAt.tuple_int y u p (rm hu)
    | str y => obtain ⟨u, rfl⟩ := rb; exact RcNeAt.tuple_str (tx y) u p (rm hu)
    | lst y => obtain ⟨l', its', rfl, p', _⟩ := rb; exact RcNeAt.tuple_list p p' (rm hu)
    | tup ys =>
      obtain ⟨l', its', rfl, p', r'⟩ := rb
      have n1 := r.length
      have n2 := r'.length
      have he : ∀ j (j1 : j < its.toArray.size) (j2 : j < its'.toArray.size), EqAt A.in1 s its.toArray[j] its'.toArray[j] (pEq xs ys j) := fun j j1 j2 => by
        have hu' : A.in1.units + (n - 1) < cLine := by show A.units + 1 + (n - 1) < cLine; omega
        have := eqAts (A := A.in1) (s := s) h1 hu' r r' j (by simpa using j1) (by simpa using j2)
        simpa using this
      show RcNeAt A s (.ref l) (.ref l') (!eqvs xs ys)
      rw [← eqvs_eq xs ys, n1, n2]
      have z := RcNeAt.tuples p p' (rm hu) he
      simpa using z
    | _ => exact rb.elim
  | .fn _, _, _, _, _, _, _, a, _ => a.elim
  | .obj _ _, _, _, _, _, _, _, a, _ => a.elim
  | .ref _, _, _, _, _, _, _, a, _ => a.elim
  | .scr _, _, _, _, _, _, _, a, _ => a.elim
  | .dic _, _, _, _, _, _, _, a, _ => a.elim
  | .kdic _, _, _, _, _, _, _, a, _ => a.elim
  | .exc _ _, _, _, _, _, _, _, a, _ => a.elim
section
variable {X : Cx} {κ : Kx} {as : List Addr} {H : Hp}
def copE : Cop → CmpOp
  | .eq => .Eq
  | .ne => .NotEq
  | .lt => .Lt
  | .le => .LtE
  | .gt => .Gt
  | .ge => .GtE
  | .is => .Is
  | .isn => .IsNot
  | .inn => .In
  | .nin => .NotIn
  | .ned => .NotEq
def rCmp (κ : Kx) (o : Cop) : R2 := fun x y H Q => ∃ as S dx dy ke, IsV κ as H dx x ∧ IsV κ as H dy y ∧ Out (cmpD o dx dy S) (fun r _ => Q (.bl r) H) ke
theorem RdV.ref {h : Heap} {e : D} {l : Addr} (r : RdV h e (.ref l)) : (∃ ds its, e = .tup ds ∧ h.IsTuple l its.toArray ∧ RdVs h ds its) ∨ (∃ ds its, e = .lst ds ∧ h.IsList l its.toArray ∧ RdVs h ds its) := by
  cases e with
  | non => cases r
  | bl b => cases r
  | int i => obtain ⟨t, r⟩ := r; cases r
  | str x => obtain ⟨t, r⟩ := r; cases r
  | tup ds => obtain ⟨l', its, e, p, q⟩ := r; cases e; exact .inl ⟨ds, its, rfl, p, q⟩
  | lst ds => obtain ⟨l', its, e, p, q⟩ := r; cases e; exact .inr ⟨ds, its, rfl, p, q⟩
  | _ => exact r.elim
theorem RdV.scal {h : Heap} {d e : D} {u : Value} (a : RdV h d u) (b : RdV h e u) (n : ∀ l, u ≠ .ref l) : d = e := by
  cases d with
  | non =>
    cases a
    cases e with
    | non => rfl
    | bl _ => cases b
    | int _ => obtain ⟨_, b⟩ := b; cases b
    | str _ => obtain ⟨_, b⟩ := b; cases b
    | tup ds => obtain ⟨_, _, b, _⟩ := b; cases b
    | lst ds => obtain ⟨_, _, b, _⟩ := b; cases b
    | _ => exact b.elim
  | bl x =>
    cases a
    cases e with
    | non => cases b
    | bl _ => cases b; rfl
    | int _ => obtain ⟨_, b⟩ := b; cases b
    | str _ => obtain ⟨_, b⟩ := b; cases b
    | tup ds => obtain ⟨_, _, b, _⟩ := b; cases b
    | lst ds => obtain ⟨_, _, b, _⟩ := b; cases b
    | _ => exact b.elim
  | int x =>
    obtain ⟨t, rfl⟩ := a
    cases e with
    | non => cases b
    | bl _ => cases b
    | int _ => obtain ⟨_, b⟩ := b; cases b; rfl
    | str _ => obtain ⟨_, b⟩ := b; cases b
    | tup ds => obtain ⟨_, _, b, _⟩ := b; cases b
    | lst ds => obtain ⟨_, _, b, _⟩ := b; cases b
    | _ => exact b.elim
  | str x =>
    obtain ⟨t, rfl⟩ := a
    cases e with
    | non => cases b
    | bl _ => cases b
    | int _ => obtain ⟨_, b⟩ := b; cases b
    | str y =>
      obtain ⟨_, b⟩ := b
      have e : tx x = tx y := by injection b
      rw [tx_inj e]
    | tup ds => obtain ⟨_, _, b, _⟩ := b; cases b
    | lst ds => obtain ⟨_, _, b, _⟩ := b; cases b
    | _ => exact b.elim
  | tup ds => obtain ⟨l, _, e, _⟩ := a; exact absurd e (n l)
  | lst ds => obtain ⟨l, _, e, _⟩ := a; exact absurd e (n l)
  | _ => exact a.elim
mutual
theorem rdv_inj {h : Heap} : ∀ {d e : D} {u : Value}, RdV h d u → RdV h e u → d = e
  | .tup xs, e, u, a, b => by
    obtain ⟨l, its, rfl, p, r⟩ := a
    rcases RdV.ref b with ⟨ds, its', rfl, p', r'⟩ | ⟨ds, its', rfl, p', r'⟩
    · have e3 : its = its' := by simpa using tup_inj p p'
      subst e3
      rw [rdvs_inj r r']
    · exact (lst_tup p' p).elim
  | .lst xs, e, u, a, b => by
    obtain ⟨l, its, rfl, p, r⟩ := a
    rcases RdV.ref b with ⟨ds, its', rfl, p', r'⟩ | ⟨ds, its', rfl, p', r'⟩
    · exact (lst_tup p p').elim
    · have e3 : its = its' := by simpa using lst_inj p p'
      subst e3
      rw [rdvs_inj r r']
  | .non, e, u, a, b => RdV.scal a b (fun l z => by cases a; cases z)
  | .bl x, e, u, a, b => RdV.scal a b (fun l z => by cases a; cases z)
  | .int x, e, u, a, b => RdV.scal a b (fun l z => by obtain ⟨t, a⟩ := a; rw [z] at a; cases a)
  | .str x, e, u, a, b => RdV.scal a b (fun l z => by obtain ⟨t, a⟩ := a; rw [z] at a; cases a)
  | .fn _, _, _, a, _ => a.elim
  | .obj _ _, _, _, a, _ => a.elim
  | .ref _, _, _, a, _ => a.elim
  | .scr _, _, _, a, _ => a.elim
  | .dic _, _, _, a, _ => a.elim
  | .kdic _, _, _, a, _ => a.elim
  | .exc _ _, _, _, a, _ => a.elim
theorem rdvs_inj {h : Heap} : ∀ {ds es : List D} {us : List Value}, RdVs h ds us → RdVs h es us → ds = es
  | [], [], _, _, _ => rfl
  | [], _ :: _, [], _, b => b.elim
  | [], _ :: _, _ :: _, a, _ => a.elim
  | _ :: _, _, [], a, _ => a.elim
  | _ :: _, [], _ :: _, _, b => b.elim
  | d :: ds, e :: es, u :: us, a, b => by rw [rdv_inj a.1 b.1, rdvs_inj a.2 b.2]
end
open Classical in
theorem anyW {items : List Value} {s : Shared} {A : Around} {x : Value} {d : D} {ds : List D} (ok : okDs ds 60 = true) (hu : A.in1.units + 60 < cLine) (rx : RdV s.heap d x) (r : RdVs s.heap ds items) :
    ∃ e : Value → Bool, (∀ y, y ∈ items → EqAt A.in1 s y x (e y)) ∧ items.any e = ds.any (fun y => eqv y d) := by
  refine ⟨fun y => if h : ∃ d', RdV s.heap d' y then eqv h.choose d else false, ?_, ?_⟩
  · have go : ∀ (ds : List D) (items : List Value), okDs ds 60 = true → RdVs s.heap ds items → ∀ y, y ∈ items → EqAt A.in1 s y x (if h : ∃ d', RdV s.heap d' y then eqv h.choose d else false) := by
      intro ds
      induction ds with
      | nil =>
        intro items ok r y hy
        cases items with
        | nil => cases hy
        | cons _ _ => exact r.elim
      | cons d' ds ih =>
        intro items ok r y hy
        cases items with
        | nil => cases hy
        | cons u us =>
          have ok' : (okD d' 60 && okDs ds 60) = true := by rw [okDs] at ok; exact ok
          obtain ⟨o1, o2⟩ := Bool.and_eq_true_iff.mp ok'
          rcases List.mem_cons.mp hy with rfl | hy
          · have ex : ∃ d', RdV s.heap d' y := ⟨d', r.1⟩
            rw [dif_pos ex, ← rdv_inj r.1 ex.choose_spec]
            exact eqAt o1 hu r.1 rx
          · exact ih us o2 r.2 y hy
    exact go ds items ok r
  · clear ok
    induction ds generalizing items with
    | nil =>
      cases items with
      | nil => rfl
      | cons _ _ => exact r.elim
    | cons d' ds ih =>
      cases items with
      | nil => exact r.elim
      | cons u us =>
        have ex : ∃ d', RdV s.heap d' u := ⟨d', r.1⟩
        rw [List.any_cons, List.any_cons, ih r.2, dif_pos ex, ← rdv_inj r.1 ex.choose_spec]
theorem look_val {q : Ky} {d : D} : ∀ {kvs : List (Ky × D)} {kws : List (L2.Key × V)}, IsKs κ as H kvs kws → lookK kvs q = some d → ∃ v, valV kws (kx q) = some v ∧ IsD κ as H d v
  | [], _, _, h => by simp [lookK] at h
  | (k, d') :: r, (q', v) :: r', hd, h => by
    obtain ⟨⟨e, _⟩, hv, hr⟩ := hd
    rw [lookK] at h
    by_cases z : k = q
    · rw [if_pos z] at h
      cases h
      exact ⟨v, valV_pos (by rw [e, z]), hv⟩
    · rw [if_neg z] at h
      obtain ⟨v', h1, h2⟩ := look_val hr h
      exact ⟨v', (valV_neg (fun w => z (kx_inj (by rw [← e]; exact w)))).trans h1, h2⟩
  | _ :: _, [], hd, _ => hd.elim
theorem look_none {q : Ky} : ∀ {kvs : List (Ky × D)} {kws : List (L2.Key × V)}, IsKs κ as H kvs kws → lookK kvs q = none → valV kws (kx q) = none
  | [], [], _, _ => rfl
  | [], _ :: _, hd, _ => hd.elim
  | (k, d') :: r, (q', v) :: r', hd, h => by
    obtain ⟨⟨e, _⟩, hv, hr⟩ := hd
    rw [lookK] at h
    by_cases z : k = q
    · rw [if_pos z] at h
      cases h
    · rw [if_neg z] at h
      exact (valV_neg (fun w => z (kx_inj (by rw [← e]; exact w)))).trans (look_none hr h)
  | _ :: _, [], hd, _ => hd.elim
theorem look_some {q : Ky} {kvs : List (Ky × D)} {kws : List (L2.Key × V)} (hd : IsKs κ as H kvs kws) : (lookK kvs q).isSome = (valV kws (kx q)).isSome := by
  cases h : lookK kvs q with
  | none =>
    rw [look_none hd h]
    rfl
  | some d =>
    obtain ⟨v, h1, _⟩ := look_val hd h
    rw [h1]
    rfl
theorem lookz_val {a : Addr} {q : Nm} {d : D} : ∀ {kvs : List (Nm × D)}, IsZs κ as H a kvs → lookN kvs q = some d → ∃ u v, PySem.W.nsIn κ.K a (tx q) = some (some u) ∧ RelV v u ∧ IsD κ as H d v
  | [], _, h => by simp [lookN] at h
  | (k, d') :: r, hd, h => by
    obtain ⟨hv, hr⟩ := hd
    rw [lookN] at h
    by_cases z : k = q
    · rw [if_pos z] at h
      cases h
      rw [← z]
      exact hv
    · rw [if_neg z] at h
      exact lookz_val hr h
theorem lookz_none {q : Nm} : ∀ {kvs : List (Nm × D)}, lookN kvs q = none → q ∉ kvs.map (·.1)
  | [], _ => by simp
  | (k, d') :: r, h => by
    rw [lookN] at h
    by_cases z : k = q
    · rw [if_pos z] at h; cases h
    · rw [if_neg z] at h
      intro m
      rw [List.map_cons] at m
      rcases List.mem_cons.mp m with e | m
      · exact z e.symm
      · exact lookz_none h m
theorem lookz_some {a : Addr} {q : Nm} {kvs : List (Nm × D)} (kd : KDic κ a (kvs.map (·.1))) (hd : IsZs κ as H a kvs) : ∃ r, PySem.W.nsIn κ.K a (tx q) = some r ∧ r.isSome = (lookN kvs q).isSome := by
  cases h : lookN kvs q with
  | none => exact ⟨none, kd.non q (lookz_none h), rfl⟩
  | some d =>
    obtain ⟨u, v, h1, h2, h3⟩ := lookz_val hd h
    exact ⟨some u, h1, rfl⟩
theorem dget_rd {H : Hp} {a : Addr} {kvs : List (Key × V)} {k : Key} (e : Rd H a (.dK kvs)) : DGet H a (kV k) (valV kvs k) := .inl ⟨kvs, k, e, rfl, rfl⟩
theorem subS_eq (i j : Nm) : subS i j = !(Builtin.Str.occurrences (tx j) (tx i) 0 (tx j).length 1).isEmpty := by
  rw [tx_len]
  rfl
theorem isT0_of {x y : D} (h : isT0 x y = true) : ∃ xs, (x = .tup xs ∧ y = .tup []) ∨ (x = .lst xs ∧ y = .lst []) := by
  unfold isT0 at h
  split at h
  · exact ⟨_, .inl ⟨rfl, rfl⟩⟩
  · exact ⟨_, .inr ⟨rfl, rfl⟩⟩
  · cases h
theorem l0At {pins : List (Addr × Obj)} {σ : L2.St} {s : Shared} {A : Around} (hu : A.units < cLine) {xs : List D} {x y : V} {v u : Value} (I : Inv X pins σ H s) (wx : IsV κ as H (.lst xs) x) (wy : IsV κ as H (.lst []) y) (rx : RelV x v) (ry : RelV y u) : RcAt A s v u (eqv (.lst xs) (.lst [])) ∧ RcNeAt A s v u (!eqv (.lst xs) (.lst [])) := by
  obtain ⟨a, vs, rfl, ha, hd⟩ := wx
  obtain ⟨b, ws, rfl, hb, he⟩ := wy
  cases rx
  cases ry
  obtain ⟨its, r1, p1, _⟩ := I.list (.inl ha)
  obtain ⟨its2, r2, p2, _⟩ := I.list (.inl hb)
  have n1 := hd.length
  have n2 := he.length
  have m1 := r1.length
  have m2 := r2.length
  have z2 : its2 = [] := List.eq_nil_of_length_eq_zero (by rw [← m2, ← n2]; rfl)
  subst z2
  cases xs with
  | nil =>
    have z1 : its = [] := List.eq_nil_of_length_eq_zero (by rw [← m1, ← n1]; rfl)
    subst z1
    exact ⟨RcAt.lists (A := A) p1.isList p2.isList rfl hu (e := fun _ => true) fun j j1 j2 => by simp at j2, RcNeAt.lists (A := A) p1.isList p2.isList rfl hu (e := fun _ => true) fun j j1 j2 => by simp at j2⟩
  | cons d xs =>
    have l1 : its.length = xs.length + 1 := by rw [← m1, ← n1]; rfl
    have hz : (its.toArray.size != ([] : List Value).toArray.size) = true := by simp [l1]
    exact ⟨RcAt.lists_lengths (A := A) p1.isList p2.isList hz hu, RcNeAt.lists_lengths (A := A) p1.isList p2.isList hz hu⟩
theorem t0At {pins : List (Addr × Obj)} {σ : L2.St} {s : Shared} {A : Around} (hκ : κ.K = X.K) (hu : A.units < cLine) {xs : List D} {x y : V} {v u : Value} (I : Inv X pins σ H s) (wx : IsV κ as H (.tup xs) x) (wy : IsV κ as H (.tup []) y) (rx : RelV x v) (ry : RelV y u) : RcAt A s v u (eqv (.tup xs) (.tup [])) := by
  obtain ⟨a, vs, rfl, ha, hd⟩ := wx
  obtain ⟨b, ws, rfl, hb, he⟩ := wy
  rw [hκ] at ha hb
  cases rx
  cases ry
  obtain ⟨its, r1, p1, _⟩ := I.tuple ha.sq
  obtain ⟨its2, r2, p2, _⟩ := I.tuple hb.sq
  have n1 := hd.length
  have n2 := he.length
  have m1 := r1.length
  have m2 := r2.length
  have z2 : its2 = [] := List.eq_nil_of_length_eq_zero (by rw [← m2, ← n2]; rfl)
  subst z2
  have z := RcAt.tuples (A := A) p1 p2 hu (e := fun _ => true) fun j j1 j2 => by simp at j2
  have e : eqv (.tup xs) (.tup []) = (its.length == 0) := by
    show eqvs xs [] = _
    rw [← m1, ← n1]
    cases xs <;> rfl
  rw [e]
  simpa using z
theorem t0NeAt {pins : List (Addr × Obj)} {σ : L2.St} {s : Shared} {A : Around} (hκ : κ.K = X.K) (hu : A.units < cLine) {xs : List D} {x y : V} {v u : Value} (I : Inv X pins σ H s) (wx : IsV κ as H (.tup xs) x) (wy : IsV κ as H (.tup []) y) (rx : RelV x v) (ry : RelV y u) : RcNeAt A s v u (!eqv (.tup xs) (.tup [])) := by
  obtain ⟨a, vs, rfl, ha, hd⟩ := wx
  obtain ⟨b, ws, rfl, hb, he⟩ := wy
  rw [hκ] at ha hb
  cases rx
  cases ry
  obtain ⟨its, r1, p1, _⟩ := I.tuple ha.sq
  obtain ⟨its2, r2, p2, _⟩ := I.tuple hb.sq
  have n1 := hd.length
  have n2 := he.length
  have m1 := r1.length
  have m2 := r2.length
  have z2 : its2 = [] := List.eq_nil_of_length_eq_zero (by rw [← m2, ← n2]; rfl)
  subst z2
  have z := RcNeAt.tuples (A := A) p1 p2 hu (e := fun _ => true) fun j j1 j2 => by simp at j2
  have e : eqv (.tup xs) (.tup []) = (its.length == 0) := by
    show eqvs xs [] = _
    rw [← m1, ← n1]
    cases xs <;> rfl
  rw [e]
  simpa using z
theorem sclEq_of {κ : Kx} {as : List Addr} {H : Hp} {d e : D} {v u : V} (h : sclEq d e = true) (a : IsD κ as H d v) (b : IsD κ as H e u) : u = v ∧ flatB v = true := by
  cases d with
  | int i => cases e with
    | int j =>
      have h : (i == j) = true := h
      cases (show v = .int i from a)
      cases (show u = .int j from b)
      rw [eq_of_beq h]
      exact ⟨rfl, rfl⟩
    | _ => cases h
  | str i => cases e with
    | str j =>
      have h : (i == j) = true := h
      cases (show v = .str (tx i) from a.1)
      cases (show u = .str (tx j) from b.1)
      rw [eq_of_beq h]
      exact ⟨rfl, rfl⟩
    | _ => cases h
  | non => cases e with
    | non =>
      cases (show v = .non from a)
      cases (show u = .non from b)
      exact ⟨rfl, rfl⟩
    | _ => cases h
  | _ => cases h
theorem dicEq_of {x y : D} (h : dicEq x y = true) : ∃ a b, x = .dic a ∧ y = .dic b ∧ a.length = b.length ∧ ∀ p ∈ a, ∃ d, lookK b p.1 = some d ∧ sclEq p.2 d = true := by
  cases x with
  | dic a => cases y with
    | dic b =>
      obtain ⟨h1, h2⟩ := Bool.and_eq_true_iff.mp (show (decide (a.length = b.length) && a.all fun p => match lookK b p.1 with
        | some d => sclEq p.2 d
        | none => false) = true from h)
      refine ⟨a, b, rfl, rfl, of_decide_eq_true h1, fun p hp => ?_⟩
      have h3 := List.all_eq_true.mp h2 p hp
      cases q : lookK b p.1 with
      | some d => rw [q] at h3; exact ⟨d, rfl, h3⟩
      | none => rw [q] at h3; cases h3
    | _ => cases h
  | _ => cases h
theorem dic_hits {κ : Kx} {as : List Addr} {H : Hp} {b : List (Ky × D)} {ls : List (L2.Key × V)} (hb : IsKs κ as H b ls) : ∀ {a : List (Ky × D)} {ks : List (L2.Key × V)}, IsKs κ as H a ks → (∀ p ∈ a, ∃ d, lookK b p.1 = some d ∧ sclEq p.2 d = true) → ∀ p ∈ ks, valV ls p.1 = some p.2 ∧ flatB p.2 = true
  | [], [], _, _, p, hp => by cases hp
  | (k, d) :: a, (q, v) :: ks, ha, h, p, hp => by
    obtain ⟨⟨e, _⟩, hv, hr⟩ := ha
    rcases List.mem_cons.mp hp with rfl | hp
    · obtain ⟨d', l1, l2⟩ := h (k, d) List.mem_cons_self
      obtain ⟨v', e1, e2⟩ := look_val hb l1
      obtain ⟨e3, e4⟩ := sclEq_of l2 hv e2
      refine ⟨?_, e4⟩
      show valV ls q = some v
      rw [e, e1, e3]
    · exact dic_hits hb hr (fun p hp => h p (List.mem_cons_of_mem _ hp)) p hp
  | [], _ :: _, h, _, _, _ => h.elim
  | _ :: _, [], h, _, _, _ => h.elim
theorem op_cmp (hκ : κ.K = X.K) (hw : κ.w = X.w) (hu : X.A.units + 64 < cLine) (o : Cop) : OpR X (compareOp (copE o)) (rCmp κ o) := by
  intro pins s σ H x y v u Q I rx ry q
  obtain ⟨as, S, dx, dy, ke, wx, wy, b⟩ := q
  have fin : ∀ {r : Bool}, Q (.bl r) H → EP X pins σ Q (.bool r) s := fun {r} h => ⟨.bl r, H, I, rfl, h⟩
  cases o with
  | eq =>
    obtain ⟨ok, b⟩ := Out.of_chk b
    rcases Bool.or_eq_true_iff.mp ok with ok | ok
    · obtain ⟨xs, ⟨rfl, rfl⟩ | ⟨rfl, rfl⟩⟩ := isT0_of ok
      · exact t0At hκ (by omega) I wx wy rx ry _ _ _ _ (fin b)
      · exact (l0At (by omega) I wx wy rx ry).1 _ _ _ _ (fin b)
    obtain ⟨o1, o2⟩ := Bool.and_eq_true_iff.mp ok
    exact rcAt o1 (by omega) (rdv_of hκ I o1 wx rx) (rdv_of hκ I o2 wy ry) _ _ _ _ (fin b)
  | ne =>
    obtain ⟨ok, b⟩ := Out.of_chk b
    rcases Bool.or_eq_true_iff.mp ok with ok | ok
    · obtain ⟨xs, ⟨rfl, rfl⟩ | ⟨rfl, rfl⟩⟩ := isT0_of ok
      · exact t0NeAt hκ (by omega) I wx wy rx ry _ _ _ _ (fin b)
      · exact (l0At (by omega) I wx wy rx ry).2 _ _ _ _ (fin b)
    obtain ⟨o1, o2⟩ := Bool.and_eq_true_iff.mp ok
    exact rcNeAt o1 (by omega) (rdv_of hκ I o1 wx rx) (rdv_of hκ I o2 wy ry) _ _ _ _ (fin b)
  | lt =>
    cases dx with
    | int i => cases dy with
      | int j => exact OpR.use op_lt I rx ry ⟨i, j, wx, wy, b⟩
      | _ => exact b.elim
    | str i => cases dy with
      | str j => exact OpR.use op_lt_str I rx ry ⟨tx i, tx j, wx.1, wy.1, by rw [tx_list, tx_list]; exact b⟩
      | _ => exact b.elim
    | tup xs => cases dy with
      | tup ys =>
        obtain ⟨ok, b⟩ := Out.of_chk b
        obtain ⟨o1, o2⟩ := Bool.and_eq_true_iff.mp ok
        obtain ⟨o2, o3⟩ := Bool.and_eq_true_iff.mp o2
        obtain ⟨as1, r1⟩ := reads_of o1 (rdv_of hκ I o1 wx rx)
        obtain ⟨as2, r2⟩ := reads_of o2 (rdv_of hκ I o2 wy ry)
        have d1 := depth_of o1
        have d2 := depth_of o2
        exact PySem.W.rcLt_alike _ _ X.A s v u _ _ r1 r2 o3 (fun z => by cases z) (by have := Nat.min_le_left (pdD (.tup xs)).depth (pdD (.tup ys)).depth; omega) _ _ _ _ (fin b)
      | _ => exact b.elim
    | _ => exact b.elim
  | le =>
    cases dx with
    | int i => cases dy with
      | int j => exact OpR.use op_le I rx ry ⟨i, j, wx, wy, b⟩
      | _ => exact b.elim
    | str i => cases dy with
      | str j => exact OpR.use op_le_str I rx ry ⟨tx i, tx j, wx.1, wy.1, by rw [tx_list, tx_list]; exact b⟩
      | _ => exact b.elim
    | _ => exact b.elim
  | gt =>
    cases dx with
    | int i => cases dy with
      | int j => exact OpR.use op_gt I rx ry ⟨i, j, wx, wy, b⟩
      | _ => exact b.elim
    | str i => cases dy with
      | str j => exact OpR.use op_gt_str I rx ry ⟨tx i, tx j, wx.1, wy.1, by rw [tx_list, tx_list]; exact b⟩
      | _ => exact b.elim
    | _ => exact b.elim
  | ge =>
    cases dx with
    | int i => cases dy with
      | int j => exact OpR.use op_ge I rx ry ⟨i, j, wx, wy, b⟩
      | _ => exact b.elim
    | str i => cases dy with
      | str j => exact OpR.use op_ge_str I rx ry ⟨tx i, tx j, wx.1, wy.1, by rw [tx_list, tx_list]; exact b⟩
      | _ => exact b.elim
    | _ => exact b.elim
  | is =>
    cases dy with
    | non =>
      have e : y = .non := wy
      refine OpR.use op_isN I rx ry ⟨e, ?_⟩
      have e2 : decide (x = V.non) = isNon dx := by
        cases dx with
        | non => have z : x = V.non := wx; simp [z, isNon]
        | bl i => have z : x = V.bl i := wx; simp [z, isNon]
        | int i => have z : x = V.int i := wx; simp [z, isNon]
        | str i => have z : x = V.str (tx i) := wx.1; simp [z, isNon]
        | fn i => have z : x = V.ref _ := wx; simp [z, isNon]
        | ref i => obtain ⟨_, _, z⟩ := wx; simp [z, isNon]
        | tup i => obtain ⟨_, _, z, _⟩ := wx; simp [z, isNon]
        | lst i => obtain ⟨_, _, z, _⟩ := wx; simp [z, isNon]
        | scr i => obtain ⟨_, z, _⟩ := wx; simp [z, isNon]
        | dic i => obtain ⟨_, _, z, _⟩ := wx; simp [z, isNon]
        | kdic i => obtain ⟨_, z, _⟩ := wx; simp [z, isNon]
        | obj i j => obtain ⟨_, _, _, z, _⟩ := wx; simp [z, isNon]
        | exc i j => obtain ⟨_, z, _⟩ := wx; simp [z, isNon]
      rw [e2]
      exact b
    | _ => exact b.elim
  | isn =>
    cases dy with
    | non =>
      have e : y = .non := wy
      refine OpR.use op_notN I rx ry ⟨e, ?_⟩
      have e2 : (!decide (x = V.non)) = !isNon dx := by
        cases dx with
        | non => have z : x = V.non := wx; simp [z, isNon]
        | bl i => have z : x = V.bl i := wx; simp [z, isNon]
        | int i => have z : x = V.int i := wx; simp [z, isNon]
        | str i => have z : x = V.str (tx i) := wx.1; simp [z, isNon]
        | fn i => have z : x = V.ref _ := wx; simp [z, isNon]
        | ref i => obtain ⟨_, _, z⟩ := wx; simp [z, isNon]
        | tup i => obtain ⟨_, _, z, _⟩ := wx; simp [z, isNon]
        | lst i => obtain ⟨_, _, z, _⟩ := wx; simp [z, isNon]
        | scr i => obtain ⟨_, z, _⟩ := wx; simp [z, isNon]
        | dic i => obtain ⟨_, _, z, _⟩ := wx; simp [z, isNon]
        | kdic i => obtain ⟨_, z, _⟩ := wx; simp [z, isNon]
        | obj i j => obtain ⟨_, _, _, z, _⟩ := wx; simp [z, isNon]
        | exc i j => obtain ⟨_, z, _⟩ := wx; simp [z, isNon]
      rw [e2]
      exact b
    | _ => exact b.elim
  | inn =>
    have seqL : ∀ {ys : List D}, IsV κ as H (.lst ys) y → Out (R.chk (pl dx && pls ys) (.ok (ys.any fun y => eqv y dx) S)) (fun r _ => Q (.bl r) H) ke → wpAny (model X.prog X.w) X.A (compareOp .In v u) (EP X pins σ Q) X.xe s := fun {ys} wy b => by
      obtain ⟨ok, b⟩ := Out.of_chk b
      obtain ⟨o1, o2⟩ := Bool.and_eq_true_iff.mp ok
      have ry' := rdv_of (d := .lst ys) (n := 61) hκ I (by rw [okD]; exact o2) wy ry
      obtain ⟨l, its, rfl, p, r⟩ := ry'
      obtain ⟨e, h1, h2⟩ := anyW (A := X.A) o2 (by show X.A.units + 1 + 60 < cLine; omega) (rdv_of hκ I o1 wx rx) r
      refine in_listAt e p (fun y hy => h1 y (by simpa using hy)) ?_
      rw [List.any_toArray, h2]
      exact fin b
    have seqT : ∀ {ys : List D}, IsV κ as H (.tup ys) y → Out (R.chk (pl dx && pls ys) (.ok (ys.any fun y => eqv y dx) S)) (fun r _ => Q (.bl r) H) ke → wpAny (model X.prog X.w) X.A (compareOp .In v u) (EP X pins σ Q) X.xe s := fun {ys} wy b => by
      obtain ⟨ok, b⟩ := Out.of_chk b
      obtain ⟨o1, o2⟩ := Bool.and_eq_true_iff.mp ok
      have ry' := rdv_of (d := .tup ys) (n := 61) hκ I (by rw [okD]; exact o2) wy ry
      obtain ⟨l, its, rfl, p, r⟩ := ry'
      obtain ⟨e, h1, h2⟩ := anyW (A := X.A) o2 (by show X.A.units + 1 + 60 < cLine; omega) (rdv_of hκ I o1 wx rx) r
      refine in_tupleAt e p (fun y hy => h1 y (by simpa using hy)) ?_
      rw [List.any_toArray, h2]
      exact fin b
    cases dy with
    | lst ys => cases dx <;> exact seqL wy b
    | tup ys => cases dx <;> exact seqT wy b
    | str j => cases dx with
      | str i => exact OpR.use op_in_str I rx ry ⟨tx i, tx j, wx.1, wy.1, by have b' := b; simp only [cmpD, subS_eq] at b'; exact b'⟩
      | _ => exact b.elim
    | dic kvs =>
      obtain ⟨a, kws, rfl, hH, hd⟩ := wy
      cases ry
      cases dx with
      | str i => exact d_in (by omega) I (dget_rd (k := Sum.inr (tx i)) hH) (by cases wx.1; exact rx) fun s' I' => ⟨.bl _, H, I', rfl, by rw [show (Sum.inr (tx i) : L2.Key) = kx (.inr i) from rfl, ← look_some hd]; exact b⟩
      | int i => exact d_in (by omega) I (dget_rd (k := Sum.inl i) hH) (by cases wx; exact rx) fun s' I' => ⟨.bl _, H, I', rfl, by rw [show (Sum.inl i : L2.Key) = kx (.inl i) from rfl, ← look_some hd]; exact b⟩
      | _ => exact b.elim
    | kdic kvs =>
      obtain ⟨a, rfl, kd, hd⟩ := wy
      obtain ⟨es, n, kd'⟩ := kd.lit
      rw [hκ, hw] at kd'
      cases dx with
      | str i =>
        obtain ⟨r, e1, e2⟩ := lookz_some (q := i) kd hd
        rw [hκ] at e1
        exact OpR.use (op_in_kd kd') I rx ry ⟨tx i, r, wx.1, rfl, e1, by rw [e2]; exact b⟩
      | _ => exact b.elim
    | _ => cases dx <;> exact b.elim
  | nin =>
    have seqL : ∀ {ys : List D}, IsV κ as H (.lst ys) y → Out (R.chk (pl dx && pls ys) (.ok (!ys.any fun y => eqv y dx) S)) (fun r _ => Q (.bl r) H) ke → wpAny (model X.prog X.w) X.A (compareOp .NotIn v u) (EP X pins σ Q) X.xe s := fun {ys} wy b => by
      obtain ⟨ok, b⟩ := Out.of_chk b
      obtain ⟨o1, o2⟩ := Bool.and_eq_true_iff.mp ok
      have ry' := rdv_of (d := .lst ys) (n := 61) hκ I (by rw [okD]; exact o2) wy ry
      obtain ⟨l, its, rfl, p, r⟩ := ry'
      obtain ⟨e, h1, h2⟩ := anyW (A := X.A) o2 (by show X.A.units + 1 + 60 < cLine; omega) (rdv_of hκ I o1 wx rx) r
      refine notIn_listAt e p (fun y hy => h1 y (by simpa using hy)) ?_
      rw [List.any_toArray, h2]
      exact fin b
    have seqT : ∀ {ys : List D}, IsV κ as H (.tup ys) y → Out (R.chk (pl dx && pls ys) (.ok (!ys.any fun y => eqv y dx) S)) (fun r _ => Q (.bl r) H) ke → wpAny (model X.prog X.w) X.A (compareOp .NotIn v u) (EP X pins σ Q) X.xe s := fun {ys} wy b => by
      obtain ⟨ok, b⟩ := Out.of_chk b
      obtain ⟨o1, o2⟩ := Bool.and_eq_true_iff.mp ok
      have ry' := rdv_of (d := .tup ys) (n := 61) hκ I (by rw [okD]; exact o2) wy ry
      obtain ⟨l, its, rfl, p, r⟩ := ry'
      obtain ⟨e, h1, h2⟩ := anyW (A := X.A) o2 (by show X.A.units + 1 + 60 < cLine; omega) (rdv_of hκ I o1 wx rx) r
      refine notIn_tupleAt e p (fun y hy => h1 y (by simpa using hy)) ?_
      rw [List.any_toArray, h2]
      exact fin b
    cases dy with
    | lst ys => cases dx <;> exact seqL wy b
    | tup ys => cases dx <;> exact seqT wy b
    | str j => cases dx with
      | str i => exact OpR.use op_notin_str I rx ry ⟨tx i, tx j, wx.1, wy.1, by have b' := b; simp only [cmpD, subS_eq] at b'; exact b'⟩
      | _ => exact b.elim
    | dic kvs =>
      obtain ⟨a, kws, rfl, hH, hd⟩ := wy
      cases ry
      cases dx with
      | str i => exact d_notIn (by omega) I (dget_rd (k := Sum.inr (tx i)) hH) (by cases wx.1; exact rx) fun s' I' => ⟨.bl _, H, I', rfl, by rw [show (Sum.inr (tx i) : L2.Key) = kx (.inr i) from rfl, ← look_some hd]; exact b⟩
      | int i => exact d_notIn (by omega) I (dget_rd (k := Sum.inl i) hH) (by cases wx; exact rx) fun s' I' => ⟨.bl _, H, I', rfl, by rw [show (Sum.inl i : L2.Key) = kx (.inl i) from rfl, ← look_some hd]; exact b⟩
      | _ => exact b.elim
    | kdic kvs =>
      obtain ⟨a, rfl, kd, hd⟩ := wy
      obtain ⟨es, n, kd'⟩ := kd.lit
      rw [hκ, hw] at kd'
      cases dx with
      | str i =>
        obtain ⟨r, e1, e2⟩ := lookz_some (q := i) kd hd
        rw [hκ] at e1
        exact OpR.use (op_notIn_kd kd') I rx ry ⟨tx i, r, wx.1, rfl, e1, by rw [e2]; exact b⟩
      | _ => exact b.elim
    | _ => cases dx <;> exact b.elim
  | ned =>
    obtain ⟨ok, b2⟩ := Out.of_chk b
    have b2 : Q (.bl false) H := b2
    obtain ⟨k1, k2, rfl, rfl, hlen, hall⟩ := dicEq_of ok
    obtain ⟨a1, ks, rfl, e1, d1⟩ := wx
    obtain ⟨a2, ls, rfl, e2, d2⟩ := wy
    cases rx
    cases ry
    obtain ⟨_, ya, va, ra, da⟩ := e1.ok I.hok
    obtain ⟨_, yb, vb, rb, db⟩ := e2.ok I.hok
    have hp := dic_hits d2 d1 hall
    have hl : va.length = vb.length := by rw [← ra.length, ← rb.length, ← d1.length, ← d2.length]; exact hlen
    exact PySem.W.keq_ne (knd := mixKind X.prog X.w) (r := true) ya yb da db (by omega) (fun _ => hits_all rb ra hp) (fin_bl I b2 (by simp [hl]))

/-! ### subscripts, slices -/
theorem atI_eq {α : Type} (xs : List α) (i : Int) : Ev.atI xs i = L2.atI xs i := by
  unfold Ev.atI L2.atI ixN
  by_cases h : 0 ≤ i
  · rw [if_pos h, if_pos h]
    by_cases h2 : i < xs.length
    · rw [if_pos h2]; rfl
    · rw [if_neg h2]
      exact List.getElem?_eq_none_iff.mpr (by omega)
  · rw [if_neg h, if_neg h]
    by_cases h2 : 0 ≤ i + xs.length
    · rw [if_pos h2, if_pos (by omega)]; rfl
    · rw [if_neg h2, if_neg (by omega)]; rfl
theorem atI_get {α : Type} {xs : List α} {i : Int} {x : α} (h : L2.atI xs i = some x) : ∃ j, ixN xs.length i = some j ∧ xs[j]? = some x := by
  unfold L2.atI at h
  cases q : ixN xs.length i with
  | none => rw [q] at h; cases h
  | some j => rw [q] at h; exact ⟨j, rfl, h⟩
theorem IsDs.atI {ds : List D} {vs : List V} {i : Int} {d : D} (r : IsDs κ as H ds vs) (h : L2.atI ds i = some d) : ∃ v, L2.atI vs i = some v ∧ IsD κ as H d v := by
  obtain ⟨j, h1, h2⟩ := atI_get h
  obtain ⟨v, h3, h4⟩ := r.get h2
  refine ⟨v, ?_, h4⟩
  unfold L2.atI
  rw [← r.length, h1]
  exact h3
def rIdx (κ : Kx) : R2 := fun x y H Q => ∃ as S dx dy ke, IsV κ as H dx x ∧ IsD κ as H dy y ∧ Out (idxD dx dy S) (fun d _ => ∀ v, IsD κ as H d v → Q v H) ke
theorem ix_any (hκ : κ.K = X.K) (hw : κ.w = X.w) (hu : X.A.units + 64 < cLine) : IxR X (rIdx κ) := by
  intro value slice pins s σ H x y v u Q I rx ry h hs
  obtain ⟨as, S, dx, dy, ke, wx, wy, b⟩ := h
  cases dx with
  | lst xs => cases dy with
    | int i =>
      obtain ⟨a, vs, rfl, hH, hd⟩ := wx
      obtain ⟨d, q, k⟩ := Out.of_of b
      rw [atI_eq] at q
      obtain ⟨v', e1, e2⟩ := hd.atI q
      exact ix_list value slice pins s σ H _ _ v u Q I rx ry ⟨a, vs, i, v', rfl, wy, .inl hH, e1, k _ e2⟩ hs
    | _ => exact b.elim
  | tup xs => cases dy with
    | int i =>
      obtain ⟨a, vs, rfl, hH, hd⟩ := wx
      rw [hκ] at hH
      obtain ⟨d, q, k⟩ := Out.of_of b
      rw [atI_eq] at q
      obtain ⟨v', e1, e2⟩ := hd.atI q
      exact ix_tup value slice pins s σ H _ _ v u Q I rx ry ⟨a, vs, i, v', rfl, wy, hH.sq, e1, k _ e2⟩ hs
    | _ => exact b.elim
  | scr ns => cases dy with
    | int i =>
      obtain ⟨a, rfl, hH⟩ := wx
      rw [hκ] at hH
      obtain ⟨d, q, k⟩ := Out.of_of b
      cases q2 : Ev.atI ns i with
      | none => rw [q2] at q; cases q
      | some m =>
        rw [q2] at q
        cases q
        rw [atI_eq] at q2
        obtain ⟨j, h1, h2⟩ := atI_get q2
        have e1 : L2.atI (ns.map V.int) i = some (.int m) := by
          unfold L2.atI
          rw [List.length_map, h1]
          show (ns.map V.int)[j]? = _
          rw [List.getElem?_map, h2]
          rfl
        exact ix_list value slice pins s σ H _ _ v u Q I rx ry ⟨a, _, i, _, rfl, wy, hH, e1, k _ rfl⟩ hs
    | _ => exact b.elim
  | str z => cases dy with
    | int i =>
      obtain ⟨d, q, k⟩ := Out.of_of b
      cases q2 : Ev.atI z i with
      | none => rw [q2] at q; cases q
      | some c =>
        rw [q2] at q
        cases q
        rw [atI_eq] at q2
        exact ix_str value slice pins s σ H _ _ v u Q I rx ry ⟨tx z, i, c, wx.1, wy, by rw [tx_len]; exact szOk_of wx.2, by rw [tx_list]; exact q2, k _ ⟨rfl, rfl⟩⟩ hs
    | _ => exact b.elim
  | dic kvs =>
    obtain ⟨a, kws, rfl, hH, hd⟩ := wx
    cases rx
    have go : ∀ {q : Ky} {d : D}, lookK kvs q = some d → (∀ v, IsD κ as H d v → Q v H) → RelV (kV (kx q)) u → wpAny (model X.prog X.w) X.A (subscriptTail value slice (.ref a) u) (EP X pins σ Q) X.xe s := fun {q d} e kd ru => by
      obtain ⟨v', e1, e2⟩ := look_val hd e
      have g : DGet H a (kV (kx q)) (some v') := by rw [← e1]; exact dget_rd hH
      exact tail_any (dict_typeIs I g) slot_dict_getitem.lookup (d_getItem (by omega) I g ru fun w' s' I' r' => ⟨v', H, I', r', kd _ e2⟩) hs
    cases dy with
    | int i =>
      obtain ⟨d, q, k⟩ := Out.of_of b
      exact go q k (by cases wy; exact ry)
    | str i =>
      obtain ⟨d, q, k⟩ := Out.of_of b
      exact go q k (by cases wy.1; exact ry)
    | _ => exact b.elim
  | kdic kvs =>
    obtain ⟨a, rfl, kd, hd⟩ := wx
    obtain ⟨es, n, kd'⟩ := kd.lit
    rw [hκ, hw] at kd'
    cases dy with
    | str i =>
      obtain ⟨d, q, k⟩ := Out.of_of b
      obtain ⟨u0, v0, e1, e2, e3⟩ := lookz_val hd q
      rw [hκ] at e1
      cases rx
      exact tail_any (kd_type kd' I) slot_dict_getitem.lookup (OpR.use (op_item_kd kd') I (show RelV (.ref a) (.ref a) from rfl) ry ⟨tx i, u0, v0, rfl, wy.1, e1, e2, k _ e3⟩) hs
    | _ => exact b.elim
  | _ => exact b.elim
end
end Ev
set_option maxHeartbeats 2000000
/-! Ev, part 7: calls of what is built in. -/
namespace Ev
open PySem PySem.Spec PyProof.Rows L2
section
variable {κ : Kx} {as : List Addr} {H : Hp}
theorem IsDs.ints {ns : List Int} : ∀ {ds : List D} {vs : List V}, toInts ds = some ns → IsDs κ as H ds vs → vs = ns.map V.int := by
  induction ns with
  | nil =>
    intro ds vs e h
    cases ds with
    | nil => cases vs with
      | nil => rfl
      | cons _ _ => exact h.elim
    | cons d r => cases d <;> simp [toInts] at e
  | cons n ns ih =>
    intro ds vs e h
    cases ds with
    | nil => simp [toInts] at e
    | cons d r =>
      cases d <;> simp [toInts] at e
      obtain ⟨e1, rfl⟩ := e
      cases vs with
      | nil => exact h.elim
      | cons v vs =>
        have h1 : v = V.int _ := h.1
        rw [h1, ih e1 h.2]
        rfl
theorem IsDs.bools {bs : List Bool} : ∀ {ds : List D} {vs : List V}, toBools ds = some bs → IsDs κ as H ds vs → vs = bs.map V.bl := by
  induction bs with
  | nil =>
    intro ds vs e h
    cases ds with
    | nil => cases vs with
      | nil => rfl
      | cons _ _ => exact h.elim
    | cons d r => cases d <;> simp [toBools] at e
  | cons n ns ih =>
    intro ds vs e h
    cases ds with
    | nil => simp [toBools] at e
    | cons d r =>
      cases d <;> simp [toBools] at e
      obtain ⟨e1, rfl⟩ := e
      cases vs with
      | nil => exact h.elim
      | cons v vs =>
        have h1 : v = V.bl _ := h.1
        rw [h1, ih e1 h.2]
        rfl
theorem IsDs.of_ints : ∀ {ns : List Int}, IsDs κ as H (ns.map D.int) (ns.map V.int)
  | [] => True.intro
  | _ :: _ => ⟨rfl, IsDs.of_ints⟩
def IsVs (κ : Kx) (as : List Addr) (H : Hp) : List D → List V → Prop
  | [], [] => True
  | d :: ds, v :: vs => IsV κ as H d v ∧ IsVs κ as H ds vs
  | _, _ => False
theorem IsEs.vs {S : Sto} (hS : RepS κ as H S) : ∀ {ds : List W} {vs : List V}, IsEs κ as H ds vs → IsVs κ as H (ds.map (W.vw S)) vs
  | [], [], _ => True.intro
  | _ :: _, _ :: _, h => ⟨h.1.vw hS, IsEs.vs hS h.2⟩
  | [], _ :: _, h => h.elim
  | _ :: _, [], h => h.elim
theorem IsVs.one {d : D} {vs : List V} (h : IsVs κ as H [d] vs) : ∃ v, vs = [v] ∧ IsV κ as H d v := by
  cases vs with
  | nil => exact h.elim
  | cons v vs => cases vs with
    | nil => exact ⟨v, rfl, h.1⟩
    | cons _ _ => exact h.2.elim
theorem IsVs.two {d e : D} {vs : List V} (h : IsVs κ as H [d, e] vs) : ∃ v w, vs = [v, w] ∧ IsV κ as H d v ∧ IsV κ as H e w := by
  cases vs with
  | nil => exact h.elim
  | cons v vs =>
    obtain ⟨w, rfl, hw⟩ := IsVs.one h.2
    exact ⟨v, w, rfl, h.1, hw⟩
end
theorem minI_spec : ∀ (ns : List Int) (n : Int), (minI n ns = n ∨ minI n ns ∈ ns) ∧ minI n ns ≤ n ∧ ∀ y ∈ ns, minI n ns ≤ y
  | [], n => ⟨.inl rfl, Int.le_refl _, fun _ h => nomatch h⟩
  | j :: r, n => by
    rw [minI]
    obtain ⟨h1, h2, h3⟩ := minI_spec r (if j < n then j else n)
    refine ⟨?_, ?_, fun y hy => ?_⟩
    · rcases h1 with h1 | h1
      · rw [h1]
        by_cases z : j < n
        · rw [if_pos z]; exact .inr List.mem_cons_self
        · rw [if_neg z]; exact .inl rfl
      · exact .inr (List.mem_cons_of_mem _ h1)
    · by_cases z : j < n
      · rw [if_pos z] at h2 ⊢; omega
      · rw [if_neg z] at h2 ⊢; exact h2
    · rcases List.mem_cons.mp hy with rfl | hy
      · by_cases z : y < n
        · rw [if_pos z] at h2 ⊢; exact h2
        · rw [if_neg z] at h2 ⊢; omega
      · exact h3 y hy
theorem maxI_spec : ∀ (ns : List Int) (n : Int), (maxI n ns = n ∨ maxI n ns ∈ ns) ∧ n ≤ maxI n ns ∧ ∀ y ∈ ns, y ≤ maxI n ns
  | [], n => ⟨.inl rfl, Int.le_refl _, fun _ h => nomatch h⟩
  | j :: r, n => by
    rw [maxI]
    obtain ⟨h1, h2, h3⟩ := maxI_spec r (if n < j then j else n)
    refine ⟨?_, ?_, fun y hy => ?_⟩
    · rcases h1 with h1 | h1
      · rw [h1]
        by_cases z : n < j
        · rw [if_pos z]; exact .inr List.mem_cons_self
        · rw [if_neg z]; exact .inl rfl
      · exact .inr (List.mem_cons_of_mem _ h1)
    · by_cases z : n < j
      · rw [if_pos z] at h2 ⊢; omega
      · rw [if_neg z] at h2 ⊢; exact h2
    · rcases List.mem_cons.mp hy with rfl | hy
      · by_cases z : n < y
        · rw [if_pos z] at h2 ⊢; exact h2
        · rw [if_neg z] at h2 ⊢; omega
      · exact h3 y hy
section
variable {X : Cx} {κ : Kx}
def bltN : Blt → String
  | .len => "len"
  | .sum => "sum"
  | .min => "min"
  | .max => "max"
  | .minO => "min"
  | .any => "any"
  | .all => "all"
  | .tup => "tuple"
  | .int => "int"
  | .str => "str"
  | .divmod => "divmod"
  | .abs => "abs"
def bltV : Blt → Value
  | .tup => .type "tuple"
  | .int => .type "int"
  | .str => .type "str"
  | b => .builtin (bltN b)
def rBlt (κ : Kx) (b : Blt) : List V → Hp → VK → Prop := fun xs H Q => ∃ as S ds ke, RepS κ as H S ∧ IsVs κ as H ds xs ∧ b ≠ .minO ∧ Out (bltD b ds S) (kD κ as H Q) ke
section
variable {pins : List (Addr × Obj)} {s : Shared} {σ : L2.St} {H : Hp} {v : V} {us : List Value} {Q : VK} {S : Sto} {as : List Addr}
theorem list_of (hκ : κ.K = X.K) {x : D} {xs : List D} (w : IsV κ as H x v) (b : listD x = some xs) : ∃ a vs, v = .ref a ∧ SqL X.K H a vs ∧ IsDs κ as H xs vs := by
  cases x with
  | lst ys =>
    cases b
    obtain ⟨a, vs, rfl, hH, hd⟩ := w
    exact ⟨a, vs, rfl, .inl hH, hd⟩
  | scr ns =>
    cases b
    obtain ⟨a, rfl, hH⟩ := w
    rw [hκ] at hH
    refine ⟨a, _, rfl, hH, ?_⟩
    clear hH
    induction ns with
    | nil => exact True.intro
    | cons n ns ih => exact ⟨rfl, ih⟩
  | _ => cases b
theorem items_of (hκ : κ.K = X.K) {x : D} {xs : List D} (w : IsV κ as H x v) (b : itemsD x = some xs) : ∃ a vs, v = .ref a ∧ (SqL X.K H a vs ∨ SqT X.K H a vs) ∧ IsDs κ as H xs vs := by
  cases x with
  | tup ys =>
    cases b
    obtain ⟨a, vs, rfl, hH, hd⟩ := w
    rw [hκ] at hH
    exact ⟨a, vs, rfl, .inr hH.sq, hd⟩
  | lst ys =>
    obtain ⟨a, vs, e, h1, h2⟩ := list_of hκ w (show listD (.lst ys) = some xs from b)
    exact ⟨a, vs, e, .inl h1, h2⟩
  | scr ys =>
    obtain ⟨a, vs, e, h1, h2⟩ := list_of hκ w (show listD (.scr ys) = some xs from b)
    exact ⟨a, vs, e, .inl h1, h2⟩
  | _ => cases b
theorem ints_of (hκ : κ.K = X.K) {x : D} {ns : List Int} (w : IsV κ as H x v) (b : (listD x).bind toInts = some ns) : ∃ a, v = .ref a ∧ SqL X.K H a (ns.map V.int) := by
  obtain ⟨xs, e1, e2⟩ := Option.bind_eq_some_iff.mp b
  obtain ⟨a, vs, e, h1, h2⟩ := list_of hκ w e1
  exact ⟨a, e, by rw [← h2.ints e2]; exact h1⟩
theorem bools_of (hκ : κ.K = X.K) {x : D} {ns : List Bool} (w : IsV κ as H x v) (b : (listD x).bind toBools = some ns) : ∃ a, v = .ref a ∧ SqL X.K H a (ns.map V.bl) := by
  obtain ⟨xs, e1, e2⟩ := Option.bind_eq_some_iff.mp b
  obtain ⟨a, vs, e, h1, h2⟩ := list_of hκ w e1
  exact ⟨a, e, by rw [← h2.bools e2]; exact h1⟩
theorem digs_eq (i : Int) : Str.ofString (toString i) = tx (digs i) := by
  rw [Str.ofString_eq_toList]
  rfl
theorem cr_blt1 {ke : D → Sto → Prop} (hκ : κ.K = X.K) (hc : X.calm = true) (b : Blt) {x : D} (I : Inv X pins σ H s) (rx : Vals [v] us) (hS : RepS κ as H S) (w : IsV κ as H x v) (nb : b ≠ .minO) (bk : Out (blt1 b x S) (kD κ as H Q) ke) :
    wpAny (model X.prog X.w) X.A (PySem.call (bltV b) us) (EP X pins σ Q) X.xe s := by
  cases b with
  | minO => exact absurd rfl nb
  | len =>
    cases x with
    | lst ys =>
      obtain ⟨a, vs, rfl, hH, hd⟩ := w
      exact CallR.use call_len I rx ⟨_, _, rfl, .inl ⟨vs, (.inl hH), rfl⟩, by rw [← hd.length]; exact kD.here bk rfl hS⟩
    | tup ys =>
      obtain ⟨a, vs, rfl, hH, hd⟩ := w
      rw [hκ] at hH
      exact CallR.use call_len I rx ⟨_, _, rfl, .inr ⟨vs, hH.sq, rfl⟩, by rw [← hd.length]; exact kD.here bk rfl hS⟩
    | scr ns =>
      obtain ⟨a, rfl, hH⟩ := w
      rw [hκ] at hH
      exact CallR.use call_len I rx ⟨_, _, rfl, .inl ⟨_, hH, rfl⟩, by rw [List.length_map]; exact kD.here bk rfl hS⟩
    | str z =>
      cases w.1
      exact CallR.use call_len I rx ⟨_, (tx z).length, rfl, ⟨by rw [tx_len]; exact szOk_of w.2, rfl⟩, by rw [tx_len]; exact kD.here bk rfl hS⟩
    | dic kvs =>
      obtain ⟨a, kws, rfl, hH, hd⟩ := w
      obtain ⟨u, rfl, ru⟩ := vals1 rx
      cases ru
      have el : kvs.length = kws.length := hd.length
      exact d_len I hH fun t s' I' => ⟨.int kws.length, H, I', ⟨t, rfl⟩, by rw [← el]; exact kD.here bk rfl hS⟩
    | _ => exact bk.elim
  | sum =>
    obtain ⟨d, e, k⟩ := Out.of_of bk
    obtain ⟨ns, e1, e2⟩ := Option.map_eq_some_iff.mp e
    subst e2
    obtain ⟨a, rfl, hq⟩ := ints_of hκ w e1
    exact CallR.use (cr_sum hc) I rx ⟨a, ns, rfl, hq, kD.here k rfl hS⟩
  | min =>
    obtain ⟨d, e, k⟩ := Out.of_of bk
    obtain ⟨ns, e1, e2⟩ := Option.bind_eq_some_iff.mp e
    obtain ⟨a, rfl, hq⟩ := ints_of hκ w e1
    cases ns with
    | nil => cases e2
    | cons n r =>
      cases e2
      refine CallR.use (cr_min hc) I rx ⟨a, n :: r, rfl, hq, by simp, fun m hm hl => ?_⟩
      have sp := minI_spec r n
      have e : m = minI n r := by
        have h1 : m ≤ minI n r := hl _ (by rcases sp.1 with z | z <;> rw [List.mem_cons] <;> simp [z])
        have h2 : minI n r ≤ m := by
          rcases List.mem_cons.mp hm with z | z
          · rw [z]; exact sp.2.1
          · exact sp.2.2 m z
        omega
      rw [e]
      exact kD.here k rfl hS
  | max =>
    obtain ⟨d, e, k⟩ := Out.of_of bk
    obtain ⟨ns, e1, e2⟩ := Option.bind_eq_some_iff.mp e
    obtain ⟨a, rfl, hq⟩ := ints_of hκ w e1
    cases ns with
    | nil => cases e2
    | cons n r =>
      cases e2
      refine CallR.use (cr_max hc) I rx ⟨a, n :: r, rfl, hq, by simp, fun m hm hl => ?_⟩
      have sp := maxI_spec r n
      have e : m = maxI n r := by
        have h1 : maxI n r ≤ m := hl _ (by rcases sp.1 with z | z <;> rw [List.mem_cons] <;> simp [z])
        have h2 : m ≤ maxI n r := by
          rcases List.mem_cons.mp hm with z | z
          · rw [z]; exact sp.2.1
          · exact sp.2.2 m z
        omega
      rw [e]
      exact kD.here k rfl hS
  | any =>
    obtain ⟨d, e, k⟩ := Out.of_of bk
    obtain ⟨ns, e1, e2⟩ := Option.map_eq_some_iff.mp e
    subst e2
    obtain ⟨a, rfl, hq⟩ := bools_of hκ w e1
    exact CallR.use (cr_any hc) I rx ⟨a, ns, rfl, hq, kD.here k rfl hS⟩
  | all =>
    obtain ⟨d, e, k⟩ := Out.of_of bk
    obtain ⟨ns, e1, e2⟩ := Option.map_eq_some_iff.mp e
    subst e2
    obtain ⟨a, rfl, hq⟩ := bools_of hκ w e1
    exact CallR.use (cr_all hc) I rx ⟨a, ns, rfl, hq, kD.here k rfl hS⟩
  | tup =>
    obtain ⟨d, e, k⟩ := Out.of_of bk
    obtain ⟨xs, e1, e2⟩ := Option.map_eq_some_iff.mp e
    subst e2
    cases x with
    | tup ys =>
      cases e1
      obtain ⟨a, vs, rfl, hH, hd⟩ := w
      exact CallR.use call_tupP I rx ⟨a, vs, rfl, .inr ⟨hκ ▸ hH.sq, kD.here k ⟨a, vs, rfl, hH, hd⟩ hS⟩⟩
    | lst ys =>
      obtain ⟨a, vs, rfl, hH, hd⟩ := list_of hκ w (show listD (.lst ys) = some xs from e1)
      exact CallR.use call_tupP I rx ⟨a, vs, rfl, .inl ⟨hH, kD.tup k hS hd⟩⟩
    | scr ys =>
      obtain ⟨a, vs, rfl, hH, hd⟩ := list_of hκ w (show listD (.scr ys) = some xs from e1)
      exact CallR.use call_tupP I rx ⟨a, vs, rfl, .inl ⟨hH, kD.tup k hS hd⟩⟩
    | _ => cases e1
  | int =>
    cases x with
    | int i =>
      cases w
      exact CallR.use call_int1 I rx (.inl ⟨i, rfl, kD.here bk rfl hS⟩)
    | bl i =>
      cases w
      exact CallR.use call_int1 I rx (.inr ⟨i, rfl, kD.here bk rfl hS⟩)
    | _ => exact bk.elim
  | str =>
    cases x with
    | int i =>
      cases w
      obtain ⟨z, bk⟩ := Out.of_chk bk
      obtain ⟨z1, z2⟩ := ba2 z
      exact CallR.use call_str_int I rx ⟨i, rfl, Nat.lt_of_lt_of_le (PySem.Flt.log2_lt_of (by decide) (of_decide_eq_true z1)) (by decide), by rw [digs_eq]; exact kD.here bk ⟨rfl, z2⟩ hS⟩
    | _ => exact bk.elim
  | abs =>
    cases x with
    | int i =>
      cases w
      exact CallR.use call_abs I rx ⟨i, rfl, kD.here bk rfl hS⟩
    | _ => exact bk.elim
  | divmod => exact bk.elim
theorem cr_blt2 {ke : D → Sto → Prop} (hc : X.calm = true) (b : Blt) {x y : D} {w : V} (I : Inv X pins σ H s) (rx : Vals [v, w] us) (hS : RepS κ as H S) (wx : IsV κ as H x v) (wy : IsV κ as H y w) (bk : Out (blt2 b x y S) (kD κ as H Q) ke) :
    wpAny (model X.prog X.w) X.A (PySem.call (bltV b) us) (EP X pins σ Q) X.xe s := by
  cases x with
  | int i => cases y with
    | int j =>
      cases wx
      cases wy
      cases b with
      | min => exact CallR.use (call_min2 hc) I rx ⟨i, j, rfl, kD.here bk rfl hS⟩
      | max => exact CallR.use (call_max2 hc) I rx ⟨i, j, rfl, kD.here bk rfl hS⟩
      | divmod =>
        obtain ⟨z, bk⟩ := Out.of_chk bk
        obtain ⟨z1, z2⟩ := ba2 z
        exact CallR.use call_divmodP I rx ⟨i, j, rfl, ⟨of_decide_eq_true z1, of_decide_eq_true z2⟩, kD.tup bk hS ⟨rfl, rfl, True.intro⟩⟩
      | _ => exact bk.elim
    | _ => cases b <;> exact bk.elim
  | _ => cases b <;> exact bk.elim
end
theorem cr_blt (hκ : κ.K = X.K) (hc : X.calm = true) (b : Blt) : CallR X (bltV b) (rBlt κ b) := by
  intro pins s σ H xs us Q I rx q
  obtain ⟨as, S, ds, ke, hS, w, nb, bk⟩ := q
  match ds, w, bk with
  | [], _, bk => exact bk.elim
  | [x], w, bk =>
    obtain ⟨v, rfl, hv⟩ := w.one
    exact cr_blt1 hκ hc b I rx hS hv nb bk
  | [x, y], w, bk =>
    obtain ⟨v, z, rfl, hv, hz⟩ := w.two
    exact cr_blt2 hc b I rx hS hv hz bk
  | _ :: _ :: _ :: _, _, bk => exact bk.elim
end
end Ev
set_option maxHeartbeats 2000000
/-! Ev, part 8: an expression does what its reading says. -/
namespace Ev
open PySem PySem.Spec PyProof.Rows L2

structure SC where
  N : List Str
  nm : List (Str × NameKind)
  cl : List Str
  fns : List (Nat × Str)
  cs : List (String × D)
  ci : List CI
/-- what is wanted of a call's value -/
def kR (κ : Kx) (as : List Addr) (H : Hp) (Q : VK) : W → Sto → Prop := fun w S => match w with
  | .d d => kD κ as H Q d S
  | .own c => kN κ as H Q c S
/-- what a function promises, in the layer's words -/
def spOf (κ : Kx) (φ : List D → Sto → R W) : Sp := fun vs H Q EX => ∃ as ds S, IsDs κ as H ds vs ∧ RepS κ as H S ∧ Out (φ ds S) (kR κ as H Q)
  (fun x S' => ∀ as' H' cls dd, Step as H as' H' → IsX κ as' H' x cls dd → RepS κ as' H' S' → EX cls dd H')
structure FnAt (X : Cx) (κ : Kx) (φ : List D → Sto → R W) (x : Str) : Prop where
  ex : ∃ (a : Addr) (fd : FuncData) (ps : List Str) (k : Nat), X.mg x = some (.ref a) ∧ PySem.W.keepIn X.K (.ref a) = true ∧ Binds X.K fd ps [] ∧ FnOk X.prog X.w X.K X.mg X.base (L2.CX X.prog X.w) k a fd ps (spOf κ φ) ∧ Room (k + 2) X.A

/-- what a new thing's __init__ promises, in the layer's words: the thing lies there, without attributes -/
def spI (κ : Kx) (c : String) (φ : List D → Sto → R W) : Sp := fun vs H Q EX => ∃ x dx rest H1 as ds S, vs = .ref x :: rest ∧ H1 x = none ∧ H1 dx = none ∧ dx ≠ x ∧ H = upd (upd H1 dx (.own x)) x (.ins (He.ga κ.K (Str.ofString c)) dx []) ∧ IsDs κ as H1 ds rest ∧ RepS κ as H1 S ∧
  Out (φ (.int (x : Nat) :: ds) S) (fun w S' => ∃ fs, w = .own (.obj (some x) c fs) ∧ ∀ as' H', Step as H1 as' H' → x ∉ as' → RepC κ as' H' x (.obj none c fs) → RepS κ as' H' S' → Q .non H')
    (fun e S' => ∀ as' H' cls dd, Step as H1 as' H' → IsX κ as' H' e cls dd → RepS κ as' H' S' → EX cls dd H')
/-- a class is as the text says -/
structure CiAt (X : Cx) (κ : Kx) (Φ : Fn) (i : CI) : Prop where
  mg : X.mg (Str.ofString i.c) = some (.ref (He.ga X.K (Str.ofString i.c)))
  cls : Cls X.K (He.ga X.K (Str.ofString i.c))
  noat : ∀ f ∈ i.fs, NoAttr X.K (He.ga X.K (Str.ofString i.c)) (Str.ofString f)
  meth : ∀ m j, (m, j) ∈ i.ms → ∃ (fd : FuncData) (ps : List Str) (k : Nat), Meth X.K (He.ga X.K (Str.ofString i.c)) (Str.ofString m) (He.ma X.K (He.ga X.K (Str.ofString i.c)) (Str.ofString m)) ∧ Binds X.K fd ps [] ∧
    FnOk X.prog X.w X.K X.mg X.base (L2.CX X.prog X.w) k (He.ma X.K (He.ga X.K (Str.ofString i.c)) (Str.ofString m)) fd ps (spOf κ (Φ j)) ∧ Room (k + 2) X.A
  maker : ∀ j, i.ini = some j → ∃ (fd : FuncData) (ps : List Str) (k : Nat), Mk X.K (He.ga X.K (Str.ofString i.c)) (He.ma X.K (He.ga X.K (Str.ofString i.c)) "__init__") ∧ Binds X.K fd ps [] ∧
    FnOk X.prog X.w X.K X.mg X.base (L2.CX X.prog X.w) k (He.ma X.K (He.ga X.K (Str.ofString i.c)) "__init__") fd ps (spI κ i.c (Φ j)) ∧ Room (k + 2) X.A
def visB (sc : SC) (x : Str) : Bool := match sc.nm.lookup x with
  | some .local => true
  | some .cell => true
  | some .free => true
  | _ => false
def locB (sc : SC) (x : Str) : Bool := match sc.nm.lookup x with
  | some .local => true
  | some .cell => sc.cl.contains x
  | _ => false
def glB (sc : SC) (x : Str) : Bool := match sc.nm.lookup x with
  | some .globalImplicit => true
  | _ => false
def odd (x : Str) : Bool := x == ("__debug__" : Str) || x == ("__classdict__" : Str) || x == ("__name__" : Str)
def nostar : Expr → Bool
  | .Starred _ _ => false
  | _ => true
def plainIx : Expr → Bool
  | .Slice _ _ _ _ => false
  | _ => true
/-- where one stands is as the text says -/
structure CxOk (X : Cx) (sc : SC) (κ : Kx) (Φ : Fn) : Prop where
  hκ : κ.K = X.K
  hw : κ.w = X.w
  N : X.N = sc.N
  nd : X.N.Nodup
  nm : X.env.scope.names = sc.nm
  kind : X.env.scope.kind = .function
  calm : X.calm = true
  un : X.A.units + 64 < cLine
  fn : ∀ x, locB sc x = true → X.fn x = true ∨ X.env.scope.names.lookup x = some .local
  blt : ∀ x ∈ bltNames, X.mg (Str.ofString x) = none
  fns : ∀ f x, sc.fns.lookup f = some x → FnAt X κ (Φ f) x
  cs : CsOk X.K X.mg κ sc.cs
  ci : ∀ i ∈ sc.ci, CiAt X κ Φ i

section
variable {X : Cx} {sc : SC} {κ : Kx} {Φ : Fn} {Wx : L2.WX}
theorem CxOk.vis (ok : CxOk X sc κ Φ) {x : Str} (h : visB sc x = true) : Vis X.env.scope x := by
  unfold visB at h
  unfold Vis
  rw [ok.nm]
  split at h
  · rename_i e; exact .inl e
  · rename_i e; exact .inr (.inl e)
  · rename_i e; exact .inr (.inr e)
  · cases h
theorem CxOk.loc (ok : CxOk X sc κ Φ) {x : Str} (h : locB sc x = true) : L2.Loc X.env.scope x := by
  unfold locB at h
  unfold L2.Loc
  rw [ok.nm]
  split at h
  · rename_i e; exact .inl e
  · rename_i e; exact .inr e
  · cases h
theorem CxOk.gl (ok : CxOk X sc κ Φ) {x : Str} (h : glB sc x = true) : Gl X x := by
  unfold glB at h
  show X.env.scope.names.lookup x = _
  rw [ok.nm]
  split at h
  · rename_i e; exact e
  · cases h
theorem odd_db {x : Str} (h : odd x = false) : (x == ("__debug__" : Str)) = false := by
  unfold odd at h
  simp only [Bool.or_eq_false_iff] at h
  exact h.1.1
theorem odd_cd {x : Str} (h : odd x = false) : (x == ("__classdict__" : Str)) = false := by
  unfold odd at h
  simp only [Bool.or_eq_false_iff] at h
  exact h.1.2
theorem star_cons {e : Expr} {es : List Expr} {env : PySem.Env} (h : nostar e = true) : starEach (e :: es) env = (false, eval e env) :: starEach es env := by
  cases e <;> first | rfl | cases h
theorem star_back {pos : Pos} {env : PySem.Env} : ∀ {es : List Expr}, (∀ e ∈ es, nostar e = true) → (backTo pos (starEach es env)).any (·.1) = false
  | [], _ => rfl
  | e :: es, h => by
    have ih := star_back (pos := pos) (env := env) (es := es) fun e' h' => h e' (List.mem_cons_of_mem _ h')
    rw [star_cons (h e List.mem_cons_self)]
    unfold backTo at ih ⊢
    rw [List.map_cons, List.any_cons, ih]
    rfl
theorem plainIx_ok {b : Expr} (h : plainIx b = true) : PlainIx b := fun o i => by
  cases b <;> first | rfl | cases h

/-! ### one construct at a time -/
variable {a b c : Expr} {ma mb mc : MW} {pos : Pos}
theorem pd_var (ok : CxOk X sc κ Φ) {i : Nat} {x : Str} (h1 : sc.N[i]? = some x) (h2 : visB sc x = true) (h3 : odd x = false) : PE X (.Name x pos) (rdW κ Wx fun ρ S => R.of S (ρ.get i)) := by
  refine PE.imp (pe_var (i := i) (by rw [ok.N]; exact h1) (ok.vis h2) (odd_db h3) (odd_cd h3)) fun σ H Q ⟨as, H0, ρ, S, rs, hS, w⟩ => ?_
  obtain ⟨w', e, k⟩ := Out.of_of w
  obtain ⟨v, e2, r⟩ := rs.get e
  exact ⟨v, e2, k.here r hS⟩
theorem pd_const {e : Expr} {d : D} {v : V} (h : PE X e (tC v)) (hd : ∀ (as : List Addr) (H : Hp), IsD κ as H d v) : PE X e (rdW κ Wx fun _ S => .ok (.d d) S) :=
  PE.imp h fun σ H Q ⟨as, H0, ρ, S, rs, hS, w⟩ => kW.here (w := .d d) w (hd as H) hS
/-- a comparison leaves the store -/
theorem cmpD_S {o : Cop} {x y : D} {S : Sto} {k : Bool → Sto → Prop} {ke : D → Sto → Prop} (h : Out (cmpD o x y S) k ke) : Out (cmpD o x y S) (fun r S' => S' = S ∧ k r S') ke := by
  have go : ∀ r : R Bool, (∀ b S', r = .ok b S' → S' = S) → Out r k ke → Out r (fun r S' => S' = S ∧ k r S') ke := fun r e h => by
    cases r with
    | ok b S' => exact ⟨e b S' rfl, h⟩
    | exc e S' => exact h
    | bad => exact h
  refine go _ ?_ h
  intro b S' e
  unfold cmpD R.chk at e
  (repeat' split at e) <;> first | (injection e with _ e2; exact e2.symm) | cases e
theorem pd_bin (ok : CxOk X sc κ Φ) {o : Bop} (ha : PE X a (rdW κ Wx ma)) (hb : PE X b (rdW κ Wx mb)) :
    PE X (.BinOp a (bopE o) b pos) (rdW κ Wx fun ρ S => (ma ρ S).bind fun x S1 => (mb ρ S1).bind fun y S2 => (binD o (x.vw S2) (y.vw S2) S2).w) := by
  refine PE.imp (pe_op (op_bin ok.hκ o) ha hb) fun σ H Q ⟨as, H0, ρ, S, rs, hS, w⟩ => ?_
  refine rdW.mk rs hS w.of_bind fun x S1 as1 H1 v w1 st1 r1 hS1 => ?_
  refine rdW.mk (rs.step st1) hS1 (w1.onW st1).of_bind fun y S2 as2 H2 v2 w2 st2 r2 hS2 => ?_
  exact ⟨as2, S2, _, _, _, hS2, (r1.step st2).vw hS2, r2.vw hS2, (w2.onW st2).of_w⟩
def cmpW (ma mb : MW) (o : Cop) (ρ : Env) (S : Sto) : R Bool := (ma ρ S).bind fun x S1 => (mb ρ S1).bind fun y S2 => cmpD o (x.vw S2) (y.vw S2) S2
theorem pd_cmp (ok : CxOk X sc κ Φ) {o : Cop} (ha : PE X a (rdW κ Wx ma)) (hb : PE X b (rdW κ Wx mb)) (hm : behindInMarks (copE o) b = false) :
    PE X (.Compare a [copE o] [b] pos) (rdW κ Wx fun ρ S => (ma ρ S).bind fun x S1 => (mb ρ S1).bind fun y S2 => (cmpD o (x.vw S2) (y.vw S2) S2).bind fun r S3 => .ok (.d (.bl r)) S3) := by
  refine PE.imp (pe_cmpR (op_cmp ok.hκ ok.hw ok.un o) ha hb hm) fun σ H Q ⟨as, H0, ρ, S, rs, hS, w⟩ => ?_
  refine rdW.mk rs hS w.of_bind fun x S1 as1 H1 v w1 st1 r1 hS1 => ?_
  refine rdW.mk (rs.step st1) hS1 (w1.onW st1).of_bind fun y S2 as2 H2 v2 w2 st2 r2 hS2 => ?_
  have e := cmpD_S (w2.onW st2).of_bind
  exact ⟨as2, S2, _, _, _, (r1.step st2).vw hS2, r2.vw hS2, e.imp (fun r S3 z => by obtain ⟨rfl, z⟩ := z; exact kW.here (w := .d (.bl r)) z rfl hS2) fun _ _ z => z⟩
end
end Ev
set_option maxHeartbeats 2000000
/-! Ev, part 9: tests, calls, displays. -/
namespace Ev
open PySem PySem.Spec PyProof.Rows L2
section
variable {α β : Type} {r : R α} {k k' : α → Sto → Prop} {ke ke' : D → Sto → Prop}
theorem Out.to_bind {f : α → Sto → R β} {k : β → Sto → Prop} (h : Out r (fun a S => Out (f a S) k ke) ke) : Out (r.bind f) k ke := by
  cases r <;> exact h
end
theorem Out.to_t {r : R W} {k : Bool → Sto → Prop} {ke : D → Sto → Prop} (h : Out r (fun w S => Out (truD S (w.vw S)) k ke) ke) : Out r.t k ke := by
  cases r <;> exact h
theorem truD_S {d : D} {S : Sto} {k : Bool → Sto → Prop} {ke : D → Sto → Prop} (h : Out (truD S d) k ke) : ∃ b, truD S d = .ok b S ∧ k b S := by
  cases d <;> first | exact ⟨_, rfl, h⟩ | exact h.elim
section
variable {X : Cx} {sc : SC} {κ : Kx} {Φ : Fn} {Wx : L2.WX} {a b c : Expr} {ma mb mc : MW} {pos : Pos}
theorem pt_cmp (ok : CxOk X sc κ Φ) {o : Cop} (ha : PE X a (rdW κ Wx ma)) (hb : PE X b (rdW κ Wx mb)) (hm : behindInMarks (copE o) b = false) :
    PT X (.Compare a [copE o] [b] pos) (rdT κ Wx fun ρ S => ((ma ρ S).bind fun x S1 => (mb ρ S1).bind fun y S2 => (cmpD o (x.vw S2) (y.vw S2) S2).bind fun r S3 => .ok (.d (.bl r)) S3).t) := by
  refine PT.imp (pt_cmpR (op_cmp ok.hκ ok.hw ok.un o) ha hb hm) fun σ H Q ⟨as, H0, ρ, S, rs, hS, w⟩ => ?_
  refine rdW.mk rs hS w.of_t.of_bind fun x S1 as1 H1 v w1 st1 r1 hS1 => ?_
  refine rdW.mk (rs.step st1) hS1 (w1.imp (fun _ _ z => z) fun _ _ z => kX.on st1 z).of_bind fun y S2 as2 H2 v2 w2 st2 r2 hS2 => ?_
  have e := cmpD_S w2.of_bind
  exact ⟨as2, S2, _, _, _, (r1.step st2).vw hS2, r2.vw hS2, e.imp (fun r S3 z => by obtain ⟨rfl, z⟩ := z; exact ⟨r, rfl, z as2 H2 (st1.trans st2) hS2⟩) fun _ _ z => z⟩
theorem pd_chn (ok : CxOk X sc κ Φ) {o o' : Cop} (ha : PE X a (rdW κ Wx ma)) (hb : PE X b (rdW κ Wx mb)) (hc : PE X c (rdW κ Wx mc)) (hm : lastMarks [copE o, copE o'] [b, c] = false) :
    PE X (.Compare a [copE o, copE o'] [b, c] pos) (rdW κ Wx fun ρ S => (ma ρ S).bind fun x S1 => (mb ρ S1).bind fun y S2 => (cmpD o (x.vw S2) (y.vw S2) S2).bind fun r S3 =>
      if r = true then (mc ρ S3).bind fun z S4 => (cmpD o' (y.vw S4) (z.vw S4) S4).bind fun r S5 => .ok (.d (.bl r)) S5 else .ok (.d (.bl false)) S3) := by
  refine PE.imp (pe_chain (op_cmp ok.hκ ok.hw ok.un o) (op_cmp ok.hκ ok.hw ok.un o') ha hb hc hm) fun σ H Q ⟨as, H0, ρ, S, rs, hS, w⟩ => ?_
  refine rdW.mk rs hS w.of_bind fun x S1 as1 H1 v w1 st1 r1 hS1 => ?_
  refine rdW.mk (rs.step st1) hS1 (w1.onW st1).of_bind fun y S2 as2 H2 v2 w2 st2 r2 hS2 => ?_
  have e := cmpD_S (w2.onW st2).of_bind
  refine ⟨as2, S2, _, _, _, (r1.step st2).vw hS2, r2.vw hS2, e.imp (fun r S3 z => ?_) fun _ _ z => z⟩
  obtain ⟨rfl, z⟩ := z
  refine ⟨r, rfl, ?_⟩
  cases r with
  | true =>
    rw [if_pos rfl] at z ⊢
    refine rdW.mk ((rs.step st1).step st2) hS2 z.of_bind fun y3 S4 as4 H4 v4 w4 st4 r4 hS4 => ?_
    have e2 := cmpD_S (w4.onW st4).of_bind
    exact ⟨as4, S4, _, _, _, (r2.step st4).vw hS4, r4.vw hS4, e2.imp (fun r S5 z => by obtain ⟨rfl, z⟩ := z; exact kW.here (w := .d (.bl r)) z rfl hS4) fun _ _ z => z⟩
  | false =>
    rw [if_neg Bool.false_ne_true] at z ⊢
    exact kW.here (w := .d (.bl false)) z rfl hS2
theorem pt_chn (ok : CxOk X sc κ Φ) {o o' : Cop} (ha : PE X a (rdW κ Wx ma)) (hb : PE X b (rdW κ Wx mb)) (hc : PE X c (rdW κ Wx mc)) (hm : lastMarks [copE o, copE o'] [b, c] = false) :
    PT X (.Compare a [copE o, copE o'] [b, c] pos) (rdT κ Wx fun ρ S => ((ma ρ S).bind fun x S1 => (mb ρ S1).bind fun y S2 => (cmpD o (x.vw S2) (y.vw S2) S2).bind fun r S3 =>
      if r = true then (mc ρ S3).bind fun z S4 => (cmpD o' (y.vw S4) (z.vw S4) S4).bind fun r S5 => .ok (.d (.bl r)) S5 else .ok (.d (.bl false)) S3).t) := by
  refine PT.imp (pt_chain (op_cmp ok.hκ ok.hw ok.un o) (op_cmp ok.hκ ok.hw ok.un o') ha hb hc hm) fun σ H Q ⟨as, H0, ρ, S, rs, hS, w⟩ => ?_
  refine rdW.mk rs hS w.of_t.of_bind fun x S1 as1 H1 v w1 st1 r1 hS1 => ?_
  refine rdW.mk (rs.step st1) hS1 (w1.imp (fun _ _ z => z) fun _ _ z => kX.on st1 z).of_bind fun y S2 as2 H2 v2 w2 st2 r2 hS2 => ?_
  have e := cmpD_S w2.of_bind
  refine ⟨as2, S2, _, _, _, (r1.step st2).vw hS2, r2.vw hS2, e.imp (fun r S3 z => ?_) fun _ _ z => z⟩
  obtain ⟨rfl, z⟩ := z
  refine ⟨r, rfl, ?_⟩
  cases r with
  | true =>
    rw [if_pos rfl] at z ⊢
    refine rdW.mk ((rs.step st1).step st2) hS2 (z.imp (fun _ _ z => z) fun _ _ z => kX.on st2 z).of_bind fun y3 S4 as4 H4 v4 w4 st4 r4 hS4 => ?_
    have e2 := cmpD_S w4.of_bind
    exact ⟨as4, S4, _, _, _, (r2.step st4).vw hS4, r4.vw hS4, e2.imp (fun r S5 z => by obtain ⟨rfl, z⟩ := z; exact ⟨r, rfl, z as4 H4 (st1.trans (st2.trans st4)) hS4⟩) fun _ _ z => z⟩
  | false =>
    rw [if_neg Bool.false_ne_true] at z ⊢
    exact ⟨false, rfl, z as2 H2 (st1.trans st2) hS2⟩
theorem pd_neg (ha : PE X a (rdW κ Wx ma)) : PE X (.UnaryOp .USub a pos) (rdW κ Wx fun ρ S => (ma ρ S).d.bind fun x S1 => match x with
    | .int i => .ok (.d (.int (-i))) S1
    | _ => .bad) := by
  refine PE.imp (pe_un un_neg ha) fun σ H Q ⟨as, H0, ρ, S, rs, hS, w⟩ => ?_
  refine rdW.mk rs hS w.of_bind.of_d fun x S1 as1 H1 v w1 st1 r1 hS1 => ?_
  obtain ⟨d, rfl, w1⟩ := w1
  cases d with
  | int i => exact ⟨i, r1, kW.here (w := .d (.int (-i))) (kW.on st1 w1) rfl hS1⟩
  | _ => exact w1.elim
theorem idxD_S {x y : D} {S : Sto} {as : List Addr} {H : Hp} {Q : VK} {ke : D → Sto → Prop} (hS : RepS κ as H S) (h : Out (idxD x y S) (fun d S => kW κ as H Q (.d d) S) ke) : Out (idxD x y S) (fun d _ => ∀ v, IsD κ as H d v → Q v H) ke := by
  have go : ∀ r : R D, (∀ b S', r = .ok b S' → S' = S) → Out r (fun d S => kW κ as H Q (.d d) S) ke → Out r (fun d _ => ∀ v, IsD κ as H d v → Q v H) ke := fun r e h' => by
    cases r with
    | ok b S' =>
      have z := e b S' rfl
      rw [← z] at hS
      exact fun v hv => kW.here (w := .d b) (show kW κ as H Q (.d b) S' from h') hv hS
    | exc e S' => exact h'
    | bad => exact h'
  refine go _ ?_ h
  intro b S' e
  unfold idxD at e
  split at e <;> first | cases e | (unfold R.of at e; split at e <;> first | (injection e with _ e2; exact e2.symm) | cases e)
theorem pd_idx (ok : CxOk X sc κ Φ) (h : plainIx b = true) (ha : PE X a (rdW κ Wx ma)) (hb : PE X b (rdW κ Wx mb)) :
    PE X (.Subscript a b pos) (rdW κ Wx fun ρ S => (ma ρ S).bind fun x S1 => (mb ρ S1).d.bind fun y S2 => (idxD (x.vw S2) y S2).w) := by
  refine PE.imp (pe_ix (ix_any ok.hκ ok.hw ok.un) ha hb (plainIx_ok h)) fun σ H Q ⟨as, H0, ρ, S, rs, hS, w⟩ => ?_
  refine rdW.mk rs hS w.of_bind fun x S1 as1 H1 v w1 st1 r1 hS1 => ?_
  refine rdW.mk (rs.step st1) hS1 (w1.onW st1).of_bind.of_d fun y S2 as2 H2 v2 w2 st2 r2 hS2 => ?_
  obtain ⟨d, rfl, w2⟩ := w2
  have w3 := (w2.onW st2).of_w
  refine ⟨as2, S2, _, _, _, (r1.step st2).vw hS2, r2, idxD_S hS2 w3⟩
theorem es_nil : PA X [] (rdDs κ Wx fun _ S => .ok [] S) :=
  PA.imp pa_nil fun σ H Q ⟨as, H0, ρ, S, rs, hS, w⟩ => w as H [] Step.refl True.intro hS
theorem es_cons {es : List Expr} {ms : Env → Sto → R (List D)} (hs : nostar a = true) (ha : PE X a (rdW κ Wx ma)) (hr : PA X es (rdDs κ Wx ms)) :
    PA X (a :: es) (rdDs κ Wx fun ρ S => (ma ρ S).d.bind fun d S1 => (ms ρ S1).bind fun ds S2 => .ok (d :: ds) S2) := by
  refine PA.imp (pa_cons ha hr (star_cons hs)) fun σ H Q ⟨as, H0, ρ, S, rs, hS, w⟩ => ?_
  refine rdW.mk rs hS w.of_bind.of_d fun x S1 as1 H1 v w1 st1 r1 hS1 => ?_
  obtain ⟨d, rfl, w1⟩ := w1
  refine rdDs.mk (rs.step st1) hS1 (w1.onDs st1).of_bind fun ds S2 as2 H2 vs w2 st2 r2 hS2 => ?_
  exact w2 as2 H2 (v :: vs) st2 ⟨r1.step st2, r2⟩ hS2
theorem ws_nil : PA X [] (rdWs κ Wx fun _ S => .ok [] S) :=
  PA.imp pa_nil fun σ H Q ⟨as, H0, ρ, S, rs, hS, w⟩ => w as H [] Step.refl True.intro hS
theorem ws_cons {es : List Expr} {ms : Env → Sto → R (List W)} (hs : nostar a = true) (ha : PE X a (rdW κ Wx ma)) (hr : PA X es (rdWs κ Wx ms)) :
    PA X (a :: es) (rdWs κ Wx fun ρ S => (ma ρ S).bind fun d S1 => (ms ρ S1).bind fun ds S2 => .ok (d :: ds) S2) := by
  refine PA.imp (pa_cons ha hr (star_cons hs)) fun σ H Q ⟨as, H0, ρ, S, rs, hS, w⟩ => ?_
  refine rdW.mk rs hS w.of_bind fun x S1 as1 H1 v w1 st1 r1 hS1 => ?_
  refine rdWs.mk (rs.step st1) hS1 (w1.onWs st1).of_bind fun ds S2 as2 H2 vs w2 st2 r2 hS2 => ?_
  exact w2 as2 H2 (v :: vs) st2 ⟨r1.step st2, r2⟩ hS2
theorem pd_tup {es : List Expr} {x1 : Nat} {ms : Env → Sto → R (List D)} (h : PA X es (rdDs κ Wx ms)) (hl : ∀ ρ S ds S', ms ρ S = .ok ds S' → ds.length ≤ 1000) :
    PE X (.Tuple es x1 pos) (rdW κ Wx fun ρ S => (ms ρ S).bind fun ds S1 => .ok (.d (.tup ds)) S1) := by
  refine PE.imp (pe_tupP h) fun σ H Q ⟨as, H0, ρ, S, rs, hS, w⟩ => ?_
  have w0 : Out (ms ρ S) (fun ds S' => ds.length ≤ 1000 ∧ kW κ as H Q (.d (.tup ds)) S') (kX κ as H σ Wx) := by
    have w1 := w.of_bind
    cases q : ms ρ S with
    | ok ds S' => rw [q] at w1; exact ⟨hl ρ S ds S' q, w1⟩
    | exc e S' => rw [q] at w1; exact w1
    | bad => rw [q] at w1; exact w1
  refine rdDs.mk rs hS w0 fun ds S1 as1 H1 vs ⟨hn, w1⟩ st1 r1 hS1 => ?_
  exact ⟨by rw [← r1.length, sizeLine_eq]; omega, kD.tup (kW.d (kW.on st1 w1)) hS1 r1⟩
theorem pn_lst {es : List Expr} {ms : Env → Sto → R (List D)} (h : PA X es (rdDs κ Wx ms)) (hl : ∀ ρ S ds S', ms ρ S = .ok ds S' → ds.length ≤ 1000) :
    PE X (.List es pos) (rdN κ Wx fun ρ S => (ms ρ S).bind fun ds S1 => .ok (.lst ds) S1) := by
  refine PE.imp (pe_lst h) fun σ H Q ⟨as, H0, ρ, S, rs, hS, w⟩ => ?_
  have w0 : Out (ms ρ S) (fun ds S' => ds.length ≤ 1000 ∧ kN κ as H Q (.lst ds) S') (kX κ as H σ Wx) := by
    have w1 := w.of_bind
    cases q : ms ρ S with
    | ok ds S' => rw [q] at w1; exact ⟨hl ρ S ds S' q, w1⟩
    | exc e S' => rw [q] at w1; exact w1
    | bad => rw [q] at w1; exact w1
  refine rdDs.mk rs hS w0 fun ds S1 as1 H1 vs ⟨hn, w1⟩ st1 r1 hS1 => ?_
  exact ⟨by rw [← r1.length, sizeLine_eq]; omega, kN.lst (kN.on st1 w1) hS1 r1⟩
theorem pn_cat (ha : PE X a (rdW κ Wx ma)) (hb : PE X b (rdW κ Wx mb)) : PE X (.BinOp a .Add b pos) (rdN κ Wx fun ρ S => (ma ρ S).bind fun x S1 => (mb ρ S1).bind fun y S2 => match x.vw S2, y.vw S2 with
    | .lst xs, .lst ys => R.chk (szOk (xs.length + ys.length)) (.ok (.lst (xs ++ ys)) S2)
    | _, _ => .bad) := by
  refine PE.imp (pe_op (op_catN (κ := κ)) ha hb) fun σ H Q ⟨as, H0, ρ, S, rs, hS, w⟩ => ?_
  refine rdW.mk rs hS w.of_bind fun x S1 as1 H1 v w1 st1 r1 hS1 => ?_
  refine rdW.mk (rs.step st1) hS1 (w1.onN st1).of_bind fun y S2 as2 H2 v2 w2 st2 r2 hS2 => ?_
  have w3 := w2.onN st2
  have e1 := (r1.step st2).vw hS2
  have e2 := r2.vw hS2
  cases q1 : x.vw S2 with
  | lst xs =>
    cases q2 : y.vw S2 with
    | lst ys =>
      rw [q1] at e1
      rw [q2] at e2
      simp only [q1, q2] at w3
      obtain ⟨z, w3⟩ := w3.of_chk
      exact ⟨as2, S2, xs, ys, hS2, e1, e2, z, w3⟩
    | _ => simp only [q1, q2] at w3; exact w3.elim
  | _ => simp only [q1] at w3; exact w3.elim
theorem pn_rep (ha : PE X a (rdW κ Wx ma)) (hb : PE X b (rdW κ Wx mb)) : PE X (.BinOp a .Mult b pos) (rdN κ Wx fun ρ S => (ma ρ S).bind fun x S1 => (mb ρ S1).d.bind fun y S2 => match x.vw S2, y with
    | .lst xs, .int j => R.chk (repOk xs.length j) (.ok (.lst (List.replicate j.toNat xs).flatten) S2)
    | _, _ => .bad) := by
  refine PE.imp (pe_op (op_repN (κ := κ)) ha hb) fun σ H Q ⟨as, H0, ρ, S, rs, hS, w⟩ => ?_
  refine rdW.mk rs hS w.of_bind fun x S1 as1 H1 v w1 st1 r1 hS1 => ?_
  refine rdW.mk (rs.step st1) hS1 (w1.onN st1).of_bind.of_d fun y S2 as2 H2 v2 w2 st2 r2 hS2 => ?_
  obtain ⟨d, rfl, w2⟩ := w2
  have w3 := w2.onN st2
  have e1 := (r1.step st2).vw hS2
  cases q1 : x.vw S2 with
  | lst xs =>
    cases d with
    | int j =>
      rw [q1] at e1
      simp only [q1] at w3
      obtain ⟨z, w3⟩ := w3.of_chk
      exact ⟨as2, S2, xs, j, hS2, e1, r2, z, w3⟩
    | _ => simp only [q1] at w3; exact w3.elim
  | _ => simp only [q1] at w3; exact w3.elim
theorem kR.on {as as1 : List Addr} {H H1 : Hp} {Q : VK} (st : Step as H as1 H1) {w : W} {S : Sto} (z : kR κ as H Q w S) : kR κ as1 H1 Q w S := by
  cases w with
  | d x => exact kD.on st z
  | own c => exact kN.on st z
/-- a call's reading: a value, or a new thing -/
def rdC (κ : Kx) (Wx : L2.WX) (m : Env → Sto → R W) : TE := fun σ H Q => ∃ as H0 ρ S, RelS κ as H0 H σ ρ ∧ RepS κ as H S ∧ Out (m ρ S) (kR κ as H Q) (kX κ as H σ Wx)
theorem pd_call (ok : CxOk X sc κ Φ) (tk : Takes X Wx) {f : Nat} {x : Str} {es : List Expr} {p : Pos} {ms : Env → Sto → R (List D)} (hf : sc.fns.lookup f = some x) (hg : glB sc x = true) (ho : odd x = false) (hs : ∀ e ∈ a :: es, nostar e = true) (hp : PA X (a :: es) (rdDs κ Wx ms)) :
    PE X (.Call (.Name x p) (a :: es) [] pos) (rdC κ Wx fun ρ S => (ms ρ S).bind fun ds S1 => Φ f ds S1) := by
  obtain ⟨fa, fd, ps, k, hm, hk, hb, F, hr⟩ := (ok.fns f x hf).ex
  have hr := hr.mono (Nat.le_add_right k 2)
  refine PE.imp (pe_callS F hr (ok.gl hg) hm hk hb (fun σ => passAt tk σ) hp (odd_db ho) (star_cons (hs a List.mem_cons_self)) (star_back fun e he => hs e (List.mem_cons_of_mem _ he))) fun σ H Q ⟨as, H0, ρ, S, rs, hS, w⟩ => ?_
  exact rdDs.mk rs hS w.of_bind fun ds S1 as1 H1 vs w1 st1 r1 hS1 => ⟨as1, ds, S1, r1, hS1, w1.imp (fun _ _ z => kR.on st1 z) fun _ _ z => kX.on st1 z⟩
theorem pd_call0 (ok : CxOk X sc κ Φ) (tk : Takes X Wx) {f : Nat} {x : Str} {p : Pos} (hf : sc.fns.lookup f = some x) (hg : glB sc x = true) (ho : odd x = false) :
    PE X (.Call (.Name x p) [] [] pos) (rdC κ Wx fun _ S => Φ f [] S) := by
  obtain ⟨fa, fd, ps, k, hm, hk, hb, F, hr⟩ := (ok.fns f x hf).ex
  have hr := hr.mono (Nat.le_add_right k 2)
  refine ⟨fun pins s σ H Q I ⟨as, H0, ρ, S, rs, hS, w⟩ => ?_⟩
  refine wpAny_Call_Name_kw (ld_glob I (ok.gl hg) hm ?_ (odd_db ho))
  exact PySem.W.callWith_K0 I.kIn hk (run_fnS (us := []) (E := WE Wx) F hr hb (passAt tk σ) I .nil ⟨as, [], S, True.intro, hS, w⟩)
theorem pd_ofC {e : Expr} {m : MW} (h : PE X e (rdC κ Wx m)) : PE X e (rdW κ Wx fun ρ S => (m ρ S).d.w) :=
  PE.imp h fun σ H Q ⟨as, H0, ρ, S, rs, hS, w⟩ => ⟨as, H0, ρ, S, rs, hS, w.of_w.of_d.imp (fun w S ⟨d, e, z⟩ => by subst e; exact z) fun _ _ z => z⟩
theorem pn_ofC {e : Expr} {m : MW} (h : PE X e (rdC κ Wx m)) : PE X e (rdN κ Wx fun ρ S => (m ρ S).bind wC) :=
  PE.imp h fun σ H Q ⟨as, H0, ρ, S, rs, hS, w⟩ => ⟨as, H0, ρ, S, rs, hS, w.of_bind.imp (fun w S z => by
    cases w with
    | d x => exact z.elim
    | own c => exact z) fun _ _ z => z⟩
/-! truth -/
theorem tru_of (ok : CxOk X sc κ Φ) {as : List Addr} {H : Hp} {S : Sto} {d : D} {v : V} {b : Bool} (w : IsV κ as H d v) (h : truD S d = .ok b S) : TruV X.K v H b := by
  cases d with
  | non => cases w; injection h with h _; subst h; exact rfl
  | bl x => cases w; injection h with h _; subst h; exact rfl
  | int x => cases w; injection h with h _; subst h; exact rfl
  | str x =>
    cases w.1
    injection h with h _
    subst h
    refine ⟨by rw [tx_len]; exact szOk_of w.2, ?_⟩
    rw [tx_len]
    cases x with
    | nil => rfl
    | cons c r =>
      have : (((c :: r).length : Nat) : Int) ≠ 0 := by simp only [List.length_cons]; omega
      simp [this]
      omega
  | tup xs =>
    obtain ⟨a, vs, rfl, hH, hd⟩ := w
    rw [ok.hκ] at hH
    injection h with h _
    subst h
    refine .inr (.inl ⟨vs, hH.sq, ?_⟩)
    have := hd.length
    cases xs <;> cases vs <;> simp_all
  | lst xs =>
    obtain ⟨a, vs, rfl, hH, hd⟩ := w
    injection h with h _
    subst h
    refine .inl ⟨vs, .inl hH, ?_⟩
    have := hd.length
    cases xs <;> cases vs <;> simp_all
  | _ => cases h
/-- a test by its value's truth -/
theorem pt_of (ok : CxOk X sc κ Φ) (he : PE X a (rdW κ Wx ma)) (ht : ∀ whole, isTrue a X.env whole = (do let v ← whole; standAt a.pos; holding [v] (truthy v))) : PT X a (rdT κ Wx fun ρ S => (ma ρ S).t) := by
  refine PT.imp (pt_truth he ht) fun σ H Q ⟨as, H0, ρ, S, rs, hS, w⟩ => ?_
  refine rdW.mk rs hS w.of_t fun x S1 as1 H1 v w1 st1 r1 hS1 => ?_
  obtain ⟨b, e, k⟩ := truD_S w1
  exact ⟨b, tru_of ok (r1.vw hS1) e, k as1 H1 st1 hS1⟩
theorem pt_not (ha : PT X a (rdT κ Wx fun ρ S => (ma ρ S).t)) : PT X (.UnaryOp .Not a pos) (rdT κ Wx fun ρ S => ((ma ρ S).t.bind fun b S1 => .ok (.d (.bl !b)) S1).t) := by
  refine PT.imp (L2.pt_not ha) fun σ H Q ⟨as, H0, ρ, S, rs, hS, w⟩ => ?_
  exact rdT.mk rs hS w.of_t.of_bind fun b S1 as1 H1 w1 st1 hS1 => w1 as1 H1 st1 hS1
theorem pd_not (ok : CxOk X sc κ Φ) (ha : PE X a (rdW κ Wx ma)) : PE X (.UnaryOp .Not a pos) (rdW κ Wx fun ρ S => (ma ρ S).t.bind fun b S1 => .ok (.d (.bl !b)) S1) := by
  refine PE.imp (pe_notT ha) fun σ H Q ⟨as, H0, ρ, S, rs, hS, w⟩ => ?_
  refine rdW.mk rs hS w.of_bind.of_t fun x S1 as1 H1 v w1 st1 r1 hS1 => ?_
  obtain ⟨b, e, k⟩ := truD_S w1
  exact ⟨b, tru_of ok (r1.vw hS1) e, kW.here (w := .d (.bl !b)) (kW.on st1 k) rfl hS1⟩
theorem pd_ife (hc : PT X c (rdT κ Wx fun ρ S => (mc ρ S).t)) (ha : PE X a (rdW κ Wx ma)) (hb : PE X b (rdW κ Wx mb)) : PE X (.IfExp c a b pos) (rdW κ Wx fun ρ S => (mc ρ S).t.bind fun r S1 => if r = true then (ma ρ S1).d.w else (mb ρ S1).d.w) := by
  refine PE.imp (pe_ifExp hc ha hb) fun σ H Q ⟨as, H0, ρ, S, rs, hS, w⟩ => ?_
  have low : ∀ {m : MW} {as1 : List Addr} {H1 : Hp} {S1 : Sto}, RelS κ as1 H0 H1 σ ρ → RepS κ as1 H1 S1 → Out (m ρ S1).d.w (kW κ as1 H1 Q) (kX κ as1 H1 σ Wx) → rdW κ Wx m σ H1 Q := fun rs hS w =>
    ⟨_, H0, ρ, _, rs, hS, w.of_w.of_d.imp (fun w S ⟨d, e, z⟩ => by subst e; exact z) fun _ _ z => z⟩
  refine rdT.mk rs hS w.of_bind fun r S1 as1 H1 w1 st1 hS1 => ?_
  cases r with
  | true => rw [if_pos rfl] at w1 ⊢; exact low (rs.step st1) hS1 (w1.onW st1)
  | false => rw [if_neg Bool.false_ne_true] at w1 ⊢; exact low (rs.step st1) hS1 (w1.onW st1)
/-! and, or -/
def bopO (isAnd : Bool) : BoolOp := if isAnd then .And else .Or
def tsB (isAnd : Bool) : List MW → Env → Sto → R Bool
  | [], _, _ => .bad
  | m :: ms, ρ, S => match ms with
    | [] => (m ρ S).t
    | _ :: _ => (m ρ S).t.bind fun b S1 => if b = isAnd then tsB isAnd ms ρ S1 else .ok b S1
def vsB (isAnd : Bool) : List MW → Env → Sto → R W
  | [], _, _ => .bad
  | m :: ms, ρ, S => match ms with
    | [] => (m ρ S).d.w
    | _ :: _ => (m ρ S).d.bind fun x S1 => (truD S1 (vw S1 x)).bind fun b S2 => if b = isAnd then vsB isAnd ms ρ S2 else .ok (.d x) S2
theorem ts_of_vs {isAnd : Bool} {k : Bool → Sto → Prop} {ke : D → Sto → Prop} : ∀ {ms : List MW} {ρ : Env} {S : Sto}, Out (vsB isAnd ms ρ S).t k ke → Out (tsB isAnd ms ρ S) k ke
  | [], ρ, S, h => h
  | [m], ρ, S, h => by
    have h2 := h.of_t.of_w.of_d
    exact Out.to_t (h2.imp (fun w S ⟨d, e, z⟩ => by subst e; exact z) fun _ _ z => z)
  | m :: m2 :: ms, ρ, S, h => by
    have h2 := h.of_t.of_bind.of_d
    refine Out.to_bind (Out.to_t (h2.imp (fun w S1 ⟨d, e, z⟩ => ?_) fun _ _ z => z))
    subst e
    obtain ⟨b, e2, k2⟩ := truD_S z.of_bind
    show Out (truD S1 (vw S1 d)) _ ke
    rw [e2]
    show Out (if b = isAnd then tsB isAnd (m2 :: ms) ρ S1 else .ok b S1) k ke
    by_cases q : b = isAnd
    · rw [if_pos q] at k2 ⊢
      refine ts_of_vs (ms := m2 :: ms) ?_
      cases r : vsB isAnd (m2 :: ms) ρ S1 with
      | ok w S2 => rw [r] at k2; exact k2
      | exc e S2 => rw [r] at k2; exact k2
      | bad => rw [r] at k2; exact k2.elim
    · rw [if_neg q] at k2 ⊢
      have k3 : Out (truD S1 (vw S1 d)) k ke := k2
      rw [e2] at k3
      exact k3
theorem pw_one {isAnd : Bool} (ha : PT X a (rdT κ Wx fun ρ S => (ma ρ S).t)) : PW X (.BoolOp (bopO isAnd) [a] pos) (rdT κ Wx (tsB isAnd [ma])) := by
  cases isAnd with
  | true => exact PW.imp (pw_and1 ha) fun _ _ _ z => z
  | false => exact PW.imp (pw_or1 ha) fun _ _ _ z => z
theorem pw_more {isAnd : Bool} {m2 : MW} {ms : List MW} {as : List Expr} (ha : PT X a (rdT κ Wx fun ρ S => (ma ρ S).t)) (hr : PW X (.BoolOp (bopO isAnd) (b :: as) pos) (rdT κ Wx (tsB isAnd (m2 :: ms)))) :
    PW X (.BoolOp (bopO isAnd) (a :: b :: as) pos) (rdT κ Wx (tsB isAnd (ma :: m2 :: ms))) := by
  have key : ∀ σ H Q, rdT κ Wx (tsB isAnd (ma :: m2 :: ms)) σ H Q → rdT κ Wx (fun ρ S => (ma ρ S).t) σ H fun r H1 => if r = isAnd then rdT κ Wx (tsB isAnd (m2 :: ms)) σ H1 Q else Q r H1 := fun σ H Q ⟨as, H0, ρ, S, rs, hS, w⟩ => by
    refine rdT.mk rs hS (Out.of_bind w) fun r S1 as1 H1 w1 st1 hS1 => ?_
    by_cases z : r = isAnd
    · rw [if_pos z] at w1 ⊢
      exact ⟨as1, H0, ρ, S1, rs.step st1, hS1, w1.onT st1⟩
    · rw [if_neg z] at w1 ⊢
      exact w1 as1 H1 st1 hS1
  cases isAnd with
  | true =>
    refine PW.imp (pw_and ha hr) fun σ H Q q => ?_
    obtain ⟨as, H0, ρ, S, rs, hS, w⟩ := key σ H Q q
    refine ⟨as, H0, ρ, S, rs, hS, w.imp (fun r S1 k as1 H1 st1 hS1 => ?_) fun _ _ z => z⟩
    have := k as1 H1 st1 hS1
    cases r with
    | true => exact this
    | false => exact this
  | false =>
    refine PW.imp (pw_or ha hr) fun σ H Q q => ?_
    obtain ⟨as, H0, ρ, S, rs, hS, w⟩ := key σ H Q q
    refine ⟨as, H0, ρ, S, rs, hS, w.imp (fun r S1 k as1 H1 st1 hS1 => ?_) fun _ _ z => z⟩
    have := k as1 H1 st1 hS1
    cases r with
    | true => exact this
    | false => exact this
theorem pb_one {isAnd : Bool} (ha : PE X a (rdW κ Wx ma)) : PE X (.BoolOp (bopO isAnd) [a] pos) (rdW κ Wx (vsB isAnd [ma])) :=
  PE.imp (pe_one ha) fun σ H Q ⟨as, H0, ρ, S, rs, hS, w⟩ => ⟨as, H0, ρ, S, rs, hS, (Out.of_w w).of_d.imp (fun w S ⟨d, e, z⟩ => by subst e; exact z) fun _ _ z => z⟩
theorem pb_more (ok : CxOk X sc κ Φ) {isAnd : Bool} {m2 : MW} {ms : List MW} {as : List Expr} (ha : PE X a (rdW κ Wx ma)) (hr : PE X (.BoolOp (bopO isAnd) (b :: as) pos) (rdW κ Wx (vsB isAnd (m2 :: ms)))) :
    PE X (.BoolOp (bopO isAnd) (a :: b :: as) pos) (rdW κ Wx (vsB isAnd (ma :: m2 :: ms))) := by
  have key : ∀ σ H Q, rdW κ Wx (vsB isAnd (ma :: m2 :: ms)) σ H Q → rdW κ Wx ma σ H fun x H1 => ∃ r, TruV X.K x H1 r ∧ if r = isAnd then rdW κ Wx (vsB isAnd (m2 :: ms)) σ H1 Q else Q x H1 := fun σ H Q ⟨as, H0, ρ, S, rs, hS, w⟩ => by
    refine rdW.mk rs hS (Out.of_bind w).of_d fun x S1 as1 H1 v w1 st1 r1 hS1 => ?_
    obtain ⟨d, rfl, w1⟩ := w1
    obtain ⟨r, e, w2⟩ := truD_S w1.of_bind
    refine ⟨r, tru_of ok (IsD.vw hS1 r1) e, ?_⟩
    by_cases z : r = isAnd
    · rw [if_pos z] at w2 ⊢
      exact ⟨as1, H0, ρ, S1, rs.step st1, hS1, w2.onW st1⟩
    · rw [if_neg z] at w2 ⊢
      exact kW.here (w := .d d) (kW.on st1 w2) r1 hS1
  cases isAnd with
  | true =>
    refine PE.imp (pe_andT ha hr) fun σ H Q q => ?_
    obtain ⟨as, H0, ρ, S, rs, hS, w⟩ := key σ H Q q
    refine ⟨as, H0, ρ, S, rs, hS, w.imp (fun w S1 k as1 H1 v st1 r1 hS1 => ?_) fun _ _ z => z⟩
    obtain ⟨r, t, z⟩ := k as1 H1 v st1 r1 hS1
    refine ⟨r, t, ?_⟩
    cases r with
    | true => exact z
    | false => exact z
  | false =>
    refine PE.imp (pe_orT ha hr) fun σ H Q q => ?_
    obtain ⟨as, H0, ρ, S, rs, hS, w⟩ := key σ H Q q
    refine ⟨as, H0, ρ, S, rs, hS, w.imp (fun w S1 k as1 H1 v st1 r1 hS1 => ?_) fun _ _ z => z⟩
    obtain ⟨r, t, z⟩ := k as1 H1 v st1 r1 hS1
    refine ⟨r, t, ?_⟩
    cases r with
    | true => exact z
    | false => exact z
end
end Ev
set_option maxHeartbeats 4000000
/-! Ev, part 9b: classes: attributes, methods, new things. -/
namespace Ev
open PySem PySem.Spec PyProof.Rows L2
section
variable {X : Cx} {pins : List (Addr × Obj)} {σ : L2.St} {H : Hp} {s : Shared} {a C dx : Addr} {fs : List (Str × V)} {f : Str} {v : V} {A : Around} {E : Value → Shared → Prop}
theorem ins_rd (I : Inv X pins σ H s) (e : Rd H a (.ins C dx fs)) : ∃ mA, ObjM s.heap a dx C mA ∧ ∀ f, RelO (fs.lookup f) (mA f) := by
  obtain ⟨d, z, ne, ob, mA, n, r, q⟩ := (show ObjOk X.prog X.w H s.heap a (.ins C dx fs) from e.ok I.hok)
  exact ⟨mA, ⟨ob, n, ne⟩, r⟩
theorem getattr_rd {b : Bool} {Q : Value → Shared → Prop} (I : Inv X pins σ H s) (e : Rd H a (.ins C dx fs)) (c : Cls X.K C) (n : NoAttr X.K C f) (l : fs.lookup f = some v)
    (h : ∀ u s', Inv X pins σ H s' → RelV v u → Q u s') : wpAny (model X.prog X.w) A (getAttr (.ref a) f b) Q E s := by
  obtain ⟨mA, O, r⟩ := ins_rd I e
  obtain ⟨u, hu, ru⟩ := RelO.some_of (v := v) (o := mA f) (by rw [← l]; exact r f)
  exact get_map I.kIn O (c.get f) c.hd n hu (handed_of ru) (h u _ (I.tok _) ru)
theorem getmeth_rd {m : Str} {g : Addr} {pl : Sem Bool} {Q : Value × List Value → Shared → Prop} (I : Inv X pins σ H s) (e : Rd H a (.ins C dx fs)) (c : Cls X.K C) (k : Meth X.K C m g) (l : fs.lookup m = none)
    (h : Q (.ref g, [.ref a]) s) : wpAny (model X.prog X.w) A (getMethod (.ref a) m pl) Q E s := by
  obtain ⟨mA, O, r⟩ := ins_rd I e
  have hn : mA m = none := RelO.none_of (by rw [← l]; exact r m)
  exact get_meth I.kIn O (c.get m) k.at_ k.fn hn h
end
/-- o.m(..) by its method -/
theorem call_form {M : Model} {A : Around} {env : PySem.Env} {o : Expr} {name : Str} {apos pos : Pos} {args : List Expr} {Q : Value → Shared → Prop} {E : Value → Shared → Prop} {s : Shared}
    (hbase : attributeBase o name env (eval o env) = eval o env)
    (hfew : ((backTo pos (starEach args env)).all (fun x => !x.1) && (backToKw pos (keywordEach [] env)).all (fun x => x.1.isSome) && decide (args.length + ([] : List Keyword).length + (if ([] : List Keyword).isEmpty then 0 else 1) < 30)) = true)
    (hline : (apos.endLine == pos.line) = true)
    (h : wpAny M A (eval o env) (fun ov s1 => ∀ pl, wpAny M A (getMethod ov name pl) (fun fx s2 => wpAny M A (callWith pos fx.1 fx.2 (backTo pos (starEach args env)) []) Q E s2) E s1) E s) :
    wpAny M A (eval (.Call (.Attribute o name apos) args [] pos) env) Q E s := by
  rw [arm_eval_Call, hbase]
  refine wpAny_bind (wpAny_mono h (fun ov s1 h1 => wpAny_bind (wpAny_standAt ?_)) fun _ _ e => e)
  have hform : methodCallForm (args.length + ([] : List Keyword).length) (backTo pos (starEach args env)) (backToKw pos (keywordEach [] env)) = true := hfew
  have hpos : methodCallPos true o env apos pos = pure pos := by unfold methodCallPos; simp [hline]
  unfold methodCall
  rw [hform]
  refine wpAny_bind (wpAny_holding (wpAny_mono (h1 _) (fun fx s2 h2 => ?_) fun _ _ e => e))
  exact wpAny_bind (wpAny_of_eq hpos h2)
/-- in the layer's words -/
theorem pe_fldR {X : Cx} {e : Expr} {f : Str} {pos : Pos} {ta : TE} (he : PE X e ta) (hb : attributeBase e f X.env (eval e X.env) = eval e X.env) :
    PE X (.Attribute e f pos) (fun σ H Q => ta σ H fun x H1 => ∃ a C dx fs v, x = .ref a ∧ Rd H1 a (.ins C dx fs) ∧ Cls X.K C ∧ NoAttr X.K C f ∧ fs.lookup f = some v ∧ Q v H1) := by
  refine ⟨fun pins s σ H Q I h => attr_of hb (thn (he.run pins s σ H _ I h) fun u s1 ⟨x, H1, I1, rx, a, C, dx, fs, v, ex, ea, c, n, l, q⟩ => ?_)⟩
  subst ex
  cases rx
  exact getattr_rd I1 ea c n l fun u' s2 I2 ru => ⟨v, H1, I2, ru, q⟩
theorem IsFs.look {κ : Kx} {as : List Addr} {H : Hp} {f : String} {d : D} : ∀ {fs : List (String × D)} {fvs : List (Str × V)}, IsFs κ as H fs fvs → lookF fs f = some d → ∃ v, fvs.lookup (Str.ofString f) = some v ∧ IsD κ as H d v
  | [], _, _, e => by cases e
  | (g, x) :: r, fvs, h, e => by
    rw [lookF] at e
    split at e
    · rename_i q
      cases e
      rw [← q]; exact h.1
    · exact IsFs.look h.2 e
section
variable {X : Cx} {sc : SC} {κ : Kx} {Φ : Fn} {Wx : L2.WX} {a b : Expr} {ma mb : MW} {pos : Pos}
/-- are these classes known to have this attribute -/
def attB (sc : SC) (f : String) (cs : List String) : Bool := cs.all fun c => sc.ci.any fun i => i.c == c && i.fs.contains f
theorem attB_ok (ok : CxOk X sc κ Φ) {f c : String} {cs : List String} (h : attB sc f cs = true) (hc : cs.contains c = true) : Cls X.K (He.ga X.K (Str.ofString c)) ∧ NoAttr X.K (He.ga X.K (Str.ofString c)) (Str.ofString f) := by
  obtain ⟨i, hi, e⟩ := List.any_eq_true.mp (List.all_eq_true.mp h c (List.contains_iff_mem.mp hc))
  obtain ⟨e1, e2⟩ := Bool.and_eq_true_iff.mp e
  have e1 : i.c = c := eq_of_beq e1
  have z := ok.ci i hi
  rw [← e1]
  exact ⟨z.cls, z.noat f (List.contains_iff_mem.mp e2)⟩
theorem pd_att (ok : CxOk X sc κ Φ) {f : String} {cs : List String} (hc : attB sc f cs = true) (hbase : attributeBase a (Str.ofString f) X.env (eval a X.env) = eval a X.env) (ha : PE X a (rdW κ Wx ma)) :
    PE X (.Attribute a (Str.ofString f) pos) (rdW κ Wx fun ρ S => (ma ρ S).bind fun x S1 => (attD cs f (x.vw S1) S1).w) := by
  refine PE.imp (pe_fldR ha hbase) fun σ H Q ⟨as, H0, ρ, S, rs, hS, w⟩ => ?_
  refine rdW.mk rs hS w.of_bind fun x S1 as1 H1 v w1 st1 r1 hS1 => ?_
  have rv := r1.vw hS1
  have w2 := w1.of_w
  cases q : x.vw S1 with
  | obj c fs =>
    rw [q] at rv w2
    obtain ⟨z, w3⟩ := w2.of_chk
    obtain ⟨d, e, w4⟩ := w3.of_of
    obtain ⟨p, dx, fvs, rfl, rd, _, hf⟩ := rv
    obtain ⟨u, e1, e2⟩ := hf.look e
    obtain ⟨k1, k2⟩ := attB_ok ok hc z
    rw [ok.hκ] at rd
    exact ⟨p, _, dx, fvs, u, rfl, rd, k1, k2, e1, kW.here (w := .d d) (kW.on st1 w4) e2 hS1⟩
  | _ => rw [q] at w2; exact w2.elim
/-- o.m(..): the thing's method -/
theorem few_ok {X : Cx} {es : List Expr} {pos : Pos} (hl : es.length < 29) (sb : (backTo pos (starEach es X.env)).any (·.1) = false) : ((backTo pos (starEach es X.env)).all (fun x => !x.1) && (backToKw pos (keywordEach [] X.env)).all (fun x => x.1.isSome) && decide (es.length + ([] : List Keyword).length + (if ([] : List Keyword).isEmpty then 0 else 1) < 30)) = true := by
  have e1 : (backTo pos (starEach es X.env)).all (fun x => !x.1) = true := by
    rw [List.all_eq_true]
    intro x hx
    have := List.any_eq_false.mp sb x hx
    simpa using this
  have e2 : (backToKw pos (keywordEach [] X.env)).all (fun x => x.1.isSome) = true := rfl
  rw [e1, e2]
  show (true && true && decide (es.length + 0 + 0 < 30)) = true
  rw [decide_eq_true (by omega)]
  rfl
/-- ahead of the arguments -/
theorem meth_at (ok : CxOk X sc κ Φ) {i : CI} {m : String} {es : List Expr} {apos : Pos} {g : Addr} {k1 : Env → D → Sto → R W} {as : List Addr} {H0 H : Hp} {ρ : Env} {S : Sto} {σ : L2.St} {pins : List (Addr × Obj)} {s : Shared} {Q : VK}
    (me : Meth X.K (He.ga X.K (Str.ofString i.c)) (Str.ofString m) g) (cl : Cls X.K (He.ga X.K (Str.ofString i.c)))
    (hbase : attributeBase a (Str.ofString m) X.env (eval a X.env) = eval a X.env) (hfew : es.length < 29) (hline : (apos.endLine == pos.line) = true) (hs : ∀ e ∈ es, nostar e = true) (ha : PE X a (rdW κ Wx ma))
    (I : Inv X pins σ H s) (rs : RelS κ as H0 H σ ρ) (hS : RepS κ as H S) (w : Out ((ma ρ S).d.bind fun x S1 => R.chk (isO i.c m (vw S1 x)) (k1 ρ x S1)) (kW κ as H Q) (kX κ as H σ Wx))
    (go : ∀ p s1 H1 as1 d S1, Inv X pins σ H1 s1 → Step as H as1 H1 → IsD κ as1 H1 d (.ref p) → RepS κ as1 H1 S1 → Out (k1 ρ d S1) (kW κ as1 H1 Q) (kX κ as1 H1 σ Wx) → wpAny (model X.prog X.w) X.A (callWith pos (.ref g) [.ref p] (backTo pos (starEach es X.env)) []) (EP X pins σ Q) X.xe s1) :
    wpAny (model X.prog X.w) X.A (eval (.Call (.Attribute a (Str.ofString m) apos) es [] pos) X.env) (EP X pins σ Q) X.xe s := by
  refine call_form hbase (few_ok hfew (star_back hs)) hline ?_
  have key : rdW κ Wx ma σ H fun v H1 => ∃ p, v = .ref p ∧ (∃ dx fvs, Rd H1 p (.ins (He.ga X.K (Str.ofString i.c)) dx fvs) ∧ fvs.lookup (Str.ofString m) = none) ∧ ∃ as1 d S1, Step as H as1 H1 ∧ IsD κ as1 H1 d (.ref p) ∧ RepS κ as1 H1 S1 ∧ Out (k1 ρ d S1) (kW κ as1 H1 Q) (kX κ as1 H1 σ Wx) := by
    refine rdW.mk rs hS w.of_bind.of_d fun x S1 as1 H1 v w1 st1 r1 hS1 => ?_
    obtain ⟨d, rfl, w1⟩ := w1
    obtain ⟨z, w2⟩ := w1.of_chk
    have r2 := IsD.vw hS1 r1
    cases q : vw S1 d with
    | obj c fs =>
      rw [q] at r2 z
      obtain ⟨z1, z2⟩ := Bool.and_eq_true_iff.mp (show ((c == i.c) && (lookF fs m).isNone) = true from z)
      have z1 : c = i.c := eq_of_beq z1
      subst z1
      obtain ⟨p, dx, fvs, rfl, rd, only, _⟩ := r2
      rw [ok.hκ] at rd
      exact ⟨p, rfl, ⟨dx, fvs, rd, only m (by simpa using z2)⟩, as1, d, S1, st1, r1, hS1, w2.onW st1⟩
    | _ => rw [q] at z; cases z
  refine thn (ha.run pins s σ H _ I key) fun u s1 ⟨v, H1, I1, rv, p, ev, ⟨dx, fvs, rd, l⟩, as1, d, S1, st1, r1, hS1, w1⟩ pl => ?_
  subst ev
  cases rv
  exact getmeth_rd I1 rd cl me l (go p s1 H1 as1 d S1 I1 st1 r1 hS1 w1)
theorem pd_meth (ok : CxOk X sc κ Φ) (tk : Takes X Wx) {i : CI} {m : String} {j : Nat} {e : Expr} {es : List Expr} {apos : Pos} {ms : Env → Sto → R (List D)} (hi : i ∈ sc.ci) (hm : (m, j) ∈ i.ms)
    (hbase : attributeBase a (Str.ofString m) X.env (eval a X.env) = eval a X.env) (hfew : (e :: es).length < 29) (hline : (apos.endLine == pos.line) = true) (hs : ∀ x ∈ e :: es, nostar x = true) (ha : PE X a (rdW κ Wx ma)) (hp : PA X (e :: es) (rdDs κ Wx ms)) :
    PE X (.Call (.Attribute a (Str.ofString m) apos) (e :: es) [] pos) (rdW κ Wx fun ρ S => (ma ρ S).d.bind fun x S1 => R.chk (isO i.c m (vw S1 x)) ((ms ρ S1).bind fun ds S2 => (Φ j (x :: ds) S2).d.w)) := by
  obtain ⟨fd, ps, k, me, hb, F, hr⟩ := (ok.ci i hi).meth m j hm
  have hr := hr.mono (Nat.le_add_right k 2)
  refine ⟨fun pins s σ H Q I ⟨as, H0, ρ, S, rs, hS, w⟩ => ?_⟩
  refine meth_at ok (k1 := fun ρ x S1 => (ms ρ S1).bind fun ds S2 => (Φ j (x :: ds) S2).d.w) me (ok.ci i hi).cls hbase hfew hline hs ha I rs hS w fun p s1 H1 as1 d S1 I1 st1 r1 hS1 w1 => ?_
  have key : rdDs κ Wx ms σ H1 fun vs H2 => ∃ as2 ds S2, Step as1 H1 as2 H2 ∧ IsDs κ as2 H2 ds vs ∧ RepS κ as2 H2 S2 ∧ Out ((Φ j (d :: ds) S2).d.w) (kW κ as2 H2 Q) (kX κ as2 H2 σ Wx) :=
    rdDs.mk (rs.step st1) hS1 w1.of_bind fun ds S2 as2 H2 vs w4 st2 r2 hS2 => ⟨as2, ds, S2, st2, r2, hS2, w4.onW st2⟩
  refine PySem.W.callWith_K (first := [.ref p]) (h₀ := X.base) I1.ok.mod.kin me.kp (thn (hp.run pos pins s1 σ H1 _ I1 key) fun us s2 ⟨vs, H2, I2, r, as2, ds, S2, st2, rd2, hS2, w4⟩ => ⟨I2.kIn, ?_⟩) (star_cons (hs e List.mem_cons_self)) (star_back fun e' he => hs e' (List.mem_cons_of_mem _ he))
  exact run_fnS (us := .ref p :: us) (vs := .ref p :: vs) (E := WE Wx) F hr hb (passAt tk σ) I2 (.cons rfl r) ⟨as2, d :: ds, S2, ⟨IsD.step st2 r1, rd2⟩, hS2, w4.of_w.of_d.imp (fun w S ⟨d, e, z⟩ => by subst e; exact z) fun _ _ z => z⟩
theorem pd_meth0 (ok : CxOk X sc κ Φ) (tk : Takes X Wx) {i : CI} {m : String} {j : Nat} {apos : Pos} (hi : i ∈ sc.ci) (hm : (m, j) ∈ i.ms)
    (hbase : attributeBase a (Str.ofString m) X.env (eval a X.env) = eval a X.env) (hline : (apos.endLine == pos.line) = true) (ha : PE X a (rdW κ Wx ma)) :
    PE X (.Call (.Attribute a (Str.ofString m) apos) [] [] pos) (rdW κ Wx fun ρ S => (ma ρ S).d.bind fun x S1 => R.chk (isO i.c m (vw S1 x)) ((R.ok (α := List D) [] S1).bind fun ds S2 => (Φ j (x :: ds) S2).d.w)) := by
  obtain ⟨fd, ps, k, me, hb, F, hr⟩ := (ok.ci i hi).meth m j hm
  have hr := hr.mono (Nat.le_add_right k 2)
  refine ⟨fun pins s σ H Q I ⟨as, H0, ρ, S, rs, hS, w⟩ => ?_⟩
  refine meth_at ok (k1 := fun ρ x S1 => (R.ok (α := List D) [] S1).bind fun ds S2 => (Φ j (x :: ds) S2).d.w) me (ok.ci i hi).cls hbase (by show 0 < 29; decide) hline (fun e he => by cases he) ha I rs hS w fun p s1 H1 as1 d S1 I1 st1 r1 hS1 w1 => ?_
  have w1 : Out ((Φ j [d] S1).d.w) (kW κ as1 H1 Q) (kX κ as1 H1 σ Wx) := w1
  exact PySem.W.callWith_K0 (first := [.ref p]) I1.kIn me.kp (run_fnS (us := [.ref p]) (vs := [.ref p]) (E := WE Wx) F hr hb (passAt tk σ) I1 (.cons rfl .nil) ⟨as1, [d], S1, ⟨r1, True.intro⟩, hS1, w1.of_w.of_d.imp (fun w S ⟨d, e, z⟩ => by subst e; exact z) fun _ _ z => z⟩)
/-! a new thing -/
theorem mkR_out {c : String} {g : Nat → R W} {k : Cell → Sto → Prop} {ke : D → Sto → Prop} (h : Out (mkR c g) k ke) : (∃ fs S', (∀ x, g x = .ok (.own (.obj (some x) c fs)) S') ∧ k (.obj none c fs) S') ∨ ∃ e S', (∀ x, g x = .exc e S') ∧ ke e S' := by
  unfold mkR at h
  split at h
  · rename_i q
    exact .inl ⟨_, _, Classical.choose_spec q, h⟩
  · split at h
    · rename_i q
      exact .inr ⟨_, _, Classical.choose_spec q, h⟩
    · exact h.elim
theorem spI_of {c : String} {g : List D → Sto → R W} {as : List Addr} {H : Hp} {ds : List D} {vs : List V} {S : Sto} {σ : L2.St} {Q : VK} (rd : IsDs κ as H ds vs) (hS : RepS κ as H S) (w : Out (mkR c fun x => g (.int x :: ds) S) (kN κ as H Q) (kX κ as H σ Wx)) :
    ∀ x dx, H x = none → H dx = none → dx ≠ x → spI κ c g (.ref x :: vs) (upd (upd H dx (.own x)) x (.ins (He.ga κ.K (Str.ofString c)) dx [])) (fun v H2 => v = .non ∧ Q (.ref x) H2) (WE Wx σ) := by
  intro x dx hx hdx ne
  refine ⟨x, dx, vs, H, as, ds, S, rfl, hx, hdx, ne, rfl, rd, hS, ?_⟩
  rcases mkR_out w with ⟨fs, S', e, k⟩ | ⟨e, S', e1, k⟩
  · rw [e x]
    exact ⟨fs, rfl, fun as' H' st nx rc hS' => ⟨rfl, k as' H' x st hx nx rc hS'⟩⟩
  · rw [e1 x]
    exact fun as' H' cls dd st hX hS' => k as' H' cls dd st hX hS'
theorem run_makeS {CX : CXT} {k : Nat} {f C : Addr} {fd : FuncData} {ps : List Str} {sp : Sp} {E : XK} {pins : List (Addr × Obj)} {σ : L2.St} {H : Hp} {s : Shared} {Q : VK} {us : List Value} {vs : List V} (M : Mk X.K C f) (F : FnOk X.prog X.w X.K X.mg X.base CX k f fd ps sp) (hr : Room (k + 1) X.A) (hb : Binds X.K fd ps [])
    (hx : PassesAt CX X σ E) (I : Inv X pins σ H s) (r : Vals vs us)
    (h : ∀ x dx, H x = none → H dx = none → dx ≠ x → sp (.ref x :: vs) (upd (upd H dx (.own x)) x (.ins C dx [])) (fun v H2 => v = .non ∧ Q (.ref x) H2) E) :
    wpAny (model X.prog X.w) X.A (PySem.call (.ref C) us) (EP X pins σ Q) X.xe s := by
  have hq := h (s.heap.objs.size + 1) s.heap.objs.size (I.hok.fresh (Nat.le_succ _)) (I.hok.fresh (Nat.le_refl _)) (Nat.ne_of_lt (Nat.lt_succ_self _))
  have I2 := Inv.made (C := C) I
  have r2 : Vals (V.ref (s.heap.objs.size + 1) :: vs) (Value.ref (s.heap.objs.size + 1) :: us) := .cons rfl r
  have hl : (Value.ref (s.heap.objs.size + 1) :: us).length = ps.length := by rw [← F.len _ _ _ _ hq, ← r2.length]
  have bb := hb _ (Value.ref (s.heap.objs.size + 1) :: us) I2.kIn (by rw [List.append_nil]; exact hl)
  rw [List.append_nil] at bb
  refine wpAny_call (make_map (f := f) I.kIn M.makes M.init (beq_iff_eq.mp M.fn) (codeAny_mono (F.run _ X.stack _ _ ⟨Value.ref (s.heap.objs.size + 1) :: us, []⟩ (Value.ref (s.heap.objs.size + 1) :: us) _ _ E (hr.make C us []) (I2.env0.make C us []) bb r2 hq) fun r s' z => ?_))
  cases r with
  | error e => exact hx pins _ _ e s' I2 z
  | ok fl =>
    cases fl with
    | ret u =>
      obtain ⟨v, H', I3, rv, ev, q3⟩ := I2.after z
      subst ev
      exact ⟨rv, ⟨V.ref (s.heap.objs.size + 1), H', I3, rfl, q3⟩⟩
    | next => exact False.elim z
    | brk => exact False.elim z
    | cont => exact False.elim z
theorem pn_make (ok : CxOk X sc κ Φ) (tk : Takes X Wx) {i : CI} {j : Nat} {es : List Expr} {p : Pos} {ms : Env → Sto → R (List D)} (hi : i ∈ sc.ci) (hj : i.ini = some j) (hg : glB sc (Str.ofString i.c) = true) (ho : odd (Str.ofString i.c) = false) (hs : ∀ e ∈ a :: es, nostar e = true) (hp : PA X (a :: es) (rdDs κ Wx ms)) :
    PE X (.Call (.Name (Str.ofString i.c) p) (a :: es) [] pos) (rdN κ Wx fun ρ S => (ms ρ S).bind fun ds S1 => mkR i.c fun x => Φ j (.int x :: ds) S1) := by
  obtain ⟨fd, ps, k, M, hb, F, hr⟩ := (ok.ci i hi).maker j hj
  have hr : Room (k + 1) X.A := hr.mono (Nat.le_succ _)
  refine ⟨fun pins s σ H Q I ⟨as, H0, ρ, S, rs, hS, w⟩ => ?_⟩
  refine wpAny_Call_Name_kw (ld_glob I (ok.gl hg) (ok.ci i hi).mg ?_ (odd_db ho))
  have key : rdDs κ Wx ms σ H fun vs H1 => ∃ as1 ds S1, IsDs κ as1 H1 ds vs ∧ RepS κ as1 H1 S1 ∧ Out (mkR i.c fun x => Φ j (.int x :: ds) S1) (kN κ as1 H1 Q) (kX κ as1 H1 σ Wx) :=
    rdDs.mk rs hS w.of_bind fun ds S1 as1 H1 vs w1 st1 r1 hS1 => ⟨as1, ds, S1, r1, hS1, w1.onN st1⟩
  refine PySem.W.callWith_K (h₀ := X.base) I.ok.mod.kin M.kp (thn (hp.run pos pins s σ H _ I key) fun us s1 ⟨vs, H1, I1, r, as1, ds, S1, rd, hS1, w1⟩ => ⟨I1.kIn, ?_⟩) (star_cons (hs a List.mem_cons_self)) (star_back fun e he => hs e (List.mem_cons_of_mem _ he))
  have q := spI_of (g := Φ j) rd hS1 w1
  rw [ok.hκ] at q
  exact run_makeS M F hr hb (passAt tk σ) I1 r q
theorem pn_make0 (ok : CxOk X sc κ Φ) (tk : Takes X Wx) {i : CI} {j : Nat} {p : Pos} (hi : i ∈ sc.ci) (hj : i.ini = some j) (hg : glB sc (Str.ofString i.c) = true) (ho : odd (Str.ofString i.c) = false) :
    PE X (.Call (.Name (Str.ofString i.c) p) [] [] pos) (rdN κ Wx fun _ S => mkR i.c fun x => Φ j [.int x] S) := by
  obtain ⟨fd, ps, k, M, hb, F, hr⟩ := (ok.ci i hi).maker j hj
  have hr : Room (k + 1) X.A := hr.mono (Nat.le_succ _)
  refine ⟨fun pins s σ H Q I ⟨as, H0, ρ, S, rs, hS, w⟩ => ?_⟩
  refine wpAny_Call_Name_kw (ld_glob I (ok.gl hg) (ok.ci i hi).mg ?_ (odd_db ho))
  have q := spI_of (g := Φ j) (ds := []) (vs := []) (S := S) True.intro hS w
  rw [ok.hκ] at q
  exact PySem.W.callWith_K0 I.kIn M.kp (run_makeS (us := []) M F hr hb (passAt tk σ) I .nil q)
end
end Ev
set_option maxHeartbeats 2000000
/-! Ev, part 10: what is walked; comprehensions. -/
namespace Ev
open PySem PySem.Spec PyProof.Rows L2

theorem mono_at {κ : Kx} {as as' : List Addr} {H H' : Hp} (pr : Pre as as') (im : Imm H H') {d : D} {v : V} (h : IsD κ as H d v) : IsD κ as' H' d v := h.mono pr im
theorem scr_ds {κ : Kx} {as : List Addr} {H : Hp} : ∀ {ns : List Int}, IsDs κ as H (ns.map D.int) (ns.map V.int)
  | [] => True.intro
  | _ :: _ => ⟨rfl, scr_ds⟩
/-- what an iterator gives: the items ds, while what is walked stays -/
def ItsOk (κ : Kx) (J : It) (as : List Addr) (H : Hp) (ws : List W) (S : Sto) (ds : List D) : Prop :=
  ds.length ≤ sizeLine ∧ ∃ ad : List Addr, (∀ a ∈ ad, a ∉ as ∧ H a ≠ none) ∧ ((∀ w ∈ ws, ∃ d, w = .d d) → ad = []) ∧
  ∀ as' H' S', Pre as as' → Imm H H' → (∀ a ∈ ad, H' a = H a) → RepS κ as' H' S' → srcG ws S S' →
    (∀ i, i < ds.length → J.go i H') ∧ J.stop ds.length H' ∧ ∀ i x H'' d, J.yld i H' x H'' → ds[i]? = some d → IsD κ as' H'' d x ∧ Step as' H' as' H'' ∧ RepS κ as' H'' S'
def rdI (κ : Kx) (Wx : L2.WX) (k : Sk) (m : Env → Sto → R (List W)) : TI := fun σ H Rr => ∃ as H0 ρ S, RelS κ as H0 H σ ρ ∧ RepS κ as H S ∧
  Out (m ρ S) (fun ws S1 => ∃ ds, srcD k ws S1 = some ds ∧ ∀ as1 H1 J, Step as H as1 H1 → RepS κ as1 H1 S1 → ItsOk κ J as1 H1 ws S1 ds → Rr J H1) (kX κ as H σ Wx)
section
variable {X : Cx} {sc : SC} {κ : Kx} {Φ : Fn} {Wx : L2.WX} {a b c tg : Expr} {ma mb mc : MW} {pos : Pos}
theorem its_list {as : List Addr} {H : Hp} {w : W} {S : Sto} {ds : List D} {l : Addr} (hl : ds.length ≤ sizeLine) (ad : List Addr) (h1 : ∀ a ∈ ad, a ∉ as ∧ H a ≠ none) (h2 : (∃ d, w = .d d) → ad = [])
    (h : ∀ as' H' S', Pre as as' → Imm H H' → (∀ a ∈ ad, H' a = H a) → RepS κ as' H' S' → srcG [w] S S' → ∃ vs, SqL X.K H' l vs ∧ IsDs κ as' H' ds vs) : ItsOk κ (Itl X.K l) as H [w] S ds := by
  refine ⟨hl, ad, h1, fun z => h2 (z w List.mem_cons_self), fun as' H' S' pr im kp hS' g => ?_⟩
  obtain ⟨vs, q, r⟩ := h as' H' S' pr im kp hS' g
  have el := r.length
  refine ⟨fun i hi => ?_, ⟨vs, q, by omega⟩, fun i x H'' d y e => ?_⟩
  · have hi' : i < vs.length := by omega
    exact ⟨vs, vs[i], q, by simp [hi']⟩
  · obtain ⟨rfl, y⟩ := y
    obtain ⟨v, e1, e2⟩ := r.get e
    have e3 := y vs q
    rw [e1] at e3
    cases e3
    exact ⟨e2, Step.refl, hS'⟩
theorem its_tup {as : List Addr} {H : Hp} {w : W} {S : Sto} {ds : List D} {l : Addr} {vs : List V} (hl : ds.length ≤ sizeLine) (q : SqT X.K H l vs) (r : IsDs κ as H ds vs) : ItsOk κ (Itt X.K l) as H [w] S ds := by
  refine ⟨hl, [], by simp, fun _ => rfl, fun as' H' S' pr im kp hS' g => ?_⟩
  have q' := im.sqT q
  have r' := r.mono pr im
  have el := r'.length
  refine ⟨fun i hi => ?_, ⟨vs, q', by omega⟩, fun i x H'' d y e => ?_⟩
  · have hi' : i < vs.length := by omega
    exact ⟨vs, vs[i], q', by simp [hi']⟩
  · obtain ⟨rfl, y⟩ := y
    obtain ⟨v, e1, e2⟩ := r'.get e
    have e3 := y vs q'
    rw [e1] at e3
    cases e3
    exact ⟨e2, Step.refl, hS'⟩
theorem lenL {pins : List (Addr × Obj)} {s : Shared} {σ : L2.St} {H : Hp} {l : Addr} {xs : List V} (I : Inv X pins σ H s) (hH : SqL X.K H l xs) : xs.length ≤ sizeLine := by
  obtain ⟨its, r, p, z⟩ := I.list hH
  exact z
theorem lenT {pins : List (Addr × Obj)} {s : Shared} {σ : L2.St} {H : Hp} {l : Addr} {xs : List V} (I : Inv X pins σ H s) (hH : SqT X.K H l xs) : xs.length ≤ sizeLine := by
  obtain ⟨its, r, p, z⟩ := I.tuple hH
  have := r.length
  simpa [this] using z
theorem its_rng {lo : Int} {n : Nat} {as : List Addr} {H : Hp} {ws : List W} {S : Sto} (hn : n ≤ sizeLine) : ItsOk κ (Itr lo n) as H ws S ((List.range n).map fun (i : Nat) => .int (lo + (i : Int))) := by
  refine ⟨by simpa using hn, [], by simp, fun _ => rfl, fun as' H' S' pr im kp hS' g => ⟨fun i hi => by show i < n; simpa using hi, by simp [Itr], fun i x H'' d y e => ?_⟩⟩
  obtain ⟨rfl, rfl⟩ := y
  rw [List.getElem?_map] at e
  cases q : (List.range n)[i]? with
  | none => rw [q] at e; cases e
  | some j =>
    rw [q] at e
    cases e
    have : j = i := by
      obtain ⟨h1, h2⟩ := List.getElem?_eq_some_iff.mp q
      rw [List.getElem_range] at h2
      exact h2.symm
    subst this
    exact ⟨rfl, Step.refl, hS'⟩
theorem rngOk_of {m n : Int} (h : rngOk m n = true) : -(2 ^ 62) ≤ m ∧ m < 2 ^ 62 ∧ -(2 ^ 62) ≤ n ∧ n < 2 ^ 62 ∧ (n - m).toNat ≤ sizeLine := by
  obtain ⟨h, h5⟩ := ba2 h
  obtain ⟨h, h4⟩ := ba2 h
  obtain ⟨h, h3⟩ := ba2 h
  obtain ⟨h1, h2⟩ := ba2 h
  have h1 := of_decide_eq_true h1
  have h2 := of_decide_eq_true h2
  have h3 := of_decide_eq_true h3
  have h4 := of_decide_eq_true h4
  have h5 := of_decide_eq_true h5
  rw [sizeLine_eq]
  omega
theorem pi_rng1 (ok : CxOk X sc κ Φ) {e : Expr} {p : Pos} {ms : Env → Sto → R (List W)} (hg : glB sc "range" = true) (he : nostar e = true) (ha : PA X [e] (rdWs κ Wx ms)) (h1 : ∀ ρ S ws S', ms ρ S = .ok ws S' → ws.length = 1) :
    PI X tg (.Call (.Name "range" p) [e] [] pos) (rdI κ Wx .range ms) := by
  have := pi_range1 (tg := tg) (p := p) (pos := pos) (ok.gl hg) (ok.blt "range" (by decide)) ha (star_cons he)
  refine ⟨fun pins s σ H Rr I ⟨as, H0, ρ, S, rs, hS, w⟩ => this.run pins s σ H Rr I ?_⟩
  have w0 : Out (ms ρ S) (fun ws S1 => ws.length = 1 ∧ ∃ ds, srcD .range ws S1 = some ds ∧ ∀ as1 H1 J, Step as H as1 H1 → RepS κ as1 H1 S1 → ItsOk κ J as1 H1 ws S1 ds → Rr J H1) (kX κ as H σ Wx) := by
    cases q : ms ρ S with
    | ok ds S' => rw [q] at w; exact ⟨h1 ρ S ds S' q, w⟩
    | exc e S' => rw [q] at w; exact w
    | bad => rw [q] at w; exact w
  refine rdWs.mk rs hS w0 fun ws S1 as1 H1 vs ⟨hl, ds, e, k⟩ st1 r1 hS1 => ?_
  match ws, hl with
  | [w], _ =>
    cases vs with
    | nil => exact r1.elim
    | cons v vs =>
      cases vs with
      | cons _ _ => exact r1.2.elim
      | nil =>
        cases w with
        | own c => cases e
        | d x =>
          cases x with
          | int n =>
            have e' : (if rngOk 0 n = true then some (rngD 0 n) else none) = some ds := e
            by_cases z : rngOk 0 n = true
            · rw [if_pos z] at e'
              cases e'
              obtain ⟨_, _, h3, h4, h5⟩ := rngOk_of z
              have hv : v = V.int n := r1.1
              subst hv
              have e0 : (n - 0).toNat = n.toNat := by rw [Int.sub_zero]
              exact ⟨n, rfl, h3, h4, k as1 H1 _ st1 hS1 (by unfold rngD; rw [e0]; exact its_rng (lo := 0) (by rw [← e0]; exact h5))⟩
            · rw [if_neg z] at e'; cases e'
          | _ => cases e
theorem pi_rng2 (ok : CxOk X sc κ Φ) {e e2 : Expr} {p : Pos} {ms : Env → Sto → R (List W)} (hg : glB sc "range" = true) (he : nostar e = true) (he2 : nostar e2 = true) (ha : PA X [e, e2] (rdWs κ Wx ms)) (h1 : ∀ ρ S ws S', ms ρ S = .ok ws S' → ws.length = 2) :
    PI X tg (.Call (.Name "range" p) [e, e2] [] pos) (rdI κ Wx .range ms) := by
  have := pi_range2 (tg := tg) (p := p) (pos := pos) (ok.gl hg) (ok.blt "range" (by decide)) ha (by rw [star_cons he, star_cons he2]; rfl) (by rw [star_cons he2]; rfl)
  refine ⟨fun pins s σ H Rr I ⟨as, H0, ρ, S, rs, hS, w⟩ => this.run pins s σ H Rr I ?_⟩
  have w0 : Out (ms ρ S) (fun ws S1 => ws.length = 2 ∧ ∃ ds, srcD .range ws S1 = some ds ∧ ∀ as1 H1 J, Step as H as1 H1 → RepS κ as1 H1 S1 → ItsOk κ J as1 H1 ws S1 ds → Rr J H1) (kX κ as H σ Wx) := by
    cases q : ms ρ S with
    | ok ds S' => rw [q] at w; exact ⟨h1 ρ S ds S' q, w⟩
    | exc e S' => rw [q] at w; exact w
    | bad => rw [q] at w; exact w
  refine rdWs.mk rs hS w0 fun ws S1 as1 H1 vs ⟨hl, ds, e, k⟩ st1 r1 hS1 => ?_
  match ws, hl with
  | [w, w'], _ =>
    cases vs with
    | nil => exact r1.elim
    | cons v vs =>
      cases vs with
      | nil => exact r1.2.elim
      | cons v' vs => cases vs with
        | cons _ _ => exact r1.2.2.elim
        | nil =>
          cases w with
          | own c => cases e
          | d x =>
            cases x with
            | int m =>
              cases w' with
              | own c => cases e
              | d y =>
                cases y with
                | int n =>
                  have e' : (if rngOk m n = true then some (rngD m n) else none) = some ds := e
                  by_cases z : rngOk m n = true
                  · rw [if_pos z] at e'
                    cases e'
                    obtain ⟨h1, h2, h3, h4, h5⟩ := rngOk_of z
                    have hv : v = V.int m := r1.1
                    have hv' : v' = V.int n := r1.2.1
                    subst hv hv'
                    exact ⟨m, n, rfl, ⟨h1, h2, h3, h4⟩, k as1 H1 _ st1 hS1 (its_rng h5)⟩
                  · rw [if_neg z] at e'; cases e'
                | _ => cases e
            | _ => cases e
theorem pi_seq (ok : CxOk X sc κ Φ) {e : Expr} (he : PE X e (rdW κ Wx ma)) : PI X tg e (rdI κ Wx .seq fun ρ S => (ma ρ S).bind fun d S1 => (R.ok (α := List W) [] S1).bind fun ds S2 => .ok (d :: ds) S2) := by
  refine ⟨fun pins s σ H Rr I ⟨as, H0, ρ, S, rs, hS, w⟩ => ?_⟩
  refine thn (he.run pins s σ H (fun x H1 => ∃ as1 w S1 ds, Step as H as1 H1 ∧ IsE κ as1 H1 w x ∧ RepS κ as1 H1 S1 ∧ srcD .seq [w] S1 = some ds ∧ ∀ J, ItsOk κ J as1 H1 [w] S1 ds → Rr J H1) I
    (rdW.mk rs hS w.of_bind fun x S1 as1 H1 v w1 st1 r1 hS1 => ?_)) fun v s1 ⟨x, H1, I1, rx, as1, w, S1, ds, st, r, hS1, e, k⟩ => ?_
  · have w2 := w1.of_bind
    obtain ⟨ds, e, k⟩ := w2
    exact ⟨as1, x, S1, ds, st1, r1, hS1, e, fun J h => k as1 H1 J st1 hS1 h⟩
  · have e' : seqD S1 w = some ds := e
    have goL : ∀ {a : Addr} {xs : List V}, SqL X.K H1 a xs → v = .ref a → ItsOk κ (Itl X.K a) as1 H1 [w] S1 ds → wpAny (model X.prog X.w) X.A (pyIter v) (PIE X pins σ tg Rr) X.xe s1 := fun {a xs} hq ev h => by
      subst ev
      obtain ⟨its, rv, p, hz⟩ := I1.list hq
      refine wpAny_pyIter_list p.isList ?_
      refine ⟨s1.heap.objs.size, [s1.heap.objs.size], _, _, H1, rfl, I1.kept (t' := s1.toks) fun b o e => Heap.get?_push_of_some _ e, turn_list a _, ⟨_, Heap.get?_push_size _ rfl, rfl, rfl⟩, fun b hb => ?_, k _ h⟩
      have e : b = s1.heap.objs.size := by simpa using hb
      subst e
      exact I1.fpOk (Nat.le_refl _) (I1.hok.fresh (Nat.le_refl _))
    have goT : ∀ {a : Addr} {xs : List V}, SqT X.K H1 a xs → v = .ref a → ItsOk κ (Itt X.K a) as1 H1 [w] S1 ds → wpAny (model X.prog X.w) X.A (pyIter v) (PIE X pins σ tg Rr) X.xe s1 := fun {a xs} hq ev h => by
      subst ev
      obtain ⟨its, rv, p, hz⟩ := I1.tuple hq
      refine wpAny_pyIter_tuple (show s1.heap.IsTuple a its.toArray from p) ?_
      refine ⟨s1.heap.objs.size, [s1.heap.objs.size], _, _, H1, rfl, I1.kept (t' := s1.toks) fun b o e => Heap.get?_push_of_some _ e, turn_tuple a _, ⟨_, Heap.get?_push_size _ rfl, rfl, rfl⟩, fun b hb => ?_, k _ h⟩
      have e : b = s1.heap.objs.size := by simpa using hb
      subst e
      exact I1.fpOk (Nat.le_refl _) (I1.hok.fresh (Nat.le_refl _))
    cases w with
    | own c =>
      obtain ⟨l, rfl, nl, rc⟩ := r
      cases c with
      | lst ys =>
        have e2 : ys = ds := by injection e'
        subst e2
        obtain ⟨vs, h1, h2⟩ := rc
        have hq : SqL X.K H1 l vs := .inl (.inl h1)
        refine goL hq rx (its_list (by rw [h2.length]; exact lenL I1 hq) [l] (fun a ha => ?_) (fun ⟨d, z⟩ => by cases z) fun as' H' S' pr im kp hS' g => ⟨vs, .inl (.inl ((kp l List.mem_cons_self).trans h1)), h2.mono pr im⟩)
        rw [List.mem_singleton.mp ha]
        exact ⟨nl, by rw [h1]; simp⟩
      | _ => cases e'
    | d x0 =>
      have rD : IsD κ as1 H1 x0 x := r
      cases x0 with
      | lst ys =>
        have e2 : ys = ds := by injection e'
        subst e2
        obtain ⟨l, vs, rfl, h1, h2⟩ := rD
        have hq : SqL X.K H1 l vs := .inl h1.rd
        exact goL hq rx (its_list (by rw [h2.length]; exact lenL I1 hq) [] (fun a ha => by simp at ha) (fun _ => rfl) fun as' H' S' pr im kp hS' g => ⟨vs, .inl (im.frz h1).rd, h2.mono pr im⟩)
      | scr ns =>
        have e2 : ns.map D.int = ds := by injection e'
        subst e2
        obtain ⟨l, rfl, h1⟩ := rD
        have hq : SqL κ.K H1 l (ns.map V.int) := h1.elim (fun z => .inl z.rd) .inr
        have rr : ∀ as H, IsDs κ as H (ns.map D.int) (ns.map V.int) := fun as H => scr_ds
        rw [ok.hκ] at hq h1
        exact goL hq rx (its_list (by rw [(rr as1 H1).length]; exact lenL I1 hq) [] (fun a ha => by simp at ha) (fun _ => rfl) fun as' H' S' pr im kp hS' g => ⟨_, h1.elim (fun z => .inl (im.frz z).rd) .inr, rr as' H'⟩)
      | tup ys =>
        have e2 : ys = ds := by injection e'
        subst e2
        obtain ⟨l, vs, rfl, h1, h2⟩ := rD
        rw [ok.hκ] at h1
        exact goT h1.sq rx (its_tup (by rw [h2.length]; exact lenT I1 h1.sq) h1.sq h2)
      | str z =>
        have e2 : (z.map fun c => D.str [c]) = ds := by injection e'
        subst e2
        obtain ⟨t, ev⟩ := (show ∃ t, v = Value.str (tx z) t by have r2 := rD.1; subst r2; exact rx)
        subst ev
        have hi : ItsOk κ (Its (tx z)) as1 H1 [.d (.str z)] S1 (z.map fun c => D.str [c]) := by
          refine ⟨by rw [List.length_map]; exact szOk_of rD.2, [], by simp, fun _ => rfl, fun as' H' S' pr im kp hS' g => ⟨fun i hi => ?_, ?_, fun i x H'' d y e => ?_⟩⟩
          · rw [List.length_map] at hi
            show i < (tx z).cps.size
            simpa [tx] using hi
          · show (tx z).cps.size ≤ _
            simp [tx]
          · obtain ⟨rfl, ch, e1, rfl⟩ := y
            rw [List.getElem?_map] at e
            have e3 : z[i]? = some ch := by simpa [tx] using e1
            rw [e3] at e
            cases e
            exact ⟨⟨rfl, rfl⟩, Step.refl, hS'⟩
        cases ha : (tx z).cps.all (· < 128)
        · exact wpAny_pyIter_wide ha (pi_one (tk := s1.toks) I1 _ (turn_str _ (tx z) t "str_iterator" (.inr rfl)) ⟨_, Heap.get?_push_size _ rfl, rfl, rfl⟩ (k _ hi))
        · exact wpAny_pyIter_ascii ha (pi_one (tk := s1.toks) I1 _ (turn_str _ (tx z) t "str_ascii_iterator" (.inl rfl)) ⟨_, Heap.get?_push_size _ rfl, rfl, rfl⟩ (k _ hi))
      | dic kvs =>
        have e2 : (kvs.map fun p => kyD p.1) = ds := by injection e'
        subst e2
        obtain ⟨l, kws, rfl, ⟨o, h1⟩, h2⟩ := rD
        obtain rfl : v = .ref l := rx
        obtain ⟨hs, hgd, hx, es, ep, vs, hdt, hsz, kv, hm⟩ := I1.frzK h1
        have hlen : kvs.length = kws.length := h2.length
        have hle : kws.length ≤ sizeLine := (I1.hok l _ h1).2.1
        have ky : ∀ {kvs : List (Ky × D)} {kws : List (L2.Key × V)} {as : List Addr} {H : Hp}, IsKs κ as H kvs kws → ∀ (i : Nat) (d : D) (k : L2.Key) (v : V), (kvs.map fun p => kyD p.1)[i]? = some d → kws[i]? = some (k, v) → ∀ as' H', IsD κ as' H' d (kV k) := by
          intro kvs
          induction kvs with
          | nil => intro kws as H h i d k v e1 e2; simp at e1
          | cons p r ih =>
            intro kws as H h i d k v e1 e2 as' H'
            obtain ⟨k1, d1⟩ := p
            cases kws with
            | nil => exact h.elim
            | cons q r' =>
              obtain ⟨q1, v1⟩ := q
              obtain ⟨⟨eq, okk⟩, _, hr⟩ := h
              cases i with
              | zero =>
                simp at e1 e2
                obtain ⟨rfl, rfl⟩ := e2
                subst e1
                rw [eq]
                cases k1 with
                | inl n => exact rfl
                | inr x => exact ⟨rfl, okk⟩
              | succ i => exact ih hr i d k v (by simpa using e1) (by simpa using e2) as' H'
        have hi : ItsOk κ (Itk l o kws) as1 H1 [.d (.dic kvs)] S1 (kvs.map fun p => kyD p.1) := by
          refine ⟨by rw [List.length_map, hlen]; exact hle, [], by simp, fun _ => rfl, fun as' H' S' pr im kp hS' g => ?_⟩
          have h1' : H' l = some (.frz o (.dK kws)) := im l _ h1 True.intro
          refine ⟨fun i hi => ⟨h1', by rw [List.length_map, hlen] at hi; exact hi⟩, ⟨h1', by rw [List.length_map, hlen]; exact Nat.le_refl _⟩, fun i x H'' d y e => ?_⟩
          obtain ⟨rfl, kk, vv, e1, rfl⟩ := y
          exact ⟨ky h2 i d kk vv e e1 as' H'', Step.refl, hS'⟩
        refine iter_keys hs hgd hx hdt (pi_one (tk := s1.toks) I1 _ (turn_keys _ hdt) ⟨_, Heap.get?_push_size _ rfl, rfl, ?_⟩ (k _ hi))
        rw [hsz] <;> rfl
      | ref i =>
        obtain ⟨l, el, rfl⟩ := rD
        have hi : i < as1.length := (List.getElem?_eq_some_iff.mp el).1
        rw [hS1.len] at hi
        have q : S1[i]? = some S1[i] := List.getElem?_eq_getElem hi
        have ec : ∃ ys, S1[i] = .lst ys := by
          have e3 : (match (W.d (.ref i)).vw S1 with
            | .lst ds => some ds
            | .tup ds => some ds
            | .scr ns => some (ns.map .int)
            | .str z => some (z.map fun c => D.str [c])
            | _ => none) = some ds := e'
          have e4 : (W.d (.ref i)).vw S1 = S1[i].vw := by simp only [W.vw, Ev.vw, q]
          rw [e4] at e3
          cases hc : S1[i] with
          | lst ys => exact ⟨ys, rfl⟩
          | dct _ => rw [hc] at e3; cases e3
          | obj _ _ => rw [hc] at e3; cases e3
        obtain ⟨ys, ec⟩ := ec
        rw [ec] at q
        have e2 : ys = ds := by
          have e4 : (W.d (.ref i)).vw S1 = .lst ys := by simp only [W.vw, Ev.vw, q]; rfl
          have e3 : (match (W.d (.ref i)).vw S1 with
            | .lst ds => some ds
            | .tup ds => some ds
            | .scr ns => some (ns.map .int)
            | .str z => some (z.map fun c => D.str [c])
            | _ => none) = some ds := e'
          rw [e4] at e3
          injection e3
        subst e2
        obtain ⟨vs, h1, h2⟩ := hS1.cell i l _ el q
        have hq : SqL X.K H1 l vs := .inl (.inl h1)
        refine goL hq rx (its_list (by rw [h2.length]; exact lenL I1 hq) [] (fun a ha => by simp at ha) (fun _ => rfl) fun as' H' S' pr im kp hS' g => ?_)
        have g' := g (.d (.ref i)) List.mem_cons_self
        obtain ⟨vs', h3, h4⟩ := hS'.cell i l _ (pr i l el) (g'.trans q)
        exact ⟨vs', .inl (.inl h3), h4⟩
      | _ => cases e'
end
end Ev
set_option maxHeartbeats 2000000
/-! Ev, part 11: targets, comprehensions, for. -/
namespace Ev
open PySem PySem.Spec PyProof.Rows L2

/-! ### targets: a name, a tuple of names -/
def gConsN : List Nat → TGs
  | [] => gNil
  | i :: is => gCons (gName i) (gConsN is)
def gT (K : PySem.W.Frag) : List Nat → TG
  | [i] => gName i
  | is => gTup K is.length (gConsN is)
section
variable {κ : Kx} {as : List Addr} {H0 H : Hp}
theorem setAll_ok : ∀ {is : List Nat} {ds : List D} {vs : List V} {σ : L2.St} {ρ ρ' : Env} {Q : L2.St → Hp → Prop}, IsDs κ as H ds vs → setAll is ds ρ = some ρ' → RelS κ as H0 H σ ρ → (∀ i ∈ is, i < σ.length) →
    (∀ σ', RelS κ as H0 H σ' ρ' → σ'.length = σ.length → (∀ j, j ∉ is → σ'[j]? = σ[j]?) → Q σ' H) → gConsN is vs σ H Q
  | [], [], [], σ, ρ, ρ', Q, _, e, rs, _, k => by
    cases e
    exact ⟨rfl, k σ rs rfl fun _ _ => rfl⟩
  | [], [], _ :: _, _, _, _, _, h, _, _, _, _ => h.elim
  | [], _ :: _, _, _, _, _, _, _, e, _, _, _ => by cases e
  | _ :: _, [], _, _, _, _, _, _, e, _, _, _ => by cases e
  | i :: is, d :: ds, [], _, _, _, _, h, _, _, _, _ => h.elim
  | i :: is, d :: ds, v :: vs, σ, ρ, ρ', Q, h, e, rs, hl, k => by
    refine ⟨v, vs, rfl, ?_⟩
    show gConsN is vs (σ.set i (some v)) H Q
    refine setAll_ok (ρ := ρ.put i (.d d)) h.2 e (rs.set (hl i List.mem_cons_self) h.1) (fun j hj => by rw [List.length_set]; exact hl j (List.mem_cons_of_mem _ hj)) fun σ' rs' l' n' => ?_
    refine k σ' rs' (by rw [l', List.length_set]) fun j hj => ?_
    rw [n' j fun z => hj (List.mem_cons_of_mem _ z), List.getElem?_set_ne (fun (z : i = j) => hj (by rw [z]; exact List.mem_cons_self))]
theorem setTg_ok {tg : List Nat} {d : D} {v : V} {σ : L2.St} {ρ ρ' : Env} {Q : L2.St → Hp → Prop} (h : IsD κ as H d v) (e : setTg tg d ρ = some ρ') (rs : RelS κ as H0 H σ ρ) (hl : ∀ i ∈ tg, i < σ.length)
    (k : ∀ σ', RelS κ as H0 H σ' ρ' → σ'.length = σ.length → (∀ j, j ∉ tg → σ'[j]? = σ[j]?) → Q σ' H) : gT κ.K tg v σ H Q := by
  have many : ∀ is : List Nat, (∀ i, is ≠ [i]) → setTg is d ρ = some ρ' → (∀ i ∈ is, i < σ.length) → (∀ σ', RelS κ as H0 H σ' ρ' → σ'.length = σ.length → (∀ j, j ∉ is → σ'[j]? = σ[j]?) → Q σ' H) → gTup κ.K is.length (gConsN is) v σ H Q := fun is ni e hl k => by
    cases d with
    | tup ds =>
      obtain ⟨a, vs, rfl, hq, r⟩ := h
      have e' : setAll is ds ρ = some ρ' := by
        cases is with
        | nil => exact e
        | cons i is => cases is with
          | nil => exact absurd rfl (ni i)
          | cons j is => exact e
      refine ⟨a, vs, rfl, hq.sq, ?_, setAll_ok r e' rs hl k⟩
      have ln : ∀ (is : List Nat) (ds : List D) (ρ ρ' : Env), setAll is ds ρ = some ρ' → is.length = ds.length := by
        intro is
        induction is with
        | nil => intro ds ρ ρ' e; cases ds with
          | nil => rfl
          | cons _ _ => cases e
        | cons i is ih => intro ds ρ ρ' e; cases ds with
          | nil => cases e
          | cons d ds => simp only [List.length_cons, ih ds _ _ e]
      rw [← r.length, ln is ds ρ ρ' e']
    | _ =>
      cases is with
      | nil => cases e
      | cons i is => cases is with
        | nil => exact absurd rfl (ni i)
        | cons j is => cases e
  match tg, e, hl, k with
  | [i], e, hl, k =>
    have e' : ρ.put i (.d d) = ρ' := by
      cases d <;> (injection e)
    subst e'
    refine k _ (rs.set (hl i List.mem_cons_self) h) (List.length_set ..) fun j hj => List.getElem?_set_ne (fun (z : i = j) => hj (by rw [z]; exact List.mem_cons_self))
  | [], e, hl, k => exact many [] (fun i z => by cases z) e hl k
  | i :: j :: is, e, hl, k => exact many (i :: j :: is) (fun i z => by cases z) e hl k
theorem wipe_get {σ : L2.St} : ∀ {vs : List Nat} (j : Nat), (wipe σ vs)[j]? = if j ∈ vs ∧ j < σ.length then some none else σ[j]?
  | [], j => by simp [wipe]
  | v :: vs, j => by
    show ((wipe σ vs).set v none)[j]? = _
    by_cases h : v = j
    · subst h
      by_cases hl : v < σ.length
      · rw [List.getElem?_set_self (by rw [wipe_length]; exact hl), if_pos ⟨List.mem_cons_self, hl⟩]
      · rw [List.getElem?_eq_none (by rw [List.length_set, wipe_length]; omega), if_neg (fun z => hl z.2), List.getElem?_eq_none (by omega)]
    · rw [List.getElem?_set_ne h, wipe_get j]
      by_cases hj : j ∈ vs ∧ j < σ.length
      · rw [if_pos hj, if_pos ⟨List.mem_cons_of_mem _ hj.1, hj.2⟩]
      · rw [if_neg hj, if_neg fun z => hj ⟨(List.mem_cons.mp z.1).resolve_left (Ne.symm h), z.2⟩]
theorem wipe_back {σ σ' : L2.St} {vs : List Nat} (hl : σ'.length = (wipe σ vs).length) (h : ∀ j, j ∉ vs → σ'[j]? = (wipe σ vs)[j]?) : wipe σ' vs = wipe σ vs := by
  rw [wipe_length] at hl
  apply List.ext_getElem?
  intro j
  rw [wipe_get, wipe_get]
  by_cases z : j ∈ vs
  · by_cases hj : j < σ.length
    · rw [if_pos ⟨z, by omega⟩, if_pos ⟨z, hj⟩]
    · rw [if_neg (fun q => hj (by omega)), if_neg (fun q => hj q.2), List.getElem?_eq_none (by omega), List.getElem?_eq_none (by omega)]
  · rw [if_neg (fun q => z q.1), if_neg (fun q => z q.1), h j z, wipe_get, if_neg (fun q => z q.1)]
theorem dels_get : ∀ (is : List Nat) (ρ : Env) (j : Nat) (w : W), (ρ.dels is).get j = some w → j ∉ is ∧ ρ.get j = some w
  | [], ρ, j, w, h => ⟨by simp, h⟩
  | i :: is, ρ, j, w, h => by
    obtain ⟨h1, h2⟩ := dels_get is (ρ.del i) j w h
    rw [get_del] at h2
    by_cases z : i = j
    · rw [if_pos z] at h2; cases h2
    · rw [if_neg z] at h2
      exact ⟨by simp only [List.mem_cons, not_or]; exact ⟨fun q => z q.symm, h1⟩, h2⟩
theorem RelS.wipe {σ : L2.St} {ρ : Env} (r : RelS κ as H0 H σ ρ) (vs : List Nat) : RelS κ as H0 H (L2.wipe σ vs) (ρ.dels vs) := by
  have key : ∀ j w, (ρ.dels vs).get j = some w → ρ.get j = some w ∧ (L2.wipe σ vs)[j]? = σ[j]? := fun j w h => by
    obtain ⟨h1, h2⟩ := dels_get vs ρ j w h
    exact ⟨h2, by rw [wipe_get, if_neg fun q => h1 q.1]⟩
  refine ⟨fun i d e => ?_, fun i c e => ?_, fun i j c e a n e1 e2 s1 => ?_⟩
  · obtain ⟨e', q⟩ := key i _ e
    rw [q]
    exact r.val i d e'
  · obtain ⟨e', q⟩ := key i _ e
    rw [q]
    exact r.own i c e'
  · obtain ⟨e1', q1⟩ := key i _ e1
    obtain ⟨e2', q2⟩ := key j _ e2
    rw [q1] at s1
    rw [q2]
    exact r.dis i j c e a n e1' e2' s1
end
theorem noexc_ok {α : Type} {r : R α} {k : α → Sto → Prop} {ke : D → Sto → Prop} (h : Out r.noexc k ke) : ∃ a S, r = .ok a S ∧ k a S := by
  cases r with
  | ok a S => exact ⟨a, S, rfl, h⟩
  | exc e S => exact h.elim
  | bad => exact h.elim
theorem bind_ok {α β : Type} {r : R α} {f : α → Sto → R β} {b : β} {S : Sto} (h : r.bind f = .ok b S) : ∃ a S1, r = .ok a S1 ∧ f a S1 = .ok b S := by
  cases r with
  | ok a S1 => exact ⟨a, S1, rfl, h⟩
  | exc e S1 => cases h
  | bad => cases h
abbrev WF : L2.WX := fun _ _ _ _ => False
section
variable {X : Cx} {sc : SC} {κ : Kx} {Φ : Fn} {Wx : L2.WX} {elt tg iter : Expr} {ifs : List Expr} {scope : Scope} {own : List (Str × Nat)} {pos : Pos}
/-- a turn of a comprehension -/
def lcBody (tgs : List Nat) (mcond : Env → Sto → R Bool) (melt : MW) (ρ : Env) (d : D) (S : Sto) : R (Option D) :=
  (R.of S (setTg tgs d (ρ.dels tgs))).bind fun ρ' S => (mcond ρ' S).bind fun b S1 => if b = true then (melt ρ' S1).d.bind fun x S2 => .ok (some x) S2 else .ok none S1
open Classical in
/-- the reading of a comprehension, in the layer's words -/
theorem lc_rd {k : Sk} {tgs : List Nat} {mws : Env → Sto → R (List W)} {mcond : Env → Sto → R Bool} {melt : MW} {σ : L2.St} {H : Hp} {Q : VK} {N : Nat} (hσ : σ.length = N) (hvs : own.map (·.2) = tgs) (hlt : ∀ i ∈ tgs, i < N)
    (q : rdN κ Wx (fun ρ S => (mws ρ S).bind fun xs S1 => match srcD k xs S1 with
      | none => .bad
      | some ds => (lcGo (lcBody tgs mcond melt ρ) (srcG xs S1) ds S1).noexc.bind fun r S2 => .ok (.lst r) S2) σ H Q) :
    tLc (rdI κ Wx k mws) (gT κ.K tgs) (rdT κ WF mcond) (rdW κ WF melt) (own.map (·.2)) σ H Q := by
  obtain ⟨as, H0, ρ, S, rs, hS, w⟩ := q
  refine ⟨as, H0, ρ, S, rs, hS, w.of_bind.imp (fun ws S1 w1 => ?_) fun _ _ z => z⟩
  cases q : srcD k ws S1 with
  | none => rw [q] at w1; exact w1.elim
  | some ds =>
    rw [q] at w1
    refine ⟨ds, rfl, fun as1 H1 J st1 hS1 io D hD => ?_⟩
    obtain ⟨r, Sf, e0, k0⟩ := noexc_ok w1.of_bind
    rw [hvs]
    obtain ⟨hlen, ad, ad1, _, io⟩ := io
    -- where one stands at a turn
    let St := fun (i : Nat) (H' : Hp) => ∃ as' S' acc accV rest, Step as1 H1 as' H' ∧ RepS κ as' H' S' ∧ srcG ws S1 S' ∧ H' D = some (.lst accV) ∧ D ∉ as' ∧ IsDs κ as' H' acc accV ∧ accV.length ≤ i ∧
      lcGo (lcBody tgs mcond melt ρ) (srcG ws S1) (ds.drop i) S' = .ok rest Sf ∧ acc ++ rest = r
    have nD : D ∉ as1 := fresh hD hS1
    have srcRefl : srcG ws S1 S1 := fun x _ => by
      cases x with
      | d x => cases x <;> trivial
      | own c => trivial
    refine ⟨fun i m H' => m = ds.length - i ∧ i ≤ ds.length ∧ St i H', ⟨_, rfl, Nat.zero_le _, as1, S1, [], [], r, Step.new hD, RepS.new hD hS1, srcRefl, upd_same, nD, True.intro, Nat.le_refl _, e0, rfl⟩, ?_⟩
    rintro i m H' ⟨rfl, hi, as', S', acc, accV, rest, st, hS', sg, hDa, nDa, ra, la, eg, er⟩
    have kp : ∀ a ∈ ad, H' a = H1 a := fun a ha => by
      obtain ⟨n1, n2⟩ := ad1 a ha
      cases z : H1 a with
      | none => exact absurd z n2
      | some o => exact st.keep a o z n1
    obtain ⟨go, stop, yld⟩ := io as' H' S' st.pr st.imm kp hS' sg
    by_cases hlt' : i < ds.length
    · refine .inr ⟨go i hlt', St (i + 1), fun H2 p => ⟨ds.length - (i + 1), by omega, rfl, hlt', p⟩, fun x H2 y => ?_⟩
      obtain ⟨rd, st2, hS2⟩ := yld i x H2 ds[i] y (by simp [hlt'])
      rw [List.drop_eq_getElem_cons hlt'] at eg
      have eg1 : (lcBody tgs mcond melt ρ ds[i] S').bind (fun r S1' => if srcG ws S1 S1' then (lcGo (lcBody tgs mcond melt ρ) (srcG ws S1) (ds.drop (i + 1)) S1').bind fun ys S2 => .ok (r.toList ++ ys) S2 else .bad) = .ok rest Sf := eg
      obtain ⟨o, S3, e3, e4⟩ := bind_ok eg1
      have sg3 : srcG ws S1 S3 := by
        by_cases z : srcG ws S1 S3
        · exact z
        · rw [if_neg z] at e4; cases e4
      rw [if_pos sg3] at e4
      obtain ⟨ys, S4, e5, e6⟩ := bind_ok e4
      have e6' : o.toList ++ ys = rest := by injection e6
      have e6s : S4 = Sf := by injection e6
      subst e6s
      unfold lcBody at e3
      obtain ⟨ρ', S5, e7, e8⟩ := bind_ok e3
      have e9 : setTg tgs ds[i] (ρ.dels tgs) = some ρ' ∧ S' = S5 := by
        unfold R.of at e7
        cases z : setTg tgs ds[i] (ρ.dels tgs) with
        | none => rw [z] at e7; cases e7
        | some ρ2 => rw [z] at e7; injection e7 with a b; exact ⟨by rw [a], b⟩
      obtain ⟨e9, rfl⟩ := e9
      obtain ⟨b, S6, e10, e11⟩ := bind_ok e8
      have st12 := st1.trans (st.trans st2)
      have stt := st.trans st2
      refine setTg_ok rd e9 ((rs.step st12).wipe tgs) (fun j hj => by rw [wipe_length, hσ]; exact hlt j hj) fun σ2 rs2 l2 n2 => ⟨wipe_back l2 n2, ?_⟩
      refine ⟨as', H0, ρ', S', rs2, hS2, ?_⟩
      rw [e10]
      intro as6 H6 st6 hS6
      have hD2 : H2 D = some (.lst accV) := st2.keep D _ hDa nDa
      have hD6 : H6 D = some (.lst accV) := st6.keep D _ hD2 nDa
      have nD6 : D ∉ as6 := st6.notin hD2 nDa
      have st16 := stt.trans st6
      cases b with
      | true =>
        rw [if_pos rfl] at e11 ⊢
        obtain ⟨dx, S7, e12, e13⟩ := bind_ok e11
        obtain ⟨w7, S8, e14, e15⟩ := bind_ok e12
        have e16 : w7 = .d dx ∧ S8 = S7 := by
          cases w7 with
          | d y => injection e15 with a b; exact ⟨by rw [a], b⟩
          | own c => cases e15
        obtain ⟨rfl, rfl⟩ := e16
        have e13' : o = some dx := by injection e13 with a b; exact a.symm
        have e13s : S8 = S3 := by injection e13
        subst e13'
        subst e13s
        refine ⟨as6, H0, ρ', S6, rs2.step st6, hS6, ?_⟩
        rw [e14]
        intro as8 H8 v8 st8 r8 hS8
        have hD8 : H8 D = some (.lst accV) := st8.keep D _ hD6 nD6
        have nD8 : D ∉ as8 := st8.notin hD6 nD6
        have st18 := st16.trans st8
        refine ⟨accV, hD8, by omega, ?_⟩
        have im : Imm H8 (upd H8 D (.lst (accV ++ [v8]))) := Imm.write hD8 fun z => z
        refine ⟨as8, S8, acc ++ [dx], accV ++ [v8], ys, ?_, hS8.off nD8 im, sg3, upd_same, nD8, ?_, by rw [List.length_append]; simp; omega, e5, ?_⟩
        · exact ⟨st18.ext, fun a u h1 h2 => by rw [upd_ne (ne_of_none h1 hD)]; exact st18.imm a u h1 h2, fun a u h1 h2 => by rw [upd_ne (ne_of_none h1 hD)]; exact st18.keep a u h1 h2, fun a h => upd_there a (st18.there a h)⟩
        · exact (IsDs.append (((ra.step st2).step st6).step st8) (IsDs.one r8)).mono (fun _ _ h => h) im
        · rw [List.append_assoc]
          rw [← er, ← e6']
          rfl
      | false =>
        rw [if_neg Bool.false_ne_true] at e11 ⊢
        have e13' : o = none := by injection e11 with a b; exact a.symm
        have e13s : S6 = S3 := by injection e11
        subst e13'
        subst e13s
        exact ⟨as6, S6, acc, accV, ys, st16, hS6, sg3, hD6, nD6, (ra.step st2).step st6, by omega, e5, by rw [← er, ← e6']; rfl⟩
    · have e : i = ds.length := by omega
      subst e
      refine .inl ⟨stop, ?_⟩
      rw [List.drop_length] at eg
      have e1 : rest = [] ∧ S' = Sf := by injection eg with a b; exact ⟨a.symm, b⟩
      obtain ⟨rfl, rfl⟩ := e1
      rw [List.append_nil] at er
      subst er
      have hDH : H D = none := by
        cases z : H D with
        | none => rfl
        | some o => exact absurd hD (st1.there D (by rw [z]; simp))
      exact k0 as' H' D (st1.trans st) hDH nDa ⟨accV, hDa, ra⟩ hS'
open Classical in
theorem pn_comp (ok : CxOk X sc κ Φ) {k : Sk} {tgs : List Nat} {mws : Env → Sto → R (List W)} {mcond : Env → Sto → R Bool} {melt : MW} (hi : PI X tg iter (rdI κ Wx k mws)) (blk : BlkOk X.N X.env.scope scope own) (hvs : own.map (·.2) = tgs) (hlt : ∀ i ∈ tgs, i < X.N.length)
    (hg : ∀ (s : Shared) (H : Hp) (C : Addr) (cl : List (Str × Addr)) (fp : List Addr), PG (X.blk s H scope (compEnvC scope cl C X.env) fp) tg (gT κ.K tgs))
    (ht : ∀ (s : Shared) (H : Hp) (C : Addr) (cl : List (Str × Addr)) (fp : List Addr), PTs (X.blk s H scope (compEnvC scope cl C X.env) fp) ifs (rdT κ WF mcond))
    (he : ∀ (s : Shared) (H : Hp) (C : Addr) (cl : List (Str × Addr)) (fp : List Addr), PE (X.blk s H scope (compEnvC scope cl C X.env) fp) elt (rdW κ WF melt))
    (hs : ∀ x, foldedSetIterable iter X.env x = pure x) :
    PE X (.ListComp elt [⟨tg, iter, ifs, 0⟩] scope pos) (rdN κ Wx fun ρ S => (mws ρ S).bind fun xs S1 => match srcD k xs S1 with
      | none => .bad
      | some ds => (lcGo (lcBody tgs mcond melt ρ) (srcG xs S1) ds S1).noexc.bind fun r S2 => .ok (.lst r) S2) := by
  have base := pe_lc (pos := pos) ok.calm ok.nd hi blk hg ht he hs
  exact ⟨fun pins s σ H Q I q => base.run pins s σ H Q I (lc_rd (I.len) hvs hlt q)⟩
end
end Ev
set_option maxHeartbeats 4000000
/-! Ev, part 10b: zip of lists, tuples, texts; enumerate of a list. -/
namespace Ev
open PySem PySem.Spec PyProof.Rows L2
/-- what zip walks -/
inductive Zi where
  | L (a : Addr) | T (a : Addr) | S (x : Str)
def Zi.val : Zi → V
  | .L a => .ref a
  | .T a => .ref a
  | .S x => .str x
def Zi.ads : Zi → List Addr
  | .L a => [a]
  | .T a => [a]
  | .S _ => []
def Zi.seq (K : PySem.W.Frag) (z : Zi) (H : Hp) (xs : List V) : Prop := match z with
  | .L a => SqL K H a xs
  | .T a => SqT K H a xs
  | .S x => xs = x.cps.toList.map fun c => .str ⟨#[c]⟩
def Zi.at (z : Zi) (h : Heap) (it i : Nat) : Prop := match z with
  | .L a => h.IsListIter it a i
  | .T a => h.IsTupleIter it a i
  | .S x => ∃ t, h.IsStrIter it (strIterType x) x t i
/-- the things walked, as they stand at each turn, the items in new pairs -/
def ItZ (K : PySem.W.Frag) (z1 z2 : Zi) : It :=
  ⟨fun i H => ∃ (xs ys : List V) (x y : V), z1.seq K H xs ∧ z2.seq K H ys ∧ xs[i]? = some x ∧ ys[i]? = some y,
    fun i H v H' => ∃ T x y o, v = .ref T ∧ H T = none ∧ o.dict = none ∧ H' = upd H T (.frz o (.tup [x, y])) ∧ (∀ xs, z1.seq K H xs → xs[i]? = some x) ∧ ∀ ys, z2.seq K H ys → ys[i]? = some y,
    fun i H => ∃ xs ys : List V, z1.seq K H xs ∧ z2.seq K H ys ∧ ((xs.length = i ∧ i ≤ ys.length) ∨ (ys.length = i ∧ i ≤ xs.length))⟩
section
variable {X : Cx} {pins : List (Addr × Obj)} {σ : L2.St} {H : Hp} {s : Shared}
theorem Zi.inj (I : Inv X pins σ H s) {z : Zi} {xs ys : List V} (h1 : z.seq X.K H xs) (h2 : z.seq X.K H ys) : xs = ys := by
  cases z with
  | L a => exact I.list_inj h1 h2
  | T a => exact I.tuple_inj h1 h2
  | S x => exact h1.trans h2.symm
theorem Zi.keep {z : Zi} {h h' : Heap} {it i : Nat} (st : z.at h it i) (k : ∀ o, h.get? it = some o → h'.get? it = some o) : z.at h' it i := by
  cases z with
  | L a => exact Heap.IsListIter.at st k
  | T a => exact Heap.IsTupleIter.at st k
  | S x => obtain ⟨t, o, ho, r⟩ := st; exact ⟨t, o, k o ho, r⟩
theorem Zi.obj {z : Zi} {h : Heap} {it i : Nat} (st : z.at h it i) : ∃ o, h.get? it = some o ∧ ∀ v, o.data ≠ .cell v := by
  cases z with
  | L a => obtain ⟨o, e, _, d⟩ := st; exact ⟨o, e, fun v q => by rw [d] at q; cases q⟩
  | T a => obtain ⟨o, e, _, d⟩ := st; exact ⟨o, e, fun v q => by rw [d] at q; cases q⟩
  | S x => obtain ⟨t, o, e, _, d⟩ := st; exact ⟨o, e, fun v q => by rw [d] at q; cases q⟩
/-- what an iterator of these draws -/
theorem Zi.draw (hh : X.A.in1.handled = none) (I : Inv X pins σ H s) {z : Zi} {xs : List V} {it i : Nat} (hs : z.seq X.K H xs) (st : z.at s.heap it i) (hne : it ∉ z.ads) :
    ∃ (P : Nat → Value → Prop) (St : Nat → Heap → Prop), Draws X.prog X.w X.A.in1 it (it :: z.ads) xs.length P St ∧ St i s.heap ∧ (∀ j u, P j u → ∃ x, xs[j]? = some x ∧ RelV x u) ∧ ∀ j h, St j h → z.at h it j := by
  cases z with
  | L a =>
    obtain ⟨its, rv, p, _⟩ := I.list hs
    have hl := rv.length
    have D := Draws.list (prog := X.prog) (w := X.w) (A := X.A.in1) hh it a (fun e => hne (by simp [Zi.ads, e])) its.toArray
    refine ⟨_, _, by rw [hl]; simpa [Zi.ads] using D, ⟨st, p.isList⟩, fun j u hu => ?_, fun j h (x : h.IsListIter it a j ∧ h.IsList a its.toArray) => x.1⟩
    have hu : its[j]? = some u := by simpa using hu
    have hj : j < its.length := (List.getElem?_eq_some_iff.mp hu).1
    have hx : xs[j]? = some xs[j] := List.getElem?_eq_getElem (by omega)
    obtain ⟨u', e1, e2⟩ := rv.get hx
    rw [hu] at e1
    cases e1
    exact ⟨_, hx, e2⟩
  | T a =>
    obtain ⟨its, rv, p, _⟩ := I.tuple hs
    have hl := rv.length
    have D := Draws.tuple (prog := X.prog) (w := X.w) (A := X.A.in1) hh it a (fun e => hne (by simp [Zi.ads, e])) its.toArray
    refine ⟨fun i v => its.toArray[i]? = some v, fun i h => h.IsTupleIter it a i ∧ h.IsTuple a its.toArray, by rw [hl]; simpa [Zi.ads] using D, ⟨st, show s.heap.IsTuple a its.toArray from p⟩, fun j u hu => ?_, fun j h x => x.1⟩
    have hu : its[j]? = some u := by simpa using hu
    have hj : j < its.length := (List.getElem?_eq_some_iff.mp hu).1
    have hx : xs[j]? = some xs[j] := List.getElem?_eq_getElem (by omega)
    obtain ⟨u', e1, e2⟩ := rv.get hx
    rw [hu] at e1
    cases e1
    exact ⟨_, hx, e2⟩
  | S x =>
    obtain ⟨t, st⟩ := st
    have hs : xs = _ := hs
    subst hs
    have D := Draws.text (prog := X.prog) (w := X.w) (A := X.A.in1) hh it x t
    refine ⟨fun i v => ∃ c u, x.cps[i]? = some c ∧ v = .str ⟨#[c]⟩ u, fun i h => h.IsStrIter it (strIterType x) x t i, by simpa [Zi.ads] using D, st, fun j u ⟨c, tk, e, hu⟩ => ?_, fun j h y => ⟨t, y⟩⟩
    subst hu
    have e' : x.cps.toList[j]? = some c := by simpa using e
    exact ⟨.str ⟨#[c]⟩, by rw [List.getElem?_map, e']; rfl, tk, rfl⟩
end
theorem nea {a b : Nat} (h : a < b ∨ b < a) : a ≠ b := by omega
abbrev znT (z1 z2 : Zi) (n : Nat) (i : Nat) (h : Heap) : Prop := IsZip h (n + 4) (n + 2) (n + 3) .none ∧ IsPair h (n + 2) (.ref n) (.ref (n + 1)) ∧ (∃ x y, IsPair h (n + 3) x y) ∧ z1.at h n i ∧ z2.at h (n + 1) i
theorem zsep {z1 z2 : Zi} {n : Nat} (l1 : ∀ a ∈ z1.ads, a < n) (l2 : ∀ a ∈ z2.ads, a < n) : ZipSep2 (n + 4) (n + 2) (n + 3) n (n + 1) (n :: z1.ads) ((n + 1) :: z2.ads) := by
  have k1 : ∀ {j}, n ≤ j → j ∉ z1.ads := fun hj h => absurd hj (Nat.not_le_of_gt (l1 _ h))
  have k2 : ∀ {j}, n ≤ j → j ∉ z2.ads := fun hj h => absurd hj (Nat.not_le_of_gt (l2 _ h))
  constructor <;> simp <;> first | omega | exact k1 (by omega) | exact k2 (by omega) | exact ⟨nea (by omega), k1 (by omega)⟩ | exact ⟨nea (by omega), k2 (by omega)⟩ | exact nea (by omega)
theorem turn_zipZ {P : Program} {w : World} {K : PySem.W.Frag} {elts : List Expr} {kk : Nat} {tpos : Pos} {z1 z2 : Zi} {n : Nat} (l1 : ∀ a ∈ z1.ads, a < n) (l2 : ∀ a ∈ z2.ads, a < n) :
    Turn P w K (.Tuple elts kk tpos) (ItZ K z1 z2) [n + 4, n + 2, n + 3, n, n + 1] (n + 4) (znT z1 z2 n) where
  mem := by simp
  obj := fun i h st c hc => by
    obtain ⟨hz, hTI, ⟨x, y, hTO⟩, h1, h2⟩ := st
    have e' : c = n + 4 ∨ c = n + 2 ∨ c = n + 3 ∨ c = n ∨ c = n + 1 := by simpa using hc
    rcases e' with q | q | q | q | q
    · rw [q]; exact ⟨_, hz, fun v q => nomatch q⟩
    · rw [q]; exact ⟨_, hTI, fun v q => nomatch q⟩
    · rw [q]; exact ⟨_, hTO, fun v q => nomatch q⟩
    · rw [q]; exact Zi.obj (z := z1) h1
    · rw [q]; exact Zi.obj (z := z2) h2
  keep := fun i h h' st k => by
    obtain ⟨hz, hTI, ⟨x, y, hTO⟩, h1, h2⟩ := st
    exact ⟨k _ (by simp) _ hz, k _ (by simp) _ hTI, ⟨x, y, k _ (by simp) _ hTO⟩, Zi.keep (z := z1) h1 fun o q => k n (by simp) o q, Zi.keep (z := z2) h2 fun o q => k (n + 1) (by simp) o q⟩
  item := by
    intro X hP hw hK hc i pins s σ H E I hf st hg
    subst hP hw hK
    obtain ⟨hz, hTI, ⟨x0, y0, hTO⟩, h1, h2⟩ := st
    obtain ⟨xs, ys, x, y, hqx, hqy, hx, hy⟩ := hg
    have hh : X.A.in1.handled = none := I.ok.hd hc
    obtain ⟨P1, St1, D1, st1, r1, b1⟩ := Zi.draw hh I hqx h1 (fun h => Nat.lt_irrefl _ (l1 _ h))
    obtain ⟨P2, St2, D2, st2, r2, b2⟩ := Zi.draw hh I hqy h2 (fun h => Nat.not_le_of_gt (l2 _ h) (Nat.le_succ _))
    have S := zsep (z1 := z1) (z2 := z2) l1 l2
    have hzl : @LT.lt Nat _ (n + 4) s.heap.objs.size := Heap.lt_size hz
    refine wpAny_pyNext_zipD2_item S D1 D2 hz hTI hTO st1 st2 (List.getElem?_eq_some_iff.mp hx).1 (List.getElem?_eq_some_iff.mp hy).1 fun u u2 h' tk p1 p2 z' TO' h1' h2' hT hsz hk => ?_
    obtain ⟨x', ex, ru⟩ := r1 _ _ p1
    rw [hx] at ex
    cases ex
    obtain ⟨y', ey, ru2⟩ := r2 _ _ p2
    rw [hy] at ey
    cases ey
    refine ⟨_, rfl, wpAny_letOwnedTupleGo_zip (s := { s with heap := h', toks := tk }) z' fun h'' z'' sb => ?_⟩
    have hT2 : h''.get? s.heap.objs.size = some { cls := .type "tuple", data := .seq #[u, u2] } := (sb.2 _ (nea (by omega))).trans hT
    have new : ObjOk X.prog X.w (upd H s.heap.objs.size (.frz { cls := .type "tuple", data := .seq #[u, u2] } (.tup [x, y]))) h'' s.heap.objs.size (.frz { cls := .type "tuple", data := .seq #[u, u2] } (.tup [x, y])) :=
      ⟨hT2, by show 2 ≤ sizeLine; decide, [u, u2], .cons ru (.cons ru2 .nil), ⟨_, hT2, rfl, _, rfl⟩⟩
    have I1 : Inv X pins σ (upd H s.heap.objs.size (.frz { cls := .type "tuple", data := .seq #[u, u2] } (.tup [x, y]))) { s with heap := h'', toks := tk } :=
      I.turnedNew (t' := tk) (ch := [n + 4, n + 2, n + 3, n, n + 1]) (fun c o hb q => (sb.2 c (fun q' => hb (by simp [q']))).trans (hk c o (fun q' => hb (by simp [q'])) (fun q' => hb (by simp [q'])) (fun q' => hb (by simp [q'])) (fun q' => hb (by simp [q'])) q)) hf (Nat.le_refl _) new
    refine ⟨.ref s.heap.objs.size, _, I1, rfl, ⟨_, x, y, _, rfl, I.hok.fresh (Nat.le_refl _), rfl, rfl, fun l hl => by rw [Zi.inj I hl hqx]; exact hx, fun l hl => by rw [Zi.inj I hl hqy]; exact hy⟩, ⟨z'', ?_, ⟨u, u2, ?_⟩, ?_, ?_⟩, fun c hcm => ?_⟩
    · exact (sb.2 _ (nea (by omega))).trans (hk _ _ (nea (by omega)) (nea (by omega)) (nea (by omega)) (nea (by omega)) hTI)
    · exact (sb.2 _ (nea (by omega))).trans TO'
    · exact Zi.keep (z := z1) (b1 _ _ h1') fun o q => (sb.2 _ (nea (by omega))).trans q
    · exact Zi.keep (z := z2) (b2 _ _ h2') fun o q => (sb.2 _ (nea (by omega))).trans q
    · have hlt : c < s.heap.objs.size := by
        have e' : @Eq Nat c (n + 4) ∨ @Eq Nat c (n + 2) ∨ @Eq Nat c (n + 3) ∨ @Eq Nat c n ∨ @Eq Nat c (n + 1) := by simpa using hcm
        show @LT.lt Nat _ c _
        omega
      rw [upd_ne (Nat.ne_of_lt hlt)]
      exact (hf c hcm).1
  done := by
    intro X hP hw hK hc i pins s σ H E I hf st hg
    subst hP hw hK
    obtain ⟨hz, hTI, ⟨x0, y0, hTO⟩, h1, h2⟩ := st
    obtain ⟨xs, ys, hqx, hqy, hend⟩ := hg
    have hh : X.A.in1.handled = none := I.ok.hd hc
    obtain ⟨P1, St1, D1, st1, r1, b1⟩ := Zi.draw hh I hqx h1 (fun h => Nat.lt_irrefl _ (l1 _ h))
    obtain ⟨P2, St2, D2, st2, r2, b2⟩ := Zi.draw hh I hqy h2 (fun h => Nat.not_le_of_gt (l2 _ h) (Nat.le_succ _))
    have S := zsep (z1 := z1) (z2 := z2) l1 l2
    exact wpAny_pyNext_zipD2_end S D1 D2 hz hTI hTO st1 st2 (by rcases hend with ⟨a, b⟩ | ⟨a, b⟩ <;> omega) (by rcases hend with ⟨a, b⟩ | ⟨a, b⟩ <;> omega) (by rcases hend with ⟨a, b⟩ | ⟨a, b⟩ <;> simp [a]) fun h' tk hk => ⟨rfl, I.turnedL (t' := tk) (ch := [n + 4, n + 2, n + 3, n, n + 1]) (fun c o hb q =>
      hk c o (fun q' => hb (by simp [q'])) (fun q' => hb (by simp [q'])) (fun q' => hb (by simp [q'])) (fun q' => hb (by simp [q'])) q) hf⟩
  self := fun A i s Q E st h => wpAny_pyIter_zip st.1 h
/-- how the walk of each begins -/
def Zi.new (z : Zi) (u : Value) : Obj := match z with
  | .L a => { cls := .type "list_iterator", data := .fields #[.ref a, .int 0 0] }
  | .T a => { cls := .type "tuple_iterator", data := .fields #[.ref a, .int 0 0] }
  | .S x => { cls := .type (strIterType x), data := .fields #[u, .int 0 0] }
theorem Zi.begins {X : Cx} {pins : List (Addr × Obj)} {σ : L2.St} {H : Hp} {s : Shared} (I : Inv X pins σ H s) {z : Zi} {xs : List V} {u : Value} (hs : z.seq X.K H xs) (hu : RelV z.val u) :
    ∃ Hh, Begins u (z.new u) Hh ∧ Hh s.heap ∧ (∀ a ∈ z.ads, a < s.heap.objs.size) ∧ ∀ (h : Heap) it, h.get? it = some (z.new u) → z.at h it 0 := by
  cases z with
  | L a =>
    obtain rfl : u = .ref a := hu
    obtain ⟨its, rv, p, _⟩ := I.list hs
    refine ⟨_, begins_list a its.toArray, p.isList, fun b hb => ?_, fun h it e => ⟨_, e, rfl, rfl⟩⟩
    rw [List.mem_singleton.mp hb]
    exact p.lt
  | T a =>
    obtain rfl : u = .ref a := hu
    obtain ⟨its, rv, p, _⟩ := I.tuple hs
    refine ⟨_, begins_tuple a its.toArray, show s.heap.IsTuple a its.toArray from p, fun b hb => ?_, fun h it e => ⟨_, e, rfl, rfl⟩⟩
    rw [List.mem_singleton.mp hb]
    obtain ⟨o, ho, _⟩ := id p
    exact Heap.lt_size ho
  | S x =>
    obtain ⟨t, rfl⟩ := hu
    exact ⟨_, begins_text x t, trivial, fun b hb => by simp [Zi.ads] at hb, fun h it e => ⟨t, _, e, rfl, rfl⟩⟩
def iZipZ (K : PySem.W.Frag) (ta : TA) : TI := fun σ H R => ta σ H fun vs H1 => ∃ z1 z2 xs ys, vs = [Zi.val z1, Zi.val z2] ∧ z1.seq K H1 xs ∧ z2.seq K H1 ys ∧ (((∀ x, z1 ≠ .S x) → xs.length ≤ sizeLine) → R (ItZ K z1 z2) H1)
theorem pi_zipZ {X : Cx} {e e2 : Expr} {ta : TA} {p pos tpos : Pos} {elts : List Expr} {kk : Nat} (hg : Gl X "zip") (hm : X.mg "zip" = none) (ha : PA X [e, e2] ta)
    (hs : starEach [e, e2] X.env = (false, eval e X.env) :: starEach [e2] X.env := by rfl) (hpl : (backTo pos (starEach [e2] X.env)).any (·.1) = false := by rfl) :
    PI X (.Tuple elts kk tpos) (.Call (.Name "zip" p) [e, e2] [] pos) (iZipZ X.K ta) := by
  refine ⟨fun pins s σ H R I h => ?_⟩
  refine Call_ (ld_blt I hg hm PyProof.Rows.boot_zip (PyProof.Rows.callWith_type1 (thn (ha.run pos pins s σ H _ I h) fun us s1 ⟨vs, H1, I1, r1, q1⟩ => ?_) hs hpl))
  obtain ⟨z1, z2, xs, ys, ex, hq1, hq2, q⟩ := q1
  subst ex
  cases r1 with
  | cons r rr =>
    cases rr with
    | cons r' rr =>
      cases rr
      obtain ⟨Ha, B1, ha1, l1, n1⟩ := Zi.begins I1 hq1 r
      obtain ⟨Hb, B2, hb1, l2, n2⟩ := Zi.begins I1 hq2 r'
      refine zip_begins2 B1 B2 ha1 hb1 fun h' hz hTI hTO g1 g2 hsz hk => wpAny_pyIter_zip hz ?_
      have I2 : Inv X pins σ H1 { s1 with heap := h' } := I1.kept (t' := s1.toks) hk
      refine ⟨s1.heap.objs.size + 4, [s1.heap.objs.size + 4, s1.heap.objs.size + 2, s1.heap.objs.size + 3, s1.heap.objs.size, s1.heap.objs.size + 1], _, _, H1, rfl, I2, turn_zipZ l1 l2, ⟨hz, hTI, ⟨_, _, hTO⟩, n1 _ _ g1, n2 _ _ g2⟩, fun c hcm => ?_, q fun hz1 => ?_⟩
      rotate_left
      · cases z1 with
        | L a => exact lenL I1 hq1
        | T a => exact lenT I1 hq1
        | S x => exact absurd rfl (hz1 x)
      have e' : @Eq Nat c (s1.heap.objs.size + 4) ∨ @Eq Nat c (s1.heap.objs.size + 2) ∨ @Eq Nat c (s1.heap.objs.size + 3) ∨ @Eq Nat c s1.heap.objs.size ∨ @Eq Nat c (s1.heap.objs.size + 1) := by simpa using hcm
      have hle : @LE.le Nat _ s1.heap.objs.size c := by omega
      exact I1.fpOk hle (I1.hok.fresh hle)
section
variable {X : Cx} {sc : SC} {κ : Kx} {Φ : Fn} {Wx : L2.WX} {pos : Pos}
theorem zi_of {as : List Addr} {H : Hp} {w : W} {v : V} {xs : List D} (r : IsE κ as H w v) (e : zipI w = some xs) : ∃ z : Zi, v = z.val ∧ ((∃ x, z = .S x) → xs.length ≤ sizeLine) ∧ ∃ ad : List Addr, (∀ a ∈ ad, a ∉ as ∧ H a ≠ none) ∧ ((∃ d, w = .d d) → ad = []) ∧
    ∀ as' H', Pre as as' → Imm H H' → (∀ a ∈ ad, H' a = H a) → ∃ vs, z.seq κ.K H' vs ∧ IsDs κ as' H' xs vs := by
  cases w with
  | own c =>
    obtain ⟨l, rfl, nl, rc⟩ := r
    cases c with
    | lst ys =>
      have e2 : ys = xs := by injection e
      subst e2
      obtain ⟨vs, h1, h2⟩ := rc
      refine ⟨.L l, rfl, fun ⟨_, q⟩ => (by cases q), [l], fun a ha => ?_, fun ⟨d, z⟩ => (by cases z), fun as' H' pr im kp => ⟨vs, .inl (.inl ((kp l List.mem_cons_self).trans h1)), h2.mono pr im⟩⟩
      rw [List.mem_singleton.mp ha]
      exact ⟨nl, by rw [h1]; simp⟩
    | _ => cases e
  | d x0 =>
    have rD : IsD κ as H x0 v := r
    cases x0 with
    | lst ys =>
      have e2 : ys = xs := by injection e
      subst e2
      obtain ⟨l, vs, rfl, h1, h2⟩ := rD
      exact ⟨.L l, rfl, fun ⟨_, q⟩ => (by cases q), [], by simp, fun _ => rfl, fun as' H' pr im kp => ⟨vs, .inl (im.frz h1).rd, h2.mono pr im⟩⟩
    | tup ys =>
      have e2 : ys = xs := by injection e
      subst e2
      obtain ⟨l, vs, rfl, h1, h2⟩ := rD
      exact ⟨.T l, rfl, fun ⟨_, q⟩ => (by cases q), [], by simp, fun _ => rfl, fun as' H' pr im kp => ⟨vs, im.sqT h1.sq, h2.mono pr im⟩⟩
    | str z =>
      have e2 : (z.map fun c => D.str [c]) = xs := by injection e
      subst e2
      obtain ⟨rfl, hz⟩ := rD
      refine ⟨.S (tx z), rfl, fun _ => by rw [List.length_map]; exact szOk_of hz, [], by simp, fun _ => rfl, fun as' H' pr im kp => ⟨_, rfl, ?_⟩⟩
      have go : ∀ z : Nm, (∀ c ∈ z, True) → IsDs κ as' H' (z.map fun c => D.str [c]) (z.map fun c => V.str ⟨#[c]⟩) := fun z => by
        induction z with
        | nil => intro _; trivial
        | cons c z ih => intro h; exact ⟨⟨rfl, rfl⟩, ih fun _ _ => trivial⟩
      have := go z fun _ _ => trivial
      simpa [tx] using this
    | _ => cases e
theorem pi_zip (ok : CxOk X sc κ Φ) {e e2 : Expr} {p tpos : Pos} {elts : List Expr} {kk : Nat} {ms : Env → Sto → R (List W)} (hg : glB sc "zip" = true) (he : nostar e = true) (he2 : nostar e2 = true) (ha : PA X [e, e2] (rdWs κ Wx ms)) (h1 : ∀ ρ S ws S', ms ρ S = .ok ws S' → ws.length = 2) :
    PI X (.Tuple elts kk tpos) (.Call (.Name "zip" p) [e, e2] [] pos) (rdI κ Wx .zip ms) := by
  have := pi_zipZ (elts := elts) (kk := kk) (tpos := tpos) (p := p) (pos := pos) (ok.gl hg) (ok.blt "zip" (by decide)) ha (star_cons he) (by rw [star_cons he2]; rfl)
  refine ⟨fun pins s σ H Rr I ⟨as, H0, ρ, S, rs, hS, w⟩ => this.run pins s σ H Rr I ?_⟩
  have w0 : Out (ms ρ S) (fun ws S1 => ws.length = 2 ∧ ∃ ds, srcD .zip ws S1 = some ds ∧ ∀ as1 H1 J, Step as H as1 H1 → RepS κ as1 H1 S1 → ItsOk κ J as1 H1 ws S1 ds → Rr J H1) (kX κ as H σ Wx) := by
    cases q : ms ρ S with
    | ok ds S' => rw [q] at w; exact ⟨h1 ρ S ds S' q, w⟩
    | exc e S' => rw [q] at w; exact w
    | bad => rw [q] at w; exact w
  refine rdWs.mk rs hS w0 fun ws S1 as1 H1 vs ⟨hl, ds, e, k⟩ st1 r1 hS1 => ?_
  match ws, hl with
  | [w, w'], _ =>
    cases vs with
    | nil => exact r1.elim
    | cons v vs =>
      cases vs with
      | nil => exact r1.2.elim
      | cons v' vs => cases vs with
        | cons _ _ => exact r1.2.2.elim
        | nil =>
          have e' : ((zipI w).bind fun xs => (zipI w').map fun ys => List.zipWith (fun a b => D.tup [a, b]) xs ys) = some ds := e
          cases q1 : zipI w with
          | none => rw [q1] at e'; cases e'
          | some xs =>
            cases q2 : zipI w' with
            | none => rw [q1, q2] at e'; cases e'
            | some ys =>
              rw [q1, q2] at e'
              have e' : List.zipWith (fun a b => D.tup [a, b]) xs ys = ds := by injection e'
              subst e'
              obtain ⟨z1, rfl, b1, ad1, n1, o1, g1⟩ := zi_of r1.1 q1
              obtain ⟨z2, rfl, b2, ad2, n2, o2, g2⟩ := zi_of r1.2.1 q2
              obtain ⟨us, hs1, hd1⟩ := g1 as1 H1 (fun _ _ h => h) Imm.refl fun _ _ => rfl
              obtain ⟨ts, hs2, hd2⟩ := g2 as1 H1 (fun _ _ h => h) Imm.refl fun _ _ => rfl
              rw [ok.hκ] at hs1 hs2
              refine ⟨z1, z2, us, ts, rfl, hs1, hs2, fun hb => k as1 H1 _ st1 hS1 ?_⟩
              have hlen : xs.length ≤ sizeLine := by
                cases z1 with
                | L a => rw [hd1.length]; exact hb fun x h => by cases h
                | T a => rw [hd1.length]; exact hb fun x h => by cases h
                | S x => exact b1 ⟨x, rfl⟩
              refine ⟨by rw [List.length_zipWith]; omega, ad1 ++ ad2, fun a ha => (List.mem_append.mp ha).elim (n1 a) (n2 a), fun h => by rw [o1 (h w (by simp)), o2 (h w' (by simp))]; rfl, fun as' H' S' pr im kp hS' g => ?_⟩
              obtain ⟨us, hs1, hd1⟩ := g1 as' H' pr im fun a ha => kp a (List.mem_append_left _ ha)
              obtain ⟨ts, hs2, hd2⟩ := g2 as' H' pr im fun a ha => kp a (List.mem_append_right _ ha)
              rw [ok.hκ] at hs1 hs2
              have l1 := hd1.length
              have l2 := hd2.length
              refine ⟨fun i hi => ?_, ⟨us, ts, hs1, hs2, by rw [List.length_zipWith]; omega⟩, fun i x H'' d y e => ?_⟩
              · rw [List.length_zipWith] at hi
                exact ⟨us, ts, us[i]'(by omega), ts[i]'(by omega), hs1, hs2, List.getElem?_eq_getElem _, List.getElem?_eq_getElem _⟩
              · obtain ⟨T, a, b, o, rfl, hT, ho, rfl, f1, f2⟩ := y
                have i1 := f1 us hs1
                have i2 := f2 ts hs2
                rw [List.getElem?_zipWith] at e
                cases p1 : xs[i]? with
                | none => rw [p1] at e; cases e
                | some c =>
                  cases p2 : ys[i]? with
                  | none => rw [p1, p2] at e; cases e
                  | some c' =>
                    rw [p1, p2] at e
                    have e : D.tup [c, c'] = d := by injection e
                    subst e
                    obtain ⟨v1, e1, e2⟩ := hd1.get p1
                    obtain ⟨v2, e3, e4⟩ := hd2.get p2
                    rw [i1] at e1
                    cases e1
                    rw [i2] at e3
                    cases e3
                    have im2 : Imm H' (upd H' T (.frz o (.tup [a, b]))) := Imm.new hT
                    exact ⟨⟨T, [a, b], rfl, ⟨.inl (.inr ⟨o, upd_same⟩), .inl ⟨o, _, upd_same, ho⟩⟩, mono_at (fun _ _ h => h) im2 e2, mono_at (fun _ _ h => h) im2 e4, trivial⟩, Step.new hT, RepS.new hT hS'⟩
/-- what enumerate walks, but dicts -/
def enumL : W → Option (List D)
  | .d (.lst xs) => some xs
  | .d (.tup xs) => some xs
  | .own (.lst xs) => some xs
  | _ => none
theorem li_of {as : List Addr} {H : Hp} {w : W} {v : V} {xs : List D} (r : IsE κ as H w v) (e : enumL w = some xs) : ∃ z : Zi, v = z.val ∧ (∀ x, z ≠ .S x) ∧ ∃ ad : List Addr, (∀ a ∈ ad, a ∉ as ∧ H a ≠ none) ∧ ((∃ d, w = .d d) → ad = []) ∧
    ∀ as' H', Pre as as' → Imm H H' → (∀ a ∈ ad, H' a = H a) → ∃ vs, z.seq κ.K H' vs ∧ IsDs κ as' H' xs vs := by
  have e2 : zipI w = some xs := by
    cases w with
    | own c => cases c <;> first | exact e | cases e
    | d x => cases x <;> first | exact e | cases e
  have ns : ∀ y, w ≠ .d (.str y) := fun y q => by rw [q] at e; cases e
  obtain ⟨z, rfl, _, ad, n1, o1, g1⟩ := zi_of r e2
  refine ⟨z, rfl, fun x q => ?_, ad, n1, o1, g1⟩
  subst q
  cases w with
  | own c =>
    obtain ⟨l, q, _⟩ := r
    cases q
  | d x0 =>
    have rD : IsD κ as H x0 (.str x) := r
    cases x0 with
    | lst ys => obtain ⟨_, _, q, _⟩ := rD; cases q
    | tup ys => obtain ⟨_, _, q, _⟩ := rD; cases q
    | str y => exact ns y rfl
    | _ => cases e
/-- enumerate's walk: plain pairs -/
def IteP (K : PySem.W.Frag) (z : Zi) : It :=
  ⟨fun i H => ∃ (xs : List V) (x : V), z.seq K H xs ∧ xs[i]? = some x, fun i H v H' => ∃ T x o, v = .ref T ∧ H T = none ∧ o.dict = none ∧ H' = upd H T (.frz o (.tup [.int (i : Nat), x])) ∧ ∀ xs, z.seq K H xs → xs[i]? = some x, fun i H => ∃ xs : List V, z.seq K H xs ∧ xs.length = i⟩
theorem turn_enumP {P : Program} {w : World} {K : PySem.W.Frag} {elts : List Expr} {kk : Nat} {tpos : Pos} {z : Zi} {n : Nat} (lz : ∀ a ∈ z.ads, a < n) :
    Turn P w K (.Tuple elts kk tpos) (IteP K z) [n + 1, n] (n + 1) (fun i h => (∃ old, IsEnum h (n + 1) n ((i : Nat) : Int) old) ∧ z.at h n i) where
  mem := by simp
  obj := fun i h st b hb => by
    obtain ⟨⟨old, he⟩, hi⟩ := st
    have two : b = n + 1 ∨ b = n := by simpa using hb
    rcases two with q | q
    · rw [q]; exact ⟨_, he, fun v q2 => nomatch q2⟩
    · rw [q]; exact Zi.obj (z := z) hi
  keep := fun i h h' st k => by
    obtain ⟨⟨old, he⟩, hi⟩ := st
    exact ⟨⟨old, k _ (by simp) _ he⟩, Zi.keep (z := z) hi fun o q => k n (by simp) o q⟩
  item := by
    intro X eP ew eK hc i pins s σ H E I hf st hg
    subst eP ew eK
    obtain ⟨⟨old, he⟩, hit⟩ := st
    obtain ⟨xs, x, hq, hx⟩ := hg
    have nz : n ∉ z.ads := fun h => Nat.lt_irrefl _ (lz _ h)
    obtain ⟨P1, St1, D1, st1, r1, b1⟩ := Zi.draw (I.ok.hd hc) I hq hit nz
    have le : @LT.lt Nat _ (n + 1) s.heap.objs.size := Heap.lt_size he
    have ne1 : @Ne Nat (n + 1) n := Nat.succ_ne_self n
    have nf : n + 1 ∉ n :: z.ads := fun h => by
      rcases List.mem_cons.mp h with q | q
      · exact ne1 q
      · exact Nat.not_le_of_gt (lz _ q) (Nat.le_succ n)
    refine wpAny_pyNext_enum_itemD D1 he st1 (List.getElem?_eq_some_iff.mp hx).1 ne1 nf fun u h1 tk pu ho hs1 hT hsz hk => ?_
    obtain ⟨x', ex, ru⟩ := r1 _ _ pu
    rw [hx] at ex
    cases ex
    refine ⟨_, rfl, wpAny_letOwnedTupleGo_enum (s := { s with heap := h1, toks := tk + 1 }) ho fun h2 he2 sb => ?_⟩
    have hT2 : h2.get? s.heap.objs.size = some { cls := .type "tuple", data := .seq #[.int i tk, u] } := (sb.2 _ (Nat.ne_of_gt le)).trans hT
    have new : ObjOk X.prog X.w (upd H s.heap.objs.size (.frz { cls := .type "tuple", data := .seq #[.int i tk, u] } (.tup [.int (i : Nat), x]))) h2 s.heap.objs.size (.frz { cls := .type "tuple", data := .seq #[.int i tk, u] } (.tup [.int (i : Nat), x])) :=
      ⟨hT2, by show 2 ≤ sizeLine; decide, [.int i tk, u], .cons ⟨_, rfl⟩ (.cons ru .nil), ⟨_, hT2, rfl, _, rfl⟩⟩
    have I1 : Inv X pins σ (upd H s.heap.objs.size (.frz { cls := .type "tuple", data := .seq #[.int i tk, u] } (.tup [.int (i : Nat), x]))) { s with heap := h2, toks := tk + 1 } :=
      I.turnedNew (t' := tk + 1) (ch := [n + 1, n]) (fun b ob nb q => (sb.2 b (fun y => nb (by simp [y]))).trans (hk b ob (fun y => nb (by simp [y])) (fun y => nb (by simp [y])) q)) hf (Nat.le_refl _) new
    refine ⟨.ref s.heap.objs.size, _, I1, rfl, ⟨_, x, _, rfl, I.hok.fresh (Nat.le_refl _), rfl, rfl, fun ys hy => by rw [Zi.inj I hy hq]; exact hx⟩, ⟨⟨u, ?_⟩, Zi.keep (z := z) (b1 _ _ hs1) fun o q => (sb.2 n ne1.symm).trans q⟩, fun b hb => ?_⟩
    · have e1 : ((i + 1 : Nat) : Int) = (i : Int) + 1 := by omega
      rw [e1]; exact he2
    · have lb : b < s.heap.objs.size := by
        have two : @Eq Nat b (n + 1) ∨ @Eq Nat b n := by simpa using hb
        show @LT.lt Nat _ b _
        omega
      rw [upd_ne (Nat.ne_of_lt lb)]
      exact (hf b hb).1
  done := by
    intro X eP ew eK hc i pins s σ H E I hf st hg
    subst eP ew eK
    obtain ⟨⟨old, he⟩, hit⟩ := st
    obtain ⟨xs, hq, hx⟩ := hg
    have nz : n ∉ z.ads := fun h => Nat.lt_irrefl _ (lz _ h)
    obtain ⟨P1, St1, D1, st1, r1, b1⟩ := Zi.draw (I.ok.hd hc) I hq hit nz
    obtain ⟨f0, f1, f2, f3, f4, f5⟩ := hf n (by simp)
    subst hx
    exact wpAny_pyNext_enum_endD D1 he st1 fun h' eb => ⟨rfl, I.turned (t' := s.toks) (fun b o nb q => eb b o nb q) f0 f1 f3 f4 f5⟩
  self := fun A i s Q E st h => by
    obtain ⟨⟨old, he⟩, _⟩ := st
    exact wpAny_pyIter_enum he h
set_option maxHeartbeats 1000000 in
theorem meets_enumB {v : Value} {o : Obj} {Hh : Heap → Prop} (B : Begins v o Hh) :
    Meets (Builtin.«enumerate.__new__» ⟨[.type "enumerate", v], []⟩) (fun _ R s => Hh s.heap ∧
      R (.ok (.ret (.ref (s.heap.push o).objs.size))) { s with heap := (s.heap.push o).push { cls := .type "enumerate", data := .fields #[.none, .bool false, .ref s.heap.objs.size, rawInt 0, .none, .none] } }) :=
  .of_wp fun prog w A R s h => by
    obtain ⟨hp, gl, ds, tk, os⟩ := s
    obtain ⟨h1, h⟩ := h
    have sb := sub_enumerate
    have it0 : ∀ {A' : Around} {E : Value → Shared → Prop} {Q : Value → Shared → Prop}, Q (.ref hp.objs.size) ⟨hp.push o, gl, ds, tk, os⟩ → wpAny (model prog w) A' (pyIter v) Q E ⟨hp, gl, ds, tk, os⟩ :=
      fun q => B.iter prog w _ _ ⟨hp, gl, ds, tk, os⟩ _ h1 q
    wp_walk using it0
    refine wpAny_stack_any (fun _ => wpAny_pure ?_)
    split
    · rename_i c _ _ _ _ _
      cases c == Value.type "enumerate"
      all_goals (wp_walk using it0; exact ⟨_, rfl, h⟩)
    · wp_walk using it0
      exact ⟨_, rfl, h⟩
theorem call_enumB {prog : Program} {w : World} {A : Around} {E : Value → Shared → Prop} {s : Shared} {v : Value} {o : Obj} {Hh : Heap → Prop} {Q : Value → Shared → Prop} (B : Begins v o Hh) (h1 : Hh s.heap)
    (h : ∀ h', IsEnum h' (s.heap.objs.size + 1) s.heap.objs.size 0 .none → h'.get? s.heap.objs.size = some o → h'.objs.size = s.heap.objs.size + 2 → (∀ b x, s.heap.get? b = some x → h'.get? b = some x) → Q (.ref (s.heap.objs.size + 1)) { s with heap := h' }) :
    wpAny (model prog w) A (PySem.call (.type "enumerate") [v]) Q E s := by
  refine callType_new F.called_enumerate (by decide) (F.typeCall_enumerate_1 _) (F.newCall_enumerate_1 _) (fun ob => F.args_object_init_2 ob _) F.entry_enumerate_new (meets_enumB B) ⟨h1, ?_⟩
  have sz : (s.heap.push o).objs.size = s.heap.objs.size + 1 := Heap.size_push ..
  have en : IsEnum ((s.heap.push o).push { cls := .type "enumerate", data := .fields #[.none, .bool false, .ref s.heap.objs.size, rawInt 0, .none, .none] }) (s.heap.objs.size + 1) s.heap.objs.size 0 .none := by
    have g := Heap.get?_push_size (s.heap.push o) (o := { cls := .type "enumerate", data := .fields #[.none, .bool false, .ref s.heap.objs.size, rawInt 0, .none, .none] }) rfl
    rw [sz] at g
    exact g
  show _ ∧ _
  rw [sz]
  exact ⟨⟨_, en, rfl⟩, h _ en (Heap.get?_push_of_some _ (Heap.get?_push_size _ B.free)) (by rw [Heap.size_push, sz]) fun b x q => Heap.get?_push_of_some _ (Heap.get?_push_of_some _ q)⟩
def iEnumL (K : PySem.W.Frag) (ta : TA) : TI := fun σ H R => ta σ H fun vs H1 => ∃ (z : Zi) (xs : List V), vs = [z.val] ∧ (∀ x, z ≠ .S x) ∧ z.seq K H1 xs ∧ (xs.length ≤ sizeLine → R (IteP K z) H1)
theorem pi_enumL {X : Cx} {e : Expr} {ta : TA} {p pos tpos : Pos} {elts : List Expr} {kk : Nat} (hg : Gl X "enumerate") (hm : X.mg "enumerate" = none) (ha : PA X [e] ta) (hs : starEach [e] X.env = [(false, eval e X.env)] := by rfl) :
    PI X (.Tuple elts kk tpos) (.Call (.Name "enumerate" p) [e] [] pos) (iEnumL X.K ta) := by
  refine ⟨fun pins s σ H R I h => ?_⟩
  refine Call_ (ld_blt I hg hm boot_enumerate (PyProof.Rows.callWith_type1 (thn (ha.run pos pins s σ H _ I h) fun us s1 ⟨vs, H1, I1, r1, q1⟩ => ?_) hs rfl))
  obtain ⟨z, xs, ex, nS, hq, q⟩ := q1
  subst ex
  cases r1 with
  | cons r rr =>
    cases rr
    obtain ⟨Ha, B, hb, lz, nw⟩ := Zi.begins I1 hq r
    have ln : xs.length ≤ sizeLine := by
      cases z with
      | L a => exact lenL I1 hq
      | T a => exact lenT I1 hq
      | S x => exact absurd rfl (nS x)
    refine call_enumB B hb fun h' he g1 hsz hk => wpAny_pyIter_enum he ?_
    have I2 : Inv X pins σ H1 { s1 with heap := h' } := I1.kept (t' := s1.toks) hk
    refine ⟨s1.heap.objs.size + 1, [s1.heap.objs.size + 1, s1.heap.objs.size], _, _, H1, rfl, I2, turn_enumP lz, ⟨⟨.none, he⟩, nw _ _ g1⟩, fun b hb2 => ?_, q ln⟩
    have two : @Eq Nat b (s1.heap.objs.size + 1) ∨ @Eq Nat b s1.heap.objs.size := by simpa using hb2
    have hle : @LE.le Nat _ s1.heap.objs.size b := by omega
    exact I1.fpOk hle (I1.hok.fresh hle)
end
end Ev
set_option maxHeartbeats 4000000
/-! Ev, part 10c: enumerate of a dict's keys (a dict that never changes). -/
namespace Ev
open PySem PySem.Spec PyProof.Rows L2
section
variable {prog : Program} {w : World} {A : Around} {E : Value → Shared → Prop} {s : Shared}
variable {K : Type} [DecidableEq K] {knd : KeyKind prog w K}
theorem draw_key {it d : Addr} {i ep : Nat} {kvs : List (K × Value)} {k : K} {v : Value} {Q : Value → Shared → Prop} (q0 : s.heap.IsKeyIter it d i kvs.length ep)
    (m0 : s.heap.DictAt knd d kvs ep) (x0 : kvs[i]? = some (k, v))
    (Q0 : ∀ key h', knd.is k key = true → h'.IsKeyIter it d (i + 1) kvs.length ep → Heap.SameBut it s.heap h' → Q key { s with heap := h' }) :
    wpAny (model prog w) A (Builtin.SmallTypes.nextOf (.ref it)) Q E s := by
  obtain ⟨o1, c1, c2, c3⟩ := id q0
  obtain ⟨od, es, g1, g2, g3, g4, g5, g6⟩ := id m0
  have tI := q0.typeIs
  unfold Builtin.SmallTypes.nextOf
  refine wpAny_bind (wpAny_callSpecial?_slot (name := Str.ofString "__next__") tI F.slot_dict_keyiterator_next (wpAny_call_entry F.slot_dict_keyiterator_next tI F.entry_dict_keyiterator_next ?_ (F.args_dict_keyiterator_next_1 _)))
  refine wpAny_bind (wpAny_pure ?_); refine wpAny_bind ?_; refine wpAny_bind ?_
  first | refine wpAny_bind (wpAny_typeNameOfWhole_keyiter tI (wpAny_pure ?_)) | refine wpAny_bind (wpAny_typeNameOf_keyiter tI (wpAny_pure ?_))
  refine wpAny_bind (wpAny_fieldsOf c1 c3 ?_)
  have e1 : Builtin.Dict_items.ownsTuple "dict_keyiterator" = false := by decide
  simp only [e1, Bool.false_eq_true, if_false]
  show wpAny _ _ (if (Value.ref d == Value.none) = true then _ else _) _ _ (id s)
  rw [if_neg (show ¬ ((Value.ref d == Value.none) = true) from fun c => Bool.false_ne_true c)]
  refine wpAny_bind (wpAny_pure ?_); refine wpAny_bind (wpAny_dictEntries g1 g3 ?_)
  have e2 : es.size = kvs.length := by rw [← g5.length]; simp
  rw [if_neg (by rw [e2]; simp)]
  refine wpAny_bind (wpAny_pure ?_); refine wpAny_bind (wpAny_dictEpoch g1 g3 ?_)
  rw [if_neg (by simp)]
  refine wpAny_pure ?_
  have l1 : i < kvs.length := (List.getElem?_eq_some_iff.mp x0).1
  have l2 : i < es.size := by omega
  have hk : knd.is k es[i].key = true := (g5.get? (e := es[i]) (by simp [l2]) x0).1
  simp only [show ¬ ((i : Int) < 0) from by omega, if_false, Int.toNat_natCast, Array.getElem?_eq_getElem l2]
  refine wpAny_bind ?_
  first | refine wpAny_bind (wpAny_typeNameOfWhole_keyiter tI (wpAny_pure ?_)) | refine wpAny_bind (wpAny_typeNameOf_keyiter tI (wpAny_pure ?_))
  refine wpAny_bind (wpAny_isOneOf_keyiter tI ?_)
  show wpAny _ _ (setField (.ref it) 1 (rawInt ((i : Int) + 1)) >>= _) _ _ (id s)
  refine wpAny_bind (wpAny_setField c1 c3 (by simp) ?_)
  have h1 : (s.heap.update it (Obj.mapFields (·.setIfInBounds 1 (rawInt ((i : Int) + 1))))).IsKeyIter it d (i + 1) kvs.length ep := ⟨_, Heap.get?_update_self _ c1 (Obj.isFreed_of_fields (Obj.data_mapFields c3 _)), (Obj.cls_mapFields ..).trans c2, by rw [Obj.data_mapFields c3]; simp [rawInt]⟩
  refine wpAny_bind (wpAny_holding ?_)
  refine wpAny_bind (wpAny_isOneOf_keyiter (s := { s with heap := s.heap.update it (Obj.mapFields (·.setIfInBounds 1 (rawInt ((i : Int) + 1)))) }) h1.typeIs ?_)
  show wpAny _ _ (pure (es[i]).key) _ _ _
  exact wpAny_pure (wpAny_pure ⟨_, rfl, wpAny_pure (Q0 _ _ hk h1 (Heap.SameBut.update ..))⟩)
theorem draw_keyEnd {it d : Addr} {i ep : Nat} {kvs : List (K × Value)} {Q : Value → Shared → Prop} (hh : A.handled = none) (q0 : s.heap.IsKeyIter it d i kvs.length ep)
    (m0 : s.heap.DictAt knd d kvs ep) (x0 : kvs.length ≤ i)
    (E0 : ∀ h' e, Heap.ExtBut it s.heap h' → (∃ o, h'.get? e = some o ∧ o.cls = .type "StopIteration") → E (.ref e) { s with heap := h' }) :
    wpAny (model prog w) A (Builtin.SmallTypes.nextOf (.ref it)) Q E s := by
  obtain ⟨o1, c1, c2, c3⟩ := id q0
  obtain ⟨od, es, g1, g2, g3, g4, g5, g6⟩ := id m0
  have tI := q0.typeIs
  unfold Builtin.SmallTypes.nextOf
  refine wpAny_bind (wpAny_callSpecial?_slot (name := Str.ofString "__next__") tI F.slot_dict_keyiterator_next (wpAny_call_entry F.slot_dict_keyiterator_next tI F.entry_dict_keyiterator_next ?_ (F.args_dict_keyiterator_next_1 _)))
  refine wpAny_bind (wpAny_pure ?_); refine wpAny_bind ?_; refine wpAny_bind ?_
  first | refine wpAny_bind (wpAny_typeNameOfWhole_keyiter tI (wpAny_pure ?_)) | refine wpAny_bind (wpAny_typeNameOf_keyiter tI (wpAny_pure ?_))
  refine wpAny_bind (wpAny_fieldsOf c1 c3 ?_)
  have e1 : Builtin.Dict_items.ownsTuple "dict_keyiterator" = false := by decide
  simp only [e1, Bool.false_eq_true, if_false]
  show wpAny _ _ (if (Value.ref d == Value.none) = true then _ else _) _ _ (id s)
  rw [if_neg (show ¬ ((Value.ref d == Value.none) = true) from fun c => Bool.false_ne_true c)]
  refine wpAny_bind (wpAny_pure ?_); refine wpAny_bind (wpAny_dictEntries g1 g3 ?_)
  have e2 : es.size = kvs.length := by rw [← g5.length]; simp
  rw [if_neg (by rw [e2]; simp)]
  refine wpAny_bind (wpAny_pure ?_); refine wpAny_bind (wpAny_dictEpoch g1 g3 ?_)
  rw [if_neg (by simp)]
  refine wpAny_pure ?_
  have l2 : es.size ≤ i := by omega
  simp only [show ¬ ((i : Int) < 0) from by omega, if_false, Int.toNat_natCast, Array.getElem?_eq_none l2]
  refine wpAny_bind ?_
  first | refine wpAny_bind (wpAny_typeNameOfWhole_keyiter tI (wpAny_pure ?_)) | refine wpAny_bind (wpAny_typeNameOf_keyiter tI (wpAny_pure ?_))
  show wpAny _ _ (setField (.ref it) 0 .none >>= _) _ _ (id s)
  refine wpAny_bind (wpAny_setField c1 c3 (by simp) ?_)
  show wpAny _ _ (newExc (.type "StopIteration") [] >>= _) _ _ (id _)
  refine wpAny_bind ?_; simp only [newExc, newTuple]; refine wpAny_bind (wpAny_newObj_type ?_ (by size_fits))
  refine wpAny_bind (m := firstArgMember _ _) (wpAny_of_eq (a := Value.none) (by first | rfl | simp only [firstArgMember] <;> rfl) ?_)
  refine wpAny_newObj_type ?_ (by size_fits); simp only [raiseNew]; refine wpAny_bind (wpAny_handled ?_)
  first | rw [show A.in1.handled = none from hh] | rw [id hh]
  refine wpAny_bind (wpAny_pure (wpAny_throw ?_))
  exact E0 _ _ (((Heap.SameBut.update ..).extBut.push _).push _) ⟨_, Heap.get?_push_size _ rfl, rfl⟩
theorem draws_keys (hh : A.handled = none) (it d : Addr) (hne : d ≠ it) (kvs : List (K × Value)) (ep : Nat) :
    Draws prog w A it [it, d] kvs.length (fun i v => ∃ k x, kvs[i]? = some (k, x) ∧ knd.is k v = true) (fun i h => h.IsKeyIter it d i kvs.length ep ∧ h.DictAt knd d kvs ep) where
  live := fun _ _ st => let ⟨o, ho, _⟩ := st.1; ⟨o, ho⟩
  frame := fun _ _ _ st hk => ⟨st.1.at fun o e => hk it (by simp) o e, st.2.at' fun o e => hk d (by simp) o e⟩
  item := fun i s Q E hi st hQ => by
    obtain ⟨⟨k, x⟩, hx⟩ : ∃ p, kvs[i]? = some p := ⟨kvs[i], List.getElem?_eq_getElem hi⟩
    refine draw_key st.1 st.2 hx fun key h' hkey a b => ?_
    exact hQ key h' s.toks ⟨k, x, hx, hkey⟩ ⟨a, st.2.extBut b.extBut hne⟩ b
  done := fun s Q E st hE => draw_keyEnd hh st.1 st.2 (Nat.le_refl _) hE
end
/-- enumerate's walk of a dict's keys -/
def IteD (d : Addr) (o : Obj) (kvs : List (Key × V)) : It :=
  ⟨fun i H => H d = some (.frz o (.dK kvs)) ∧ i < kvs.length, fun i H v H' => ∃ T k x ot, v = .ref T ∧ H T = none ∧ ot.dict = none ∧ H' = upd H T (.frz ot (.tup [.int (i : Nat), kV k])) ∧ kvs[i]? = some (k, x), fun i H => H d = some (.frz o (.dK kvs)) ∧ kvs.length = i⟩
theorem turn_enumD {P : Program} {w : World} {K : PySem.W.Frag} {elts : List Expr} {kk : Nat} {tpos : Pos} {d : Addr} {o : Obj} {kvs : List (Key × V)} {es : Array DictEntry} {ep : Nat} {n : Nat} (hod : o.data = .dict es ep) (ld : d < n) :
    Turn P w K (.Tuple elts kk tpos) (IteD d o kvs) [n + 1, n] (n + 1) (fun i h => (∃ old, IsEnum h (n + 1) n ((i : Nat) : Int) old) ∧ h.IsKeyIter n d i kvs.length ep) where
  mem := by simp
  obj := fun i h st b hb => by
    obtain ⟨⟨old, he⟩, hi⟩ := st
    have two : b = n + 1 ∨ b = n := by simpa using hb
    rcases two with q | q
    · rw [q]; exact ⟨_, he, fun v q2 => nomatch q2⟩
    · rw [q]
      obtain ⟨oi, e, c, dd⟩ := hi
      exact ⟨oi, e, fun v z => by rw [dd] at z; cases z⟩
  keep := fun i h h' st k => by
    obtain ⟨⟨old, he⟩, hi⟩ := st
    exact ⟨⟨old, k _ (by simp) _ he⟩, hi.at fun o q => k n (by simp) o q⟩
  item := by
    intro X eP ew eK hc i pins s σ H E I hf st hg
    subst eP ew eK
    obtain ⟨⟨old, he⟩, hit⟩ := st
    obtain ⟨hd, hi⟩ := hg
    obtain ⟨hs, hgd, hx, es', ep', vs, hdt, hsz, kv, hm⟩ := I.frzK hd
    obtain ⟨rfl, rfl⟩ := dict_ep hod hdt
    obtain ⟨⟨k, v⟩, hkv⟩ : ∃ p, kvs[i]? = some p := ⟨kvs[i], List.getElem?_eq_getElem hi⟩
    obtain ⟨u0, hu, ru⟩ := kv_get kv hkv
    have hl : kvs.length = vs.length := Paired.length kv
    rw [hl] at hit
    have nd : d ≠ n := fun e => Nat.lt_irrefl n (by rw [e] at ld; exact ld)
    have D1 := draws_keys (knd := mixKind X.prog X.w) (prog := X.prog) (w := X.w) (A := X.A.in1) (I.ok.hd hc) n d nd vs ep'
    have le : @LT.lt Nat _ (n + 1) s.heap.objs.size := Heap.lt_size he
    have ne1 : @Ne Nat (n + 1) n := Nat.succ_ne_self n
    have nf : n + 1 ∉ [n, d] := fun h => by
      rcases List.mem_cons.mp h with q | q
      · exact ne1 q
      · have q : n + 1 = d := by simpa using q
        rw [← q] at ld
        exact Nat.not_le_of_gt ld (Nat.le_succ n)
    refine wpAny_pyNext_enum_itemD D1 he ⟨hit, hm⟩ (by omega) ne1 nf fun u h1 tk pu ho hs1 hT hsz2 hk => ?_
    obtain ⟨k', x', ex, kk'⟩ := pu
    rw [hu] at ex
    cases ex
    have ru2 : RelV (kV k) u := relV_key (show keyIs k u = true from kk')
    refine ⟨_, rfl, wpAny_letOwnedTupleGo_enum (s := { s with heap := h1, toks := tk + 1 }) ho fun h2 he2 sb => ?_⟩
    have hT2 : h2.get? s.heap.objs.size = some { cls := .type "tuple", data := .seq #[.int i tk, u] } := (sb.2 _ (Nat.ne_of_gt le)).trans hT
    have new : ObjOk X.prog X.w (upd H s.heap.objs.size (.frz { cls := .type "tuple", data := .seq #[.int i tk, u] } (.tup [.int (i : Nat), kV k]))) h2 s.heap.objs.size (.frz { cls := .type "tuple", data := .seq #[.int i tk, u] } (.tup [.int (i : Nat), kV k])) :=
      ⟨hT2, by show 2 ≤ sizeLine; decide, [.int i tk, u], .cons ⟨_, rfl⟩ (.cons ru2 .nil), ⟨_, hT2, rfl, _, rfl⟩⟩
    have I1 : Inv X pins σ (upd H s.heap.objs.size (.frz { cls := .type "tuple", data := .seq #[.int i tk, u] } (.tup [.int (i : Nat), kV k]))) { s with heap := h2, toks := tk + 1 } :=
      I.turnedNew (t' := tk + 1) (ch := [n + 1, n]) (fun b ob nb q => (sb.2 b (fun y => nb (by simp [y]))).trans (hk b ob (fun y => nb (by simp [y])) (fun y => nb (by simp [y])) q)) hf (Nat.le_refl _) new
    refine ⟨.ref s.heap.objs.size, _, I1, rfl, ⟨_, k, v, _, rfl, I.hok.fresh (Nat.le_refl _), rfl, rfl, hkv⟩, ⟨⟨u, ?_⟩, ?_⟩, fun b hb => ?_⟩
    · have e1 : ((i + 1 : Nat) : Int) = (i : Int) + 1 := by omega
      rw [e1]; exact he2
    · rw [hl]
      exact hs1.1.at fun o q => (sb.2 n ne1.symm).trans q
    · have lb : b < s.heap.objs.size := by
        have two : @Eq Nat b (n + 1) ∨ @Eq Nat b n := by simpa using hb
        show @LT.lt Nat _ b _
        omega
      rw [upd_ne (Nat.ne_of_lt lb)]
      exact (hf b hb).1
  done := by
    intro X eP ew eK hc i pins s σ H E I hf st hg
    subst eP ew eK
    obtain ⟨⟨old, he⟩, hit⟩ := st
    obtain ⟨hd, hi⟩ := hg
    obtain ⟨hs, hgd, hx, es', ep', vs, hdt, hsz, kv, hm⟩ := I.frzK hd
    obtain ⟨rfl, rfl⟩ := dict_ep hod hdt
    have hl : kvs.length = vs.length := Paired.length kv
    rw [hl] at hit
    have nd : d ≠ n := fun e => Nat.lt_irrefl n (by rw [e] at ld; exact ld)
    have D1 := draws_keys (knd := mixKind X.prog X.w) (prog := X.prog) (w := X.w) (A := X.A.in1) (I.ok.hd hc) n d nd vs ep'
    obtain ⟨f0, f1, f2, f3, f4, f5⟩ := hf n (by simp)
    have ei : i = vs.length := by omega
    subst ei
    exact wpAny_pyNext_enum_endD D1 he ⟨hit, hm⟩ fun h' eb => ⟨rfl, I.turned (t' := s.toks) (fun b o nb q => eb b o nb q) f0 f1 f3 f4 f5⟩
  self := fun A i s Q E st h => by
    obtain ⟨⟨old, he⟩, _⟩ := st
    exact wpAny_pyIter_enum he h
theorem begins_keys {d : Addr} {o : Obj} {es : Array DictEntry} {ep : Nat} (hd : (d == sysModules) = false) (hc : o.ExactDict) (hdat : o.data = .dict es ep) :
    Begins (.ref d) { cls := .type "dict_keyiterator", data := .fields #[.ref d, .int 0 0, .int es.size 0, .int ep 0] } fun h => h.get? d = some o where
  iter := fun prog w A E s Q ho h => iter_keys hd ho hc hdat h
  keeps := fun h h' x hk => hk d o x
  free := rfl
def iEnumB (K : PySem.W.Frag) (ta : TA) : TI := fun σ H R => ta σ H fun vs H1 => (∃ (z : Zi) (xs : List V), vs = [z.val] ∧ (∀ x, z ≠ .S x) ∧ z.seq K H1 xs ∧ (xs.length ≤ sizeLine → R (IteP K z) H1)) ∨ ∃ (l : Addr) (o : Obj) (kvs : List (Key × V)), vs = [.ref l] ∧ H1 l = some (.frz o (.dK kvs)) ∧ (kvs.length ≤ sizeLine → R (IteD l o kvs) H1)
theorem pi_enumB {X : Cx} {e : Expr} {ta : TA} {p pos tpos : Pos} {elts : List Expr} {kk : Nat} (hg : Gl X "enumerate") (hm : X.mg "enumerate" = none) (ha : PA X [e] ta) (hs : starEach [e] X.env = [(false, eval e X.env)] := by rfl) :
    PI X (.Tuple elts kk tpos) (.Call (.Name "enumerate" p) [e] [] pos) (iEnumB X.K ta) := by
  refine ⟨fun pins s σ H R I h => ?_⟩
  refine Call_ (ld_blt I hg hm boot_enumerate (PyProof.Rows.callWith_type1 (thn (ha.run pos pins s σ H _ I h) fun us s1 ⟨vs, H1, I1, r1, q1⟩ => ?_) hs rfl))
  rcases q1 with ⟨z, xs, ex, nS, hq, q⟩ | ⟨l, o, kvs, ex, hq, q⟩
  · subst ex
    cases r1 with
    | cons r rr =>
      cases rr
      obtain ⟨Ha, B, hb, lz, nw⟩ := Zi.begins I1 hq r
      have ln : xs.length ≤ sizeLine := by
        cases z with
        | L a => exact lenL I1 hq
        | T a => exact lenT I1 hq
        | S x => exact absurd rfl (nS x)
      refine call_enumB B hb fun h' he g1 hsz hk => wpAny_pyIter_enum he ?_
      have I2 : Inv X pins σ H1 { s1 with heap := h' } := I1.kept (t' := s1.toks) hk
      refine ⟨s1.heap.objs.size + 1, [s1.heap.objs.size + 1, s1.heap.objs.size], _, _, H1, rfl, I2, turn_enumP lz, ⟨⟨.none, he⟩, nw _ _ g1⟩, fun b hb2 => ?_, q ln⟩
      have two : @Eq Nat b (s1.heap.objs.size + 1) ∨ @Eq Nat b s1.heap.objs.size := by simpa using hb2
      have hle : @LE.le Nat _ s1.heap.objs.size b := by omega
      exact I1.fpOk hle (I1.hok.fresh hle)
  · subst ex
    cases r1 with
    | cons r rr =>
      cases rr
      obtain ⟨hs, hgd, hx, es, ep, vs, hdt, hsz, kv, hm⟩ := I1.frzK hq
      have ln : kvs.length ≤ sizeLine := (I1.hok l _ hq).2.1
      have hu : ∀ u, RelV (V.ref l) u → u = Value.ref l := fun _ h => h
      cases hu _ r
      refine call_enumB (begins_keys hs hx hdt) hgd fun h' he g1 hsz2 hk => wpAny_pyIter_enum he ?_
      have I2 : Inv X pins σ H1 { s1 with heap := h' } := I1.kept (t' := s1.toks) hk
      have ld : l < s1.heap.objs.size := Heap.lt_size hgd
      refine ⟨s1.heap.objs.size + 1, [s1.heap.objs.size + 1, s1.heap.objs.size], _, _, H1, rfl, I2, turn_enumD hdt ld, ⟨⟨.none, he⟩, ⟨_, g1, rfl, ?_⟩⟩, fun b hb2 => ?_, q ln⟩
      · rw [hsz] <;> rfl
      have two : @Eq Nat b (s1.heap.objs.size + 1) ∨ @Eq Nat b s1.heap.objs.size := by simpa using hb2
      have hle : @LE.le Nat _ s1.heap.objs.size b := by omega
      exact I1.fpOk hle (I1.hok.fresh hle)
theorem key_get {κ : Kx} : ∀ {kvs : List (Ky × D)} {kws : List (L2.Key × V)} {as : List Addr} {H : Hp}, IsKs κ as H kvs kws → ∀ (i : Nat) (d : D) (k : L2.Key) (v : V), (kvs.map fun p => kyD p.1)[i]? = some d → kws[i]? = some (k, v) → ∀ as' H', IsD κ as' H' d (kV k)
  | [], kws, as, H, h, i, d, k, v, e1, e2, _, _ => by simp at e1
  | (k1, d1) :: r, [], as, H, h, i, d, k, v, e1, e2, _, _ => h.elim
  | (k1, d1) :: r, (q1, v1) :: r', as, H, h, i, d, k, v, e1, e2, as', H' => by
    obtain ⟨⟨eq, okk⟩, _, hr⟩ := h
    cases i with
    | zero =>
      simp at e1 e2
      obtain ⟨rfl, rfl⟩ := e2
      subst e1
      rw [eq]
      cases k1 with
      | inl n => exact rfl
      | inr x => exact ⟨rfl, okk⟩
    | succ i => exact key_get hr i d k v (by simpa using e1) (by simpa using e2) as' H'
section
variable {X : Cx} {sc : SC} {κ : Kx} {Φ : Fn} {Wx : L2.WX} {pos : Pos}
theorem pi_enumE (ok : CxOk X sc κ Φ) {e : Expr} {p tpos : Pos} {elts : List Expr} {kk : Nat} {ms : Env → Sto → R (List W)} (hg : glB sc "enumerate" = true) (he : nostar e = true) (ha : PA X [e] (rdWs κ Wx ms)) (h1 : ∀ ρ S ws S', ms ρ S = .ok ws S' → ws.length = 1) :
    PI X (.Tuple elts kk tpos) (.Call (.Name "enumerate" p) [e] [] pos) (rdI κ Wx .enum ms) := by
  have := pi_enumB (elts := elts) (kk := kk) (tpos := tpos) (p := p) (pos := pos) (ok.gl hg) (ok.blt "enumerate" (by decide)) ha (star_cons he)
  refine ⟨fun pins s σ H Rr I ⟨as, H0, ρ, S, rs, hS, w⟩ => this.run pins s σ H Rr I ?_⟩
  have w0 : Out (ms ρ S) (fun ws S1 => ws.length = 1 ∧ ∃ ds, srcD .enum ws S1 = some ds ∧ ∀ as1 H1 J, Step as H as1 H1 → RepS κ as1 H1 S1 → ItsOk κ J as1 H1 ws S1 ds → Rr J H1) (kX κ as H σ Wx) := by
    cases q : ms ρ S with
    | ok ds S' => rw [q] at w; exact ⟨h1 ρ S ds S' q, w⟩
    | exc e S' => rw [q] at w; exact w
    | bad => rw [q] at w; exact w
  refine rdWs.mk rs hS w0 fun ws S1 as1 H1 vs ⟨hl, ds, e, k⟩ st1 r1 hS1 => ?_
  match ws, hl with
  | [w], _ =>
    cases vs with
    | nil => exact r1.elim
    | cons v vs =>
      cases vs with
      | cons _ _ => exact r1.2.elim
      | nil =>
        have e' : ((enumI w).map fun xs => xs.zipIdx.map fun p => D.tup [.int p.2, p.1]) = some ds := e
        cases q1 : enumI w with
        | none => rw [q1] at e'; cases e'
        | some xs =>
          rw [q1] at e'
          have e' : (xs.zipIdx.map fun p => D.tup [.int p.2, p.1]) = ds := by injection e'
          subst e'
          by_cases qd : ∃ kvs, w = .d (.dic kvs)
          · obtain ⟨kvs, rfl⟩ := qd
            have q1 : some (kvs.map fun p => kyD p.1) = some xs := q1
            injection q1 with q1
            subst q1
            have rD : IsD κ as1 H1 (.dic kvs) v := r1.1
            obtain ⟨l, kws, rfl, ⟨o, h1'⟩, h2⟩ := rD
            refine .inr ⟨l, o, kws, rfl, h1', fun hb => k as1 H1 _ st1 hS1 ?_⟩
            have hlen : kvs.length = kws.length := h2.length
            refine ⟨by rw [List.length_map, List.length_zipIdx, List.length_map, hlen]; exact hb, [], by simp, fun _ => rfl, fun as' H' S' pr im kp hS' g => ?_⟩
            have h3 : H' l = some (.frz o (.dK kws)) := im l _ h1' True.intro
            refine ⟨fun i hi => ⟨h3, by rw [List.length_map, List.length_zipIdx, List.length_map, hlen] at hi; exact hi⟩, ⟨h3, by rw [List.length_map, List.length_zipIdx, List.length_map, hlen]⟩, fun i x H'' d y e => ?_⟩
            obtain ⟨T, kk, vv, ot, rfl, hT, ho, rfl, e1⟩ := y
            rw [List.getElem?_map, List.getElem?_zipIdx] at e
            cases p1 : (kvs.map fun p => kyD p.1)[i]? with
            | none => rw [p1] at e; cases e
            | some c =>
              rw [p1] at e
              have e : D.tup [.int ((0 + i : Nat) : Int), c] = d := by injection e
              subst e
              have e2 := key_get h2 i c kk vv p1 e1 as' (upd H' T (.frz ot (.tup [.int (i : Nat), kV kk])))
              exact ⟨⟨T, [.int (i : Nat), kV kk], rfl, ⟨.inl (.inr ⟨ot, upd_same⟩), .inl ⟨ot, _, upd_same, ho⟩⟩, (by rw [Nat.zero_add]; exact rfl), e2, trivial⟩, Step.new hT, RepS.new hT hS'⟩
          have q1 : enumL w = some xs := by
            cases w with
            | own c => cases c <;> first | exact q1 | cases q1
            | d x =>
              cases x with
              | dic kvs => exact absurd ⟨kvs, rfl⟩ qd
              | _ => exact q1
          obtain ⟨z, rfl, nS, ad1, n1, o1, g1⟩ := li_of r1.1 q1
          obtain ⟨us, hs1, hd1⟩ := g1 as1 H1 (fun _ _ h => h) Imm.refl fun _ _ => rfl
          rw [ok.hκ] at hs1
          refine .inl ⟨z, us, rfl, nS, hs1, fun hb => k as1 H1 _ st1 hS1 ?_⟩
          refine ⟨by rw [List.length_map, List.length_zipIdx, hd1.length]; exact hb, ad1, n1, fun h => o1 (h w (by simp)), fun as' H' S' pr im kp hS' g => ?_⟩
          obtain ⟨us, hs1, hd1⟩ := g1 as' H' pr im kp
          rw [ok.hκ] at hs1
          have l1 := hd1.length
          refine ⟨fun i hi => ?_, ⟨us, hs1, by rw [List.length_map, List.length_zipIdx]; omega⟩, fun i x H'' d y e => ?_⟩
          · rw [List.length_map, List.length_zipIdx] at hi
            exact ⟨us, us[i]'(by omega), hs1, List.getElem?_eq_getElem _⟩
          · obtain ⟨T, a, o, rfl, hT, ho, rfl, f1⟩ := y
            have i1 := f1 us hs1
            rw [List.getElem?_map, List.getElem?_zipIdx] at e
            cases p1 : xs[i]? with
            | none => rw [p1] at e; cases e
            | some c =>
              rw [p1] at e
              have e : D.tup [.int ((0 + i : Nat) : Int), c] = d := by injection e
              subst e
              obtain ⟨v1, e1, e2⟩ := hd1.get p1
              rw [i1] at e1
              cases e1
              have im2 : Imm H' (upd H' T (.frz o (.tup [.int (i : Nat), a]))) := Imm.new hT
              exact ⟨⟨T, [.int (i : Nat), a], rfl, ⟨.inl (.inr ⟨o, upd_same⟩), .inl ⟨o, _, upd_same, ho⟩⟩, (by rw [Nat.zero_add]; exact rfl), mono_at (fun _ _ h => h) im2 e2, trivial⟩, Step.new hT, RepS.new hT hS'⟩
end
end Ev
set_option maxHeartbeats 2000000
/-! Ev, part 12: changes. -/
namespace Ev
open PySem PySem.Spec PyProof.Rows L2
theorem hasK_eq {κ : Kx} {as : List Addr} {H : Hp} {q : Ky} : ∀ {kvs : List (Ky × D)} {kws : List (L2.Key × V)}, IsKs κ as H kvs kws → hasK kvs q = kws.any fun kv => decide (kv.1 = kx q)
  | [], [], _ => rfl
  | [], _ :: _, h => h.elim
  | (k, d) :: r, (q', v) :: r', h => by
    obtain ⟨⟨e, _⟩, hv, hr⟩ := h
    have ih := hasK_eq (q := q) hr
    unfold hasK at ih ⊢
    rw [List.any_cons, List.any_cons, ih]
    congr 1
    rw [e]
    by_cases z : k = q
    · rw [z]; simp
    · rw [decide_eq_false z, decide_eq_false fun w => z (kx_inj w)]
  | _ :: _, [], h => h.elim
theorem ks_app {κ : Kx} {as : List Addr} {H : Hp} : ∀ {a b : List (Ky × D)} {x y : List (L2.Key × V)}, IsKs κ as H a x → IsKs κ as H b y → IsKs κ as H (a ++ b) (x ++ y)
  | [], _, [], _, _, h => h
  | [], _, _ :: _, _, h, _ => h.elim
  | (_, _) :: _, _, (_, _) :: _, _, h, h' => ⟨h.1, h.2.1, ks_app h.2.2 h'⟩
  | _ :: _, _, [], _, h, _ => h.elim
theorem ks_put {κ : Kx} {as : List Addr} {H : Hp} {q : Ky} {d : D} {v : V} (hq : kyOk q = true) (hd : IsD κ as H d v) {kvs : List (Ky × D)} {kws : List (L2.Key × V)} (h : IsKs κ as H kvs kws) : IsKs κ as H (putK kvs q d) (L2.putK kws (kx q) v) := by
  unfold putK L2.putK
  rw [← hasK_eq h]
  by_cases z : hasK kvs q = true
  · rw [if_pos z, if_pos z]
    clear z
    induction kvs generalizing kws with
    | nil => cases kws with
      | nil => exact True.intro
      | cons _ _ => exact h.elim
    | cons p r ih =>
      obtain ⟨k, d'⟩ := p
      cases kws with
      | nil => exact h.elim
      | cons p' r' =>
        obtain ⟨q', v'⟩ := p'
        obtain ⟨⟨e, o⟩, hv, hr⟩ := h
        by_cases y : k = q
        · rw [List.map_cons, List.map_cons, if_pos y, if_pos (show q' = kx q by rw [e, y])]
          exact ⟨⟨e, o⟩, hd, ih hr⟩
        · rw [List.map_cons, List.map_cons, if_neg y, if_neg (show ¬ q' = kx q from fun w => y (kx_inj (by rw [← e]; exact w)))]
          exact ⟨⟨e, o⟩, hv, ih hr⟩
  · rw [if_neg z, if_neg z]
    exact ks_app h ⟨⟨rfl, hq⟩, hd, True.intro⟩
theorem ks_del {κ : Kx} {as : List Addr} {H : Hp} {q : Ky} {kvs : List (Ky × D)} {kws : List (L2.Key × V)} (h : IsKs κ as H kvs kws) : IsKs κ as H (delK kvs q) (L2.dropK kws (kx q)) := by
  unfold delK L2.dropK
  induction kvs generalizing kws with
  | nil => cases kws with
    | nil => exact True.intro
    | cons _ _ => exact h.elim
  | cons p r ih =>
    obtain ⟨k, d'⟩ := p
    cases kws with
    | nil => exact h.elim
    | cons p' r' =>
      obtain ⟨q', v'⟩ := p'
      obtain ⟨⟨e, o⟩, hv, hr⟩ := h
      by_cases y : k = q
      · rw [List.filter_cons, List.filter_cons, if_neg (by simp [y]), if_neg (by simp [e, y])]
        exact ih hr
      · rw [List.filter_cons, List.filter_cons, if_pos (by simp [y]), if_pos (by simp only [decide_eq_true_eq]; exact fun w => y (kx_inj (by rw [← e]; exact w)))]
        exact ⟨⟨e, o⟩, hv, ih hr⟩
section
variable {X : Cx} {κ : Kx}
theorem placeI_eq (n : Nat) (i : Int) : placeI n i = ixN n i := by
  unfold placeI ixN
  by_cases h : 0 ≤ i
  · rw [if_pos h, if_pos h]
    by_cases h2 : i < n
    · rw [if_pos h2, if_pos (by omega)]
    · rw [if_neg h2, if_neg (by omega)]
  · rw [if_neg h, if_neg h]
    by_cases h2 : 0 ≤ i + n
    · rw [if_pos h2, if_pos (by omega)]
    · rw [if_neg h2, if_neg (by omega)]
/-- a thing at a is changed: what is wanted then -/
def kMu (κ : Kx) (as : List Addr) (H : Hp) (a : Addr) (c' : Cell) (N : Hp → Prop) : Prop := ∀ o, RepC κ as (upd H a o) a c' → N (upd H a o)
def rSetM (κ : Kx) : TSet := fun o i v H N => ∃ as a c c' dk d u, o = .ref a ∧ RepC κ as H a c ∧ IsD κ as H dk i ∧ IsD κ as H d v ∧ mutC .set c [dk, d] = some (c', u) ∧ kMu κ as H a c' N
theorem set_any (hu : X.A.units + 1 < cLine) : PSet X (rSetM κ) := by
  intro pins s σ H o i v ov iv u Q I ro ri rv h
  obtain ⟨as, a, c, c', dk, d, u', rfl, rc, rk, rd, e, k⟩ := h
  cases c with
  | lst ds =>
    obtain ⟨vs, h1, h2⟩ := rc
    cases dk with
    | int j =>
      have e' : (placeI ds.length j).map (fun n => ((.lst (ds.set n d) : Cell), D.non)) = some (c', u') := e
      obtain ⟨n, en, e2⟩ := Option.map_eq_some_iff.mp e'
      cases e2
      refine set_list pins s σ H (.ref a) i v ov iv u Q I ro ri rv ⟨a, vs, j, n, rfl, rk, h1, by rw [← placeI_eq, ← h2.length]; exact en, k _ ⟨_, upd_same, ?_⟩⟩
      exact (IsDs.set rd n h2).mono (fun _ _ h => h) (Imm.write h1 fun z => z)
    | _ => cases e
  | dct kvs =>
    obtain ⟨kws, h1, h2⟩ := rc
    have go : ∀ q : Ky, kyOk q = true → i = kV (kx q) → (if szOk (kvs.length + 1) = true then some (Cell.dct (putK kvs q d), D.non) else none) = some (c', u') → wpAny (model X.prog X.w) X.A (setItem ov iv u) (fun _ s' => ∃ H', Inv X pins σ H' s' ∧ Q H') X.xe s := fun q oq ei e => by
      by_cases z : szOk (kvs.length + 1) = true
      · rw [if_pos z] at e
        cases e
        have zz := szOk_of z
        have hl := h2.length
        refine set_dict hu pins s σ H (.ref a) i v ov iv u Q I ro ri rv ⟨a, _, rfl, .inl ⟨kws, kx q, h1, ei, by omega, rfl⟩, k _ ⟨_, upd_same, ?_⟩⟩
        exact (ks_put oq rd h2).mono (fun _ _ h => h) (Imm.write h1 fun z => z)
      · rw [if_neg z] at e; cases e
    cases dk with
    | int j => exact go (.inl j) rfl rk e
    | str x => exact go (.inr x) rk.2 rk.1 e
    | _ => cases e
  | obj _ _ => cases dk <;> cases e
/-! methods -/
def rMu (κ : Kx) (m : Mu) : V → List V → Hp → VK → Prop := fun x xs H Q => ∃ as a c c' ds u, x = .ref a ∧ RepC κ as H a c ∧ IsDs κ as H ds xs ∧ mutC m c ds = some (c', u) ∧ ∀ v o, IsD κ as (upd H a o) u v → RepC κ as (upd H a o) a c' → Q v (upd H a o)
theorem mt_app : MtM X "list.append" (rMu κ .append) := by
  intro pins s σ H x xs v us Q I rx rv h
  obtain ⟨as, a, c, c', ds, u, rfl, rc, rd, e, k⟩ := h
  cases c with
  | lst es =>
    obtain ⟨vs, h1, h2⟩ := rc
    match ds, xs, rd, e with
    | [d], [y], rd, e =>
      have e' : (if szOk (es.length + 1) = true then some (Cell.lst (es ++ [d]), D.non) else none) = some (c', u) := e
      by_cases z : szOk (es.length + 1) = true
      · rw [if_pos z] at e'
        cases e'
        have zz := szOk_of z
        have hl := h2.length
        have im : Imm H (upd H a (.lst (vs ++ [y]))) := Imm.write h1 fun z => z
        exact mt_append pins s σ H (.ref a) [y] v us Q I rx rv ⟨a, vs, y, rfl, rfl, h1, by omega, k _ _ rfl ⟨_, upd_same, (h2.append rd).mono (fun _ _ h => h) im⟩⟩
      · rw [if_neg z] at e'; cases e'
    | [_], [], rd, e => exact rd.elim
    | [_], _ :: _ :: _, rd, e => exact rd.2.elim
    | [], _, rd, e => cases e
    | _ :: _ :: _, _, rd, e => cases e
  | _ => cases e
theorem mt_ext : MtM X "list.extend" (fun x xs H Q => ∃ as a c c' d y u, x = .ref a ∧ RepC κ as H a c ∧ xs = [y] ∧ IsV κ as H d y ∧ mutC .extend c [d] = some (c', u) ∧ ∀ v o, IsD κ as (upd H a o) u v → RepC κ as (upd H a o) a c' → Q v (upd H a o)) := by
  intro pins s σ H x xs v us Q I rx rv h
  obtain ⟨as, a, c, c', d, y, u, rfl, rc, rfl, rd, e, k⟩ := h
  cases c with
  | lst es =>
    obtain ⟨vs, hH, h2⟩ := rc
    cases d with
    | lst fs =>
      obtain ⟨b, zs, rfl, hB, h3⟩ := rd
      have e' : (if szOk (es.length + fs.length) = true then some (Cell.lst (es ++ fs), D.non) else none) = some (c', u) := e
      by_cases z : szOk (es.length + fs.length) = true
      · rw [if_pos z] at e'
        cases e'
        have zz := szOk_of z
        have l1 := h2.length
        have l2 := h3.length
        cases rx
        obtain ⟨u', rfl, ru⟩ := rv.one
        cases ru
        obtain ⟨z1, its, n, r, hl, e⟩ := I.lstM hH
        obtain ⟨z2, its2, n2, r2, hl2, e2⟩ := rdM I hB
        have hsz : its.toArray.size + its2.toArray.size ≤ sizeLine := by rw [List.size_toArray, List.size_toArray]; omega
        have hlong : ¬ (!its.toArray.isEmpty && Builtin.List.listTooLong (its.toArray.size + its2.toArray.size)) = true := by
          rw [notLongL hsz, Bool.and_false]
          exact Bool.false_ne_true
        have im : Imm H (upd H a (.lst (vs ++ zs))) := Imm.write hH fun z => z
        refine call_meets PySem.F.slot_list_extend ⟨_, e, rfl⟩ PySem.F.entry_list_extend (PySem.F.args_list_extend_2 _ _)
          (AutoSeq1.list_extend_list_list_0 a its.toArray n b its2.toArray n2 hlong (by rw [List.size_toArray]; omega) (by omega)) ⟨e, e2, ?_⟩
        refine ⟨.non, _, I.lset (its' := its ++ its2) hH e (by simp) (r.append r2) ?_, rfl, k _ _ rfl ⟨_, upd_same, (h2.append h3).mono (fun _ _ h => h) im⟩⟩
        rw [List.length_append]
        omega
      · rw [if_neg z] at e'; cases e'
    | _ => cases e
  | _ => cases e
theorem mt_ins : MtR X "list.insert" (rMu κ .insert) := by
  intro pins s σ H x xs v us Q I rx rv h
  obtain ⟨as, a, c, c', ds, u, rfl, rc, rd, e, k⟩ := h
  cases c with
  | lst es =>
    obtain ⟨vs, h1, h2⟩ := rc
    match ds, xs, rd, e with
    | [di, d], [yi, y], rd, e =>
      cases di with
      | int i =>
        have e' : (if (szOk (es.length + 1) && (decide (0 ≤ i) && decide (i < 1000000))) = true then some (Cell.lst (es.take i.toNat ++ [d] ++ es.drop i.toNat), D.non) else none) = some (c', u) := e
        by_cases z : (szOk (es.length + 1) && (decide (0 ≤ i) && decide (i < 1000000))) = true
        · rw [if_pos z] at e'
          cases e'
          obtain ⟨z, z'⟩ := ba2 z
          obtain ⟨z1, z2⟩ := ba2 z'
          have z1 := of_decide_eq_true z1
          have z2 := of_decide_eq_true z2
          have zz := szOk_of z
          have hl := h2.length
          have ei : yi = .int i := rd.1
          have im : Imm H (upd H a (.lst (vs.take i.toNat ++ [y] ++ vs.drop i.toNat))) := Imm.write h1 fun z => z
          exact mt_insert pins s σ H (.ref a) [yi, y] v us Q I rx rv ⟨a, vs, i, y, rfl, by rw [ei], h1, by omega, z1, by omega, k _ _ rfl ⟨_, upd_same, (((h2.take i.toNat).append (IsDs.one rd.2.1)).append (h2.drop i.toNat)).mono (fun _ _ h => h) im⟩⟩
        · rw [if_neg z] at e'; cases e'
      | _ => cases e
    | [_, _], [], rd, e => exact rd.elim
    | [_, _], [_], rd, e => exact rd.2.elim
    | [_, _], _ :: _ :: _ :: _, rd, e => exact rd.2.2.elim
    | [], _, rd, e => cases e
    | [x1], _, rd, e => cases x1 <;> cases e
    | x1 :: _ :: _ :: _, _, rd, e => cases x1 <;> cases e
  | _ => cases e
theorem dropLast_ok {as : List Addr} {H : Hp} : ∀ {ds : List D} {vs : List V}, IsDs κ as H ds vs → IsDs κ as H ds.dropLast vs.dropLast := fun {ds vs} h => by
  rw [List.dropLast_eq_take, List.dropLast_eq_take, h.length]
  exact h.take _
theorem mt_popL : MtM X "list.pop" (fun x xs H Q => ∃ as a es d u, x = .ref a ∧ RepC κ as H a (.lst es) ∧ xs = [] ∧ mutC .pop (.lst es) [] = some (d, u) ∧ ∀ v o, IsD κ as (upd H a o) u v → RepC κ as (upd H a o) a d → Q v (upd H a o)) := by
  intro pins s σ H x xs v us Q I rx rv h
  obtain ⟨as, a, es, c', u, rfl, ⟨vs, h1, h2⟩, rfl, e, k⟩ := h
  have e' : (match es.getLast? with
    | some d => some (Cell.lst es.dropLast, d)
    | none => none) = some (c', u) := e
  cases q : es.getLast? with
  | none => rw [q] at e'; cases e'
  | some d =>
    rw [q] at e'
    cases e'
    rw [List.getLast?_eq_getElem?] at q
    obtain ⟨y, e1, e2⟩ := h2.get q
    rw [h2.length] at e1
    have im : Imm H (upd H a (.lst vs.dropLast)) := Imm.write h1 fun z => z
    exact mt_pop pins s σ H (.ref a) [] v us Q I rx rv ⟨a, vs, y, rfl, rfl, h1, e1, k _ _ (e2.mono (fun _ _ h => h) im) ⟨_, upd_same, (dropLast_ok h2).mono (fun _ _ h => h) im⟩⟩
end
end Ev
set_option maxHeartbeats 2000000
/-! Ev, part 13: statements. -/
namespace Ev
open PySem PySem.Spec PyProof.Rows L2

/-- what is wanted behind a statement, from the function's entry on -/
def kF (κ : Kx) (as0 : List Addr) (H0 : Hp) (as : List Addr) (H : Hp) (n : Nat) (D : Ends) (Wx : L2.WX) (f : Fl) (S' : Sto) : Prop := ∀ as' H' σ', Step as0 H0 as' H' → Imm H H' → Pre as as' → RepS κ as' H' S' → σ'.length = n → match f with
  | .nx ρ' => RelS κ as' H0 H' σ' ρ' → D.nx σ' H'
  | .bk ρ' => RelS κ as' H0 H' σ' ρ' → D.bk σ' H'
  | .ct ρ' => RelS κ as' H0 H' σ' ρ' → D.ct σ' H'
  | .rt (.d d) => ∀ v, IsD κ as' H' d v → D.rt v H'
  | .rt (.own c) => ∀ a, H0 a = none → a ∉ as' → RepC κ as' H' a c → D.rt (.ref a) H'
  | .ex e ρ' => RelS κ as' H0 H' σ' ρ' → ∀ cls dd, IsX κ as' H' e cls dd → Wx cls dd σ' H'
abbrev FF : D → Sto → Prop := fun _ _ => False
abbrev MS := Env → Sto → R Fl
def rdS (κ : Kx) (Wx : L2.WX) (n : Nat) (m : MS) : TS := fun D σ H => ∃ as0 H0 as ρ S, Step as0 H0 as H ∧ RelS κ as H0 H σ ρ ∧ RepS κ as H S ∧ σ.length = n ∧ Out (m ρ S) (kF κ as0 H0 as H n D Wx) FF
/-- targets: what is wanted behind the store -/
def kG (κ : Kx) (as0 : List Addr) (H0 : Hp) (as : List Addr) (H : Hp) (n : Nat) (N : L2.St → Hp → Prop) (Wx : L2.WX) (f : Fl) (S' : Sto) : Prop := ∀ as' H' σ', Step as0 H0 as' H' → Imm H H' → Pre as as' → RepS κ as' H' S' → σ'.length = n → match f with
  | .nx ρ' => RelS κ as' H0 H' σ' ρ' → N σ' H'
  | .ex e ρ' => RelS κ as' H0 H' σ' ρ' → ∀ cls dd, IsX κ as' H' e cls dd → Wx cls dd σ' H'
  | _ => True
def gR (κ : Kx) (Wx : L2.WX) (n : Nat) (m : D → MS) : TG := fun v σ H N => ∃ as0 H0 as ρ S d, Step as0 H0 as H ∧ RelS κ as H0 H σ ρ ∧ RepS κ as H S ∧ σ.length = n ∧ IsD κ as H d v ∧ Out (m d ρ S) (kG κ as0 H0 as H n N Wx) FF
def gRs (κ : Kx) (Wx : L2.WX) (n : Nat) (m : List D → MS) : TGs := fun vs σ H N => ∃ as0 H0 as ρ S ds, Step as0 H0 as H ∧ RelS κ as H0 H σ ρ ∧ RepS κ as H S ∧ σ.length = n ∧ IsDs κ as H ds vs ∧ Out (m ds ρ S) (kG κ as0 H0 as H n N Wx) FF
theorem Pre.refl {as : List Addr} : Pre as as := fun _ _ h => h
theorem Pre.trans {a b c : List Addr} (h : Pre a b) (h' : Pre b c) : Pre a c := fun i x e => h' i x (h i x e)
theorem Imm.trans {a b c : Hp} (h : Imm a b) (h' : Imm b c) : Imm a c := fun x o e i => h' x o (h x o e i) i
theorem kG.on {κ : Kx} {as0 : List Addr} {H0 : Hp} {as as1 : List Addr} {H H1 : Hp} {n : Nat} {N : L2.St → Hp → Prop} {Wx : L2.WX} {f : Fl} {S : Sto} (im : Imm H H1) (pr : Pre as as1) (k : kG κ as0 H0 as H n N Wx f S) : kG κ as0 H0 as1 H1 n N Wx f S :=
  fun as' H' σ' st i p hS hl => k as' H' σ' st (im.trans i) (pr.trans p) hS hl
section
variable {κ : Kx} {Wx : L2.WX} {as0 as : List Addr} {H0 H : Hp} {n : Nat} {D : Ends} {σ : L2.St} {ρ : Env} {S : Sto}
theorem lift_outG {α : Type} {r : R α} {f : α → Sto → R Fl} {N : L2.St → Hp → Prop} (st0 : Step as0 H0 as H) (rs : RelS κ as H0 H σ ρ) (hl : σ.length = n) (w : Out (R.lift ρ r f) (kG κ as0 H0 as H n N Wx) FF) : Out r (fun a S1 => Out (f a S1) (kG κ as0 H0 as H n N Wx) FF) (kX κ as H σ Wx) := by
  cases r with
  | ok a S1 => exact w
  | exc e S1 => exact fun as' H' cls dd st x hS => w as' H' σ (st0.trans st) st.imm st.pr hS hl (rs.step st) cls dd x
  | bad => exact w
theorem lift_out {α : Type} {r : R α} {f : α → Sto → R Fl} (st0 : Step as0 H0 as H) (rs : RelS κ as H0 H σ ρ) (hl : σ.length = n) (w : Out (R.lift ρ r f) (kF κ as0 H0 as H n D Wx) FF) : Out r (fun a S1 => Out (f a S1) (kF κ as0 H0 as H n D Wx) FF) (kX κ as H σ Wx) := by
  cases r with
  | ok a S1 => exact w
  | exc e S1 => exact fun as' H' cls dd st x hS => w as' H' σ (st0.trans st) st.imm st.pr hS hl (rs.step st) cls dd x
  | bad => exact w
end
theorem kF.on {κ : Kx} {as0 : List Addr} {H0 : Hp} {as as1 : List Addr} {H H1 : Hp} {n : Nat} {D : Ends} {Wx : L2.WX} {f : Fl} {S : Sto} (im : Imm H H1) (pr : Pre as as1) (k : kF κ as0 H0 as H n D Wx f S) : kF κ as0 H0 as1 H1 n D Wx f S :=
  fun as' H' σ' st i p hS hl => k as' H' σ' st (im.trans i) (pr.trans p) hS hl
theorem kF.out {κ : Kx} {as0 : List Addr} {H0 : Hp} {as as1 : List Addr} {H H1 : Hp} {n : Nat} {D : Ends} {Wx : L2.WX} {r : R Fl} (im : Imm H H1) (pr : Pre as as1) (k : Out r (kF κ as0 H0 as H n D Wx) FF) : Out r (kF κ as0 H0 as1 H1 n D Wx) FF :=
  k.imp (fun _ _ z => kF.on im pr z) fun _ _ z => z
section
variable {X : Cx} {sc : SC} {κ : Kx} {Φ : Fn} {Wx : L2.WX} {n : Nat} {e tg : Expr} {st : Stmt} {sts : List Stmt} {m : MW} {pos : Pos}
theorem ss_nil : PSs X [] (rdS κ Wx n fun ρ S => .ok (.nx ρ) S) :=
  PSs.imp pss_nil fun D σ H ⟨as0, H0, as, ρ, S, st0, rs, hS, hl, w⟩ => w as H σ st0 Imm.refl Pre.refl hS hl rs
theorem ss_cons {m1 m2 : MS} (h1 : PS X st (rdS κ Wx n m1)) (h2 : PSs X sts (rdS κ Wx n m2)) : PSs X (st :: sts) (rdS κ Wx n fun ρ S => (m1 ρ S).nx fun ρ1 S1 => m2 ρ1 S1) := by
  refine PSs.imp (pss_cons h1 h2) fun D σ H ⟨as0, H0, as, ρ, S, st0, rs, hS, hl, w⟩ => ?_
  refine ⟨as0, H0, as, ρ, S, st0, rs, hS, hl, ?_⟩
  have w : Out ((m1 ρ S).nx fun ρ1 S1 => m2 ρ1 S1) (kF κ as0 H0 as H n D Wx) FF := w
  cases q : m1 ρ S with
  | bad => rw [q] at w; exact w
  | exc e S1 => rw [q] at w; exact w
  | ok f S1 =>
    rw [q] at w
    cases f with
    | nx ρ1 => exact fun as' H' σ' st' im pr hS' hl' rs' => ⟨as0, H0, as', ρ1, S1, st', rs', hS', hl', kF.out im pr w⟩
    | bk ρ1 => exact w
    | ct ρ1 => exact w
    | rt x => cases x <;> exact w
    | ex e ρ1 => exact w
/-- what only concerns what is known -/
theorem ss_skip {m2 : MS} {f : Env → Env} (hf : ∀ as H0 H σ ρ, RelS κ as H0 H σ ρ → RelS κ as H0 H σ (f ρ)) (h2 : PSs X sts (rdS κ Wx n m2)) : PSs X sts (rdS κ Wx n fun ρ S => (R.ok (Fl.nx (f ρ)) S).nx fun ρ1 S1 => m2 ρ1 S1) :=
  PSs.imp h2 fun D σ H ⟨as0, H0, as, ρ, S, st0, rs, hS, hl, w⟩ => ⟨as0, H0, as, f ρ, S, st0, hf _ _ _ _ _ rs, hS, hl, w⟩
theorem PSs.frz {t : TS} (h : PSs X sts t) : PSs X sts (fun D σ H => t D σ H ∨ ∃ p u, H p = some u ∧ soft u ∧ ∀ o, t D σ (upd H p (.frz o u))) := by
  refine ⟨fun pins s σ H D I q => ?_⟩
  rcases q with q | ⟨p, u, e, hu, q⟩
  · exact h.run pins s σ H D I q
  · obtain ⟨o, I'⟩ := freeze I e hu
    exact h.run pins s σ _ D I' (q o)
theorem Imm.frzAt {H : Hp} {a : Addr} {u : HO} {o : Obj} (e : H a = some u) (hu : ¬ imm u) : Imm H (upd H a (.frz o u)) := Imm.write e hu
theorem ss_fz {m2 : MS} {i : Nat} (h2 : PSs X sts (rdS κ Wx n m2)) : PSs X sts (rdS κ Wx n fun ρ S => (match ρ.get i with
    | some (.own c) => R.ok (Fl.nx (ρ.put i (.d c.vw))) S
    | some (.d _) => .ok (Fl.nx ρ) S
    | none => .bad).nx fun ρ1 S1 => m2 ρ1 S1) := by
  refine PSs.imp (PSs.frz h2) fun D σ H ⟨as0, H0, as, ρ, S, st0, rs, hS, hl, w⟩ => ?_
  cases q : ρ.get i with
  | none => simp only [q] at w; exact w.elim
  | some x =>
    cases x with
    | d x => simp only [q] at w; exact .inl ⟨as0, H0, as, ρ, S, st0, rs, hS, hl, w⟩
    | own c =>
      simp only [q] at w
      obtain ⟨a, e1, na, n0, rc⟩ := rs.own i c q
      obtain ⟨u, eu, hu, nu⟩ := soft_of rc
      refine .inr ⟨a, u, eu, hu, fun o => ⟨as0, H0, as, ρ.put i (.d c.vw), S, st0.frz n0 eu nu, ?_, hS.off na (Imm.write eu nu), hl, kF.out (Imm.write eu nu) Pre.refl w⟩⟩
      have im : Imm H (upd H a (.frz o u)) := Imm.write eu nu
      have fd := frozen (o := o) rc eu
      have key : ∀ j w, (ρ.put i (.d c.vw)).get j = some w → (j = i ∧ w = .d c.vw) ∨ (j ≠ i ∧ ρ.get j = some w) := fun j w e => by
        rw [get_put] at e
        by_cases z : i = j ∧ i < ρ.length
        · rw [if_pos z] at e
          cases e
          exact .inl ⟨z.1.symm, rfl⟩
        · rw [if_neg z] at e
          refine .inr ⟨fun q => ?_, e⟩
          subst q
          rw [get_none ρ j fun q => z ⟨rfl, q⟩] at e
          cases e
      refine ⟨fun j x e => ?_, fun j c1 e => ?_, fun j k c1 c2 b nn e1 e2 s1 => ?_⟩
      · rcases key j _ e with ⟨rfl, z⟩ | ⟨_, z⟩
        · cases z
          exact ⟨_, e1, fd⟩
        · obtain ⟨v, h1, h2⟩ := rs.val j x z
          exact ⟨v, h1, h2.mono (fun _ _ h => h) im⟩
      · rcases key j _ e with ⟨rfl, z⟩ | ⟨nj, z⟩
        · cases z
        · obtain ⟨b, h1, h2, h3, h4⟩ := rs.own j c1 z
          exact ⟨b, h1, h2, h3, h4.at (fun _ _ h => h) im (upd_ne fun y => rs.dis i j c c1 a (Ne.symm nj) q z e1 (by rw [← y]; exact h1))⟩
      · rcases key j _ e1 with ⟨rfl, z⟩ | ⟨_, z⟩
        · cases z
        · rcases key k _ e2 with ⟨rfl, z'⟩ | ⟨_, z'⟩
          · cases z'
          · exact rs.dis j k c1 c2 b nn z z' s1
/-! targets -/
theorem pg_nm (ok : CxOk X sc κ Φ) {i : Nat} {x : Str} (hn : X.N.length = n) (hi : sc.N[i]? = some x) (hx : locB sc x = true) : PG X (.Name x pos) (gR κ Wx n fun d ρ S => .ok (.nx (ρ.put i (.d d))) S) := by
  have := pg_name (pos := pos) ok.nd (by rw [ok.N]; exact hi) (ok.loc hx) (ok.fn x hx)
  refine ⟨fun pins s σ H v u Q I r ⟨as0, H0, as, ρ, S, d, st0, rs, hS, hl, hd, w⟩ => this.run pins s σ H v u Q I r ?_⟩
  have hlt : i < σ.length := by
    rw [I.len, ok.N]
    exact (List.getElem?_eq_some_iff.mp hi).1
  exact w as H (σ.set i (some v)) st0 Imm.refl Pre.refl hS (by rw [List.length_set]; exact hl) (rs.set hlt hd)
theorem gs_nil : PGs X [] (gRs κ Wx n fun ds ρ S => match ds with
    | [] => .ok (.nx ρ) S
    | _ => .bad) := by
  refine ⟨fun pins s σ H vs us Q I r ⟨as0, H0, as, ρ, S, ds, st0, rs, hS, hl, hd, w⟩ => pgs_nil.run pins s σ H vs us Q I r ?_⟩
  cases ds with
  | nil => cases vs with
    | nil => exact ⟨rfl, w as H σ st0 Imm.refl Pre.refl hS hl rs⟩
    | cons _ _ => exact hd.elim
  | cons _ _ => exact w.elim
theorem gs_cons {es : List Expr} {m1 : D → MS} {m2 : List D → MS} (h1 : PG X e (gR κ Wx n m1)) (h2 : PGs X es (gRs κ Wx n m2)) (hs : (assignEach (e :: es) X.env).map (·.2) = assign e X.env :: (assignEach es X.env).map (·.2)) :
    PGs X (e :: es) (gRs κ Wx n fun ds ρ S => match ds with
      | d :: ds => (m1 d ρ S).nx fun ρ1 S1 => m2 ds ρ1 S1
      | [] => .bad) := by
  refine ⟨fun pins s σ H vs us Q I r ⟨as0, H0, as, ρ, S, ds, st0, rs, hS, hl, hd, w⟩ => (pgs_cons h1 h2 hs).run pins s σ H vs us Q I r ?_⟩
  cases ds with
  | nil => exact w.elim
  | cons d ds =>
    cases vs with
    | nil => exact hd.elim
    | cons v vs =>
      refine ⟨v, vs, rfl, as0, H0, as, ρ, S, d, st0, rs, hS, hl, hd.1, ?_⟩
      have w : Out ((m1 d ρ S).nx fun ρ1 S1 => m2 ds ρ1 S1) (kG κ as0 H0 as H n Q Wx) FF := w
      cases q : m1 d ρ S with
      | bad => rw [q] at w; exact w
      | exc e S1 => rw [q] at w; exact w
      | ok f S1 =>
        rw [q] at w
        cases f with
        | nx ρ1 => exact fun as' H' σ' st' im pr hS' hl' rs' => ⟨as0, H0, as', ρ1, S1, ds, st', rs', hS', hl', hd.2.mono pr im, Out.imp w (fun f S2 z => kG.on im pr z) fun _ _ z => z⟩
        | bk ρ1 => exact w
        | ct ρ1 => exact w
        | rt x => cases x <;> exact w
        | ex e ρ1 => exact w
theorem rdW.run {H0 : Hp} {as : List Addr} {H : Hp} {σ : L2.St} {ρ : Env} {S : Sto} {Q : VK} (rs : RelS κ as H0 H σ ρ) (hS : RepS κ as H S) {k : W → Sto → Prop} (o : Out (m ρ S) k (kX κ as H σ Wx)) (h : ∀ w S1 as1 H1 v, k w S1 → Step as H as1 H1 → IsE κ as1 H1 w v → RepS κ as1 H1 S1 → Q v H1) : rdW κ Wx m σ H Q := rdW.mk rs hS o h
theorem assign_sub {o i : Expr} {env : PySem.Env} (h : plainIx i = true) : ∀ v, assign (.Subscript o i pos) env v = (do
      let ov ← holding [v] (eval o env)
      let iv ← holding [v, ov] (eval i env)
      standAt pos
      holding [v, ov, iv] (setItem ov iv v)
      release [v, ov, iv] []) := fun v => by
  cases i <;> first | rfl | cases h
/-- o[i] = .., a cell's -/
theorem pg_subC (ok : CxOk X sc κ Φ) {o i : Expr} {mo mi : MW} (hpl : plainIx i = true) (ho : PE X o (rdW κ Wx mo)) (hi : PE X i (rdW κ Wx mi)) : PG X (.Subscript o i pos) (gR κ Wx n fun d ρ S => ((mo ρ S).d).lift ρ fun x S1 => ((mi ρ S1).d).lift ρ fun y S2 => (mutS .set x [y, d] S2).lift ρ fun _ S3 => .ok (.nx ρ) S3) := by
  have hu : X.A.units + 1 < cLine := by have := ok.un; omega
  refine ⟨fun pins s σ H v u N I r ⟨as0, H0, as, ρ, S, d, st0, rs, hS, hl, hd, w⟩ => (pg_sub (pos := pos) ho hi (set_any (κ := κ) hu) (assign_sub hpl)).run pins s σ H v u N I r ?_⟩
  refine rdW.mk rs hS (lift_outG st0 rs hl w).of_d fun x S1 as1 H1 v1 w1 st1 r1 hS1 => ?_
  obtain ⟨dx, rfl, w1⟩ := w1
  refine rdW.mk (rs.step st1) hS1 (lift_outG (as := as1) (H := H1) (st0.trans st1) (rs.step st1) hl (w1.imp (fun _ _ z => kG.on st1.imm st1.pr z) fun _ _ z => z)).of_d fun y S2 as2 H2 v2 w2 st2 r2 hS2 => ?_
  obtain ⟨dy, rfl, w2⟩ := w2
  have rs2 := (rs.step st1).step st2
  have st02 := (st0.trans st1).trans st2
  have r1' : IsD κ as2 H2 dx v1 := IsD.step st2 r1
  have hd2 : IsD κ as2 H2 d v := (hd.step st1).step st2
  have w3 : Out (R.lift ρ (mutS .set dx [dy, d] S2) fun _ S3 => .ok (.nx ρ) S3) (kG κ as0 H0 as1 H1 n N Wx) FF := w2
  cases dx with
  | ref j =>
    obtain ⟨a, ea, rfl⟩ := r1'
    cases q : S2[j]? with
    | none =>
      have : mutS .set (.ref j) [dy, d] S2 = .bad := by simp only [mutS, q]
      rw [this] at w3; exact w3.elim
    | some c =>
      have rc := hS2.cell j a c ea q
      cases qm : mutC .set c [dy, d] with
      | none =>
        have : mutS .set (.ref j) [dy, d] S2 = .bad := by simp only [mutS, q]; simp [qm]
        rw [this] at w3; exact w3.elim
      | some p =>
        obtain ⟨c', u'⟩ := p
        have e3 : mutS .set (.ref j) [dy, d] S2 = .ok u' (S2.set j c') := by simp only [mutS, q]; simp [qm]
        rw [e3] at w3
        refine ⟨as2, a, c, c', dy, d, u', rfl, rc, r2, hd2, qm, fun o rc' => ?_⟩
        obtain ⟨u2, hu2, nu⟩ := rc.some
        have ma : a ∈ as2 := List.mem_of_getElem? ea
        have stw : Step as2 H2 as2 (upd H2 a o) := Step.write ma hu2 nu
        exact w3 as2 (upd H2 a o) σ (st02.trans stw) (st2.imm.trans stw.imm) (st2.pr.trans stw.pr) (hS2.put ea hu2 nu rc') hl (rs2.step stw)
  | _ => exact w3.elim
/-- x[i] = .., x a thing of one's own -/
theorem pg_subO (ok : CxOk X sc κ Φ) {j : Nat} {x : Str} {i : Expr} {p : Pos} {mi : MW} (hpl : plainIx i = true) (hj : sc.N[j]? = some x) (hv : visB sc x = true) (hodd : odd x = false) (hi : PE X i (rdW κ Wx mi)) : PG X (.Subscript (.Name x p) i pos) (gR κ Wx n fun d ρ S => match ρ.get j with
    | some (.own c) => ((mi ρ S).d).lift ρ fun y S1 => match mutC .set c [y, d] with
      | some (c', _) => .ok (.nx (ρ.put j (.own c'))) S1
      | none => .bad
    | _ => .bad) := by
  have hu : X.A.units + 1 < cLine := by have := ok.un; omega
  have ho := pe_var (X := X) (i := j) (pos := p) (by rw [ok.N]; exact hj) (ok.vis hv) (odd_db hodd) (odd_cd hodd)
  refine ⟨fun pins s σ H v u N I r ⟨as0, H0, as, ρ, S, d, st0, rs, hS, hl, hd, w⟩ => (pg_sub (pos := pos) ho hi (set_any (κ := κ) hu) (assign_sub hpl)).run pins s σ H v u N I r ?_⟩
  cases q : ρ.get j with
  | none => simp only [q] at w; exact w.elim
  | some wv => cases wv with
    | d x => simp only [q] at w; exact w.elim
    | own c =>
      simp only [q] at w
      obtain ⟨a, e1, na, n0, rc⟩ := rs.own j c q
      refine ⟨_, e1, ?_⟩
      refine rdW.mk rs hS (lift_outG st0 rs hl w).of_d fun y S2 as2 H2 v2 w2 st2 r2 hS2 => ?_
      obtain ⟨dy, rfl, w2⟩ := w2
      have rs2 := rs.step st2
      obtain ⟨a', e1', na', n0', rc'⟩ := rs2.own j c q
      rw [e1] at e1'
      cases e1'
      cases qm : mutC .set c [dy, d] with
      | none => simp only [qm] at w2; exact w2.elim
      | some pp =>
        obtain ⟨c', u'⟩ := pp
        simp only [qm] at w2
        refine ⟨as2, a, c, c', dy, d, u', rfl, rc', r2, hd.step st2, qm, fun o rc2 => ?_⟩
        obtain ⟨u2, hu2, nu⟩ := rc'.some
        have im : Imm H2 (upd H2 a o) := Imm.write hu2 nu
        have st3 := st0.trans st2
        have stw : Step as0 H0 as2 (upd H2 a o) := ⟨st3.ext, fun b z h i => by rw [upd_ne (ne_of_none h n0)]; exact st3.imm b z h i, fun b z h i => by rw [upd_ne (ne_of_none h n0)]; exact st3.keep b z h i, fun b h => upd_there b (st3.there b h)⟩
        exact w2 as2 (upd H2 a o) σ stw (st2.imm.trans im) st2.pr (hS2.off na' im) hl (rs2.mut q e1 hu2 nu rc2)
/-! statements -/
def isComp : Expr → Bool
  | .ListComp _ _ _ _ => true
  | .SetComp _ _ _ _ => true
  | .DictComp _ _ _ _ _ => true
  | _ => false
theorem noswap {t : Option Expr} {l : Nat} {env : PySem.Env} (h : isComp e = false) : swapsWith e t l env = pure false := by
  cases e <;> first | rfl | cases h
theorem noswapS {t : Expr} {l : Nat} {env : PySem.Env} (h : isComp e = false) : swapsWithSole [t] e l env = pure false := noswap h
def isTupT : Expr → Bool
  | .Tuple _ _ _ => true
  | .List _ _ => true
  | _ => false
theorem noswapped {t : Expr} {env : PySem.Env} (h : isTupT t = false ∨ isTupT e = false) : swappedStores [t] e env = pure none := by
  rcases h with h | h
  · cases t <;> first | rfl | cases h
  · cases e <;> first | (cases t <;> rfl) | cases h
theorem ps_asgn {m : MW} {mset : D → MS} (he : PE X e (rdW κ Wx m)) (hg : PG X tg (gR κ Wx n mset)) (hc : isComp e = false) (ht : isTupT tg = false) (h1 : (assignEach [tg] X.env).map (·.2) = [assign tg X.env]) :
    PS X (.Assign [tg] e pos) (rdS κ Wx n fun ρ S => ((m ρ S).d).lift ρ fun d S1 => mset d ρ S1) := by
  refine PS.imp (ps_asg he hg (noswapS hc) (noswapped (.inl ht)) h1) fun D σ H ⟨as0, H0, as, ρ, S, st0, rs, hS, hl, w⟩ => ?_
  refine rdW.mk rs hS (lift_out st0 rs hl w).of_d fun x S1 as1 H1 v w1 st1 r1 hS1 => ?_
  obtain ⟨d, rfl, w1⟩ := w1
  exact ⟨as0, H0, as1, ρ, S1, d, st0.trans st1, rs.step st1, hS1, hl, r1, w1.imp (fun f S2 z => fun as' H' σ' st im pr hS' hl' => by
    have z' := z as' H' σ' st (st1.imm.trans im) (st1.pr.trans pr) hS' hl'
    cases f with
    | nx ρ1 => exact z'
    | ex e ρ1 => exact z'
    | _ => trivial) fun _ _ z => z⟩
theorem kG_of {as0 as : List Addr} {H0 H : Hp} {D : Ends} {r : R Fl} (w : Out r (kF κ as0 H0 as H n D Wx) FF) : Out r (kG κ as0 H0 as H n D.nx Wx) FF := w.imp (fun f S2 z => fun as' H' σ' st im pr hS' hl' => by
    have z' := z as' H' σ' st im pr hS' hl'
    cases f with
    | nx ρ1 => exact z'
    | ex e ρ1 => exact z'
    | _ => trivial) fun _ _ z => z
theorem PG.or {e : Expr} {t1 t2 : TG} (h1 : PG X e t1) (h2 : PG X e t2) : PG X e fun v σ H Q => t1 v σ H Q ∨ t2 v σ H Q := by
  refine ⟨fun pins s σ H v u Q I r h => ?_⟩
  rcases h with h | h
  · exact h1.run pins s σ H v u Q I r h
  · exact h2.run pins s σ H v u Q I r h
/-- a, b = e -/
theorem ps_unp (ok : CxOk X sc κ Φ) {es : List Expr} {k : Nat} {tp : Pos} {m : MW} {mset : List D → MS} (he : PE X e (rdW κ Wx m)) (hg : PGs X es (gRs κ Wx n mset)) (hc : isComp e = false) (hsw : swappedStores [.Tuple es k tp] e X.env = pure none)
    (hn : ∀ ds ρ S, ds.length ≠ es.length → mset ds ρ S = .bad) (ha : (assignEach es X.env).length = es.length) (hst : (assignEach es X.env).findIdx? (·.1) = none) (h1 : (assignEach [Expr.Tuple es k tp] X.env).map (·.2) = [assign (.Tuple es k tp) X.env]) :
    PS X (.Assign [.Tuple es k tp] e pos) (rdS κ Wx n fun ρ S => ((m ρ S).d).lift ρ fun d S1 => match d with
      | .tup ds => mset ds ρ S1
      | .lst ds => mset ds ρ S1
      | _ => .bad) := by
  refine PS.imp (ps_asg he (PG.or (pg_tup (k := k) (pos := tp) ok.calm hg ha hst) (pg_unl (k := k) (pos := tp) ok.calm hg ha hst)) (noswapS hc) hsw h1) fun D σ H ⟨as0, H0, as, ρ, S, st0, rs, hS, hl, w⟩ => ?_
  refine rdW.mk rs hS (lift_out st0 rs hl w).of_d fun x S1 as1 H1 v w1 st1 r1 hS1 => ?_
  obtain ⟨d, rfl, w1⟩ := w1
  cases d with
  | tup ds =>
    obtain ⟨a, vs, rfl, hq, hd⟩ := r1
    rw [ok.hκ] at hq
    have w1 : Out (mset ds ρ S1) (kF κ as0 H0 as H n D Wx) FF := w1
    refine .inl ⟨a, vs, rfl, hq.sq, ?_, as0, H0, as1, ρ, S1, ds, st0.trans st1, rs.step st1, hS1, hl, hd, kG_of (kF.out st1.imm st1.pr w1)⟩
    rw [← hd.length]
    by_cases z : ds.length = es.length
    · exact z
    · rw [hn ds ρ S1 z] at w1; exact w1.elim
  | lst ds =>
    obtain ⟨a, vs, rfl, hq, hd⟩ := r1
    have w1 : Out (mset ds ρ S1) (kF κ as0 H0 as H n D Wx) FF := w1
    refine .inr ⟨a, vs, rfl, .inl hq.rd, ?_, as0, H0, as1, ρ, S1, ds, st0.trans st1, rs.step st1, hS1, hl, hd, kG_of (kF.out st1.imm st1.pr w1)⟩
    rw [← hd.length]
    by_cases z : ds.length = es.length
    · exact z
    · rw [hn ds ρ S1 z] at w1; exact w1.elim
  | _ => exact w1.elim
theorem own_step {as0 as : List Addr} {H0 H : Hp} {σ : L2.St} {ρ : Env} {S : Sto} {D : Ends} {i : Nat} {mn : Env → Sto → R Cell} (st0 : Step as0 H0 as H) (rs : RelS κ as H0 H σ ρ) (hS : RepS κ as H S) (hl : σ.length = n) (hlt : i < σ.length) (w : Out ((mn ρ S).lift ρ fun c S1 => .ok (.nx (ρ.put i (.own c))) S1) (kF κ as0 H0 as H n D Wx) FF) :
    rdN κ Wx mn σ H fun x H1 => gName i x σ H1 D.nx := by
  refine rdN.mk rs hS (lift_out st0 rs hl w) fun c S1 as1 H1 a w1 st1 na n1 rc hS1 => ?_
  have na0 : H0 a = none := by
    cases z : H0 a with
    | none => rfl
    | some o => exact absurd na (st0.there a (by rw [z]; simp))
  refine w1 as1 H1 (σ.set i (some (.ref a))) (st0.trans st1) st1.imm st1.pr hS1 (by rw [List.length_set]; exact hl) ((rs.step st1).setO hlt n1 na0 rc fun j e hj ne q => ?_)
  obtain ⟨b, h1, h2, h3, h4⟩ := rs.own j e hj
  obtain ⟨o, ho, _⟩ := h4.some
  rw [h1] at q
  cases q
  rw [na] at ho
  cases ho
/-- a thing of one's own to a name -/
theorem ps_own (ok : CxOk X sc κ Φ) {i : Nat} {x : Str} {p : Pos} {mn : Env → Sto → R Cell} (hi : sc.N[i]? = some x) (hx : locB sc x = true) (he : PE X e (rdN κ Wx mn)) (hsw : swapsWith e (some (.Name x p)) pos.line X.env = pure false) :
    PS X (.Assign [.Name x p] e pos) (rdS κ Wx n fun ρ S => (mn ρ S).lift ρ fun c S1 => .ok (.nx (ρ.put i (.own c))) S1) := by
  have base := ps_set (pos := pos) (pos' := p) ok.nd (by rw [ok.N]; exact hi) (ok.loc hx) he hsw (ok.fn x hx)
  refine ⟨fun pins s σ H D I ⟨as0, H0, as, ρ, S, st0, rs, hS, hl, w⟩ => base.run pins s σ H D I ?_⟩
  have hlt : i < σ.length := by
    rw [I.len, ok.N]
    exact (List.getElem?_eq_some_iff.mp hi).1
  exact own_step st0 rs hS hl hlt w
theorem ps_exp {m : MW} (he : PE X e (rdW κ Wx m)) (hc : isComp e = false) : PS X (.Expr e pos) (rdS κ Wx n fun ρ S => ((m ρ S).d).lift ρ fun _ S1 => .ok (.nx ρ) S1) := by
  refine PS.imp (ps_expr he (noswap hc)) fun D σ H ⟨as0, H0, as, ρ, S, st0, rs, hS, hl, w⟩ => ?_
  refine rdW.mk rs hS (lift_out st0 rs hl w).of_d fun x S1 as1 H1 v w1 st1 r1 hS1 => ?_
  obtain ⟨d, rfl, w1⟩ := w1
  exact w1 as1 H1 σ (st0.trans st1) st1.imm st1.pr hS1 hl (rs.step st1)
theorem ps_rete {m : MW} (he : PE X e (rdW κ Wx m)) : PS X (.Return (some e) pos) (rdS κ Wx n fun ρ S => ((m ρ S).d).lift ρ fun d S1 => .ok (.rt (.d d)) S1) := by
  refine PS.imp (ps_ret he) fun D σ H ⟨as0, H0, as, ρ, S, st0, rs, hS, hl, w⟩ => ?_
  refine rdW.mk rs hS (lift_out st0 rs hl w).of_d fun x S1 as1 H1 v w1 st1 r1 hS1 => ?_
  obtain ⟨d, rfl, w1⟩ := w1
  exact w1 as1 H1 σ (st0.trans st1) st1.imm st1.pr hS1 hl v r1
theorem ps_retw {mn : Env → Sto → R Cell} (he : PE X e (rdN κ Wx mn)) : PS X (.Return (some e) pos) (rdS κ Wx n fun ρ S => (mn ρ S).lift ρ fun c S1 => .ok (.rt (.own c)) S1) := by
  refine PS.imp (ps_ret he) fun D σ H ⟨as0, H0, as, ρ, S, st0, rs, hS, hl, w⟩ => ?_
  refine rdN.mk rs hS (lift_out st0 rs hl w) fun c S1 as1 H1 a w1 st1 na n1 rc hS1 => ?_
  have na0 : H0 a = none := by
    cases z : H0 a with
    | none => rfl
    | some o => exact absurd na (st0.there a (by rw [z]; simp))
  exact w1 as1 H1 σ (st0.trans st1) st1.imm st1.pr hS1 hl a na0 n1 rc
theorem ps_retn : PS X (.Return none pos) (rdS κ Wx n fun _ S => .ok (.rt (.d .non)) S) :=
  PS.imp ps_retN fun D σ H ⟨as0, H0, as, ρ, S, st0, rs, hS, hl, w⟩ => w as H σ st0 Imm.refl Pre.refl hS hl .non rfl
/-- return x, x a thing of one's own -/
theorem ps_reto (ok : CxOk X sc κ Φ) {i : Nat} {x : Str} {p : Pos} (hi : sc.N[i]? = some x) (hv : visB sc x = true) (ho : odd x = false) : PS X (.Return (some (.Name x p)) pos) (rdS κ Wx n fun ρ S => match ρ.get i with
    | some (.own c) => .ok (.rt (.own c)) S
    | _ => .bad) := by
  refine PS.imp (ps_ret (pe_var (i := i) (pos := p) (by rw [ok.N]; exact hi) (ok.vis hv) (odd_db ho) (odd_cd ho))) fun D σ H ⟨as0, H0, as, ρ, S, st0, rs, hS, hl, w⟩ => ?_
  cases q : ρ.get i with
  | none => simp only [q] at w; exact w.elim
  | some wv => cases wv with
    | d x => simp only [q] at w; exact w.elim
    | own c =>
      simp only [q] at w
      obtain ⟨a, e1, na, n0, rc⟩ := rs.own i c q
      exact ⟨_, e1, w as H σ st0 Imm.refl Pre.refl hS hl a n0 na rc⟩
/-- .. frozen -/
theorem ps_retf (ok : CxOk X sc κ Φ) {i : Nat} {x : Str} {p : Pos} (hi : sc.N[i]? = some x) (hv : visB sc x = true) (ho : odd x = false) : PS X (.Return (some (.Name x p)) pos) (rdS κ Wx n fun ρ S => match ρ.get i with
    | some (.own c) => .ok (.rt (.d c.vw)) S
    | some (.d x) => .ok (.rt (.d x)) S
    | none => .bad) := by
  refine PS.imp (ps_ret (PE.frz (pe_var (i := i) (pos := p) (by rw [ok.N]; exact hi) (ok.vis hv) (odd_db ho) (odd_cd ho)))) fun D σ H ⟨as0, H0, as, ρ, S, st0, rs, hS, hl, w⟩ => ?_
  cases q : ρ.get i with
  | none => simp only [q] at w; exact w.elim
  | some wv => cases wv with
    | d x =>
      simp only [q] at w
      obtain ⟨v, e1, r⟩ := rs.val i x q
      exact ⟨v, e1, .inl (w as H σ st0 Imm.refl Pre.refl hS hl v r)⟩
    | own c =>
      simp only [q] at w
      obtain ⟨a, e1, na, n0, rc⟩ := rs.own i c q
      obtain ⟨u, eu, hu, nu⟩ := soft_of rc
      exact ⟨_, e1, .inr ⟨a, u, rfl, eu, hu, fun o => w as _ σ (st0.frz n0 eu nu) (Imm.write eu nu) Pre.refl (hS.off na (Imm.write eu nu)) hl _ (frozen rc eu)⟩⟩
theorem ps_ifs {c : Expr} {a b : List Stmt} {mc : Env → Sto → R Bool} {m1 m2 : MS} (hc : PT X c (rdT κ Wx mc)) (ha : PSs X a (rdS κ Wx n m1)) (hb : PSs X b (rdS κ Wx n m2)) : PS X (.If c a b pos) (rdS κ Wx n fun ρ S => (mc ρ S).lift ρ fun r S1 => if r = true then m1 ρ S1 else m2 ρ S1) := by
  refine PS.imp (ps_if hc ha hb) fun D σ H ⟨as0, H0, as, ρ, S, st0, rs, hS, hl, w⟩ => ?_
  refine rdT.mk rs hS (lift_out st0 rs hl w) fun r S1 as1 H1 w1 st1 hS1 => ?_
  cases r with
  | true => rw [if_pos rfl] at w1 ⊢; exact ⟨as0, H0, as1, ρ, S1, st0.trans st1, rs.step st1, hS1, hl, kF.out st1.imm st1.pr w1⟩
  | false => rw [if_neg Bool.false_ne_true] at w1 ⊢; exact ⟨as0, H0, as1, ρ, S1, st0.trans st1, rs.step st1, hS1, hl, kF.out st1.imm st1.pr w1⟩
theorem ps_pas : PS X (.Pass pos) (rdS κ Wx n fun ρ S => .ok (.nx ρ) S) :=
  PS.imp ps_pass fun D σ H ⟨as0, H0, as, ρ, S, st0, rs, hS, hl, w⟩ => w as H σ st0 Imm.refl Pre.refl hS hl rs
theorem ps_nev {t : Stmt} : PS X t (rdS κ Wx n fun _ _ => .bad) := ⟨fun pins s σ H D I ⟨_, _, _, _, _, _, _, _, _, w⟩ => w.elim⟩
theorem ps_brk : PS X (.Break pos) (rdS κ Wx n fun ρ S => .ok (.bk ρ) S) :=
  PS.imp ps_break fun D σ H ⟨as0, H0, as, ρ, S, st0, rs, hS, hl, w⟩ => w as H σ st0 Imm.refl Pre.refl hS hl rs
theorem ps_cnt : PS X (.Continue pos) (rdS κ Wx n fun ρ S => .ok (.ct ρ) S) :=
  PS.imp ps_continue fun D σ H ⟨as0, H0, as, ρ, S, st0, rs, hS, hl, w⟩ => w as H σ st0 Imm.refl Pre.refl hS hl rs
/-! loops -/
theorem whlN_mono {test : Env → Sto → R Bool} {body : MS} : ∀ (k : Nat) (ρ : Env) (S : Sto), whlN test body k ρ S ≠ .bad → whlN test body (k + 1) ρ S = whlN test body k ρ S
  | 0, ρ, S, h => absurd rfl h
  | k + 1, ρ, S, h => by
    unfold whlN at h ⊢
    cases q : test ρ S with
    | bad => rfl
    | exc e S1 => rfl
    | ok b S1 =>
      rw [q] at h
      show (if b = true then (body ρ S1).loop (whlN test body (k + 1)) else .ok (.nx ρ) S1) = (if b = true then (body ρ S1).loop (whlN test body k) else .ok (.nx ρ) S1)
      have h : (if b = true then (body ρ S1).loop (whlN test body k) else .ok (.nx ρ) S1) ≠ .bad := h
      cases b with
      | false => rfl
      | true =>
        rw [if_pos rfl] at h ⊢
        rw [if_pos rfl]
        cases r : body ρ S1 with
        | bad => rfl
        | exc e S2 => rfl
        | ok f S2 =>
          rw [r] at h
          cases f with
          | nx ρ2 => exact whlN_mono k ρ2 S2 h
          | ct ρ2 => exact whlN_mono k ρ2 S2 h
          | bk ρ2 => rfl
          | rt w => rfl
          | ex e ρ2 => rfl
theorem whl_some {test : Env → Sto → R Bool} {body : MS} {ρ : Env} {S : Sto} {k : Fl → Sto → Prop} {ke : D → Sto → Prop} (h : Out (whl test body ρ S) k ke) : ∃ j, Out (whlN test body j ρ S) k ke := by
  unfold whl at h
  by_cases z : ∃ n, whlN test body n ρ S ≠ .bad
  · rw [dif_pos z] at h
    exact ⟨_, h⟩
  · rw [dif_neg z] at h
    exact h.elim
theorem ps_whl {c : Expr} {a : List Stmt} {mc : Env → Sto → R Bool} {mb : MS} (hp : PassesOwn (model X.prog X.w) X.A X.env X.xe) (hc : PT X c (rdT κ Wx mc)) (ha : PSs X a (rdS κ Wx n mb)) : PS X (.While c a [] pos) (rdS κ Wx n fun ρ S => whl mc mb ρ S) := by
  refine PS.imp (ps_while hp hc ha) fun D σ H ⟨as0, H0, as, ρ, S, st0, rs, hS, hl, w⟩ => ?_
  obtain ⟨j, w⟩ := whl_some w
  refine ⟨fun m σ H => ∃ as ρ S, Step as0 H0 as H ∧ RelS κ as H0 H σ ρ ∧ RepS κ as H S ∧ σ.length = n ∧ Out (whlN mc mb m ρ S) (kF κ as0 H0 as H n D Wx) FF, ⟨j, as, ρ, S, st0, rs, hS, hl, w⟩, ?_⟩
  rintro m σ H ⟨as, ρ, S, st0, rs, hS, hl, w⟩
  cases m with
  | zero => exact w.elim
  | succ m =>
    refine rdT.mk rs hS (lift_out st0 rs hl w) fun b S1 as1 H1 w1 st1 hS1 => ?_
    cases b with
    | false =>
      rw [if_neg Bool.false_ne_true] at w1 ⊢
      exact w1 as1 H1 σ (st0.trans st1) st1.imm st1.pr hS1 hl (rs.step st1)
    | true =>
      rw [if_pos rfl] at w1 ⊢
      refine ⟨fun σ H => ∃ as ρ S, Step as0 H0 as H ∧ RelS κ as H0 H σ ρ ∧ RepS κ as H S ∧ σ.length = n ∧ Out (whlN mc mb m ρ S) (kF κ as0 H0 as H n D Wx) FF, fun σ' H' p => ⟨m, Nat.lt_succ_self _, p⟩, as0, H0, as1, ρ, S1, st0.trans st1, rs.step st1, hS1, hl, ?_⟩
      have w1 := w1
      cases q : mb ρ S1 with
      | bad => rw [q] at w1; exact w1
      | exc e S2 => rw [q] at w1; exact w1
      | ok f S2 =>
        rw [q] at w1
        cases f with
        | nx ρ2 => exact fun as' H' σ' st' im pr hS' hl' rs' => ⟨as', ρ2, S2, st', rs', hS', hl', kF.out (st1.imm.trans im) (st1.pr.trans pr) w1⟩
        | ct ρ2 => exact fun as' H' σ' st' im pr hS' hl' rs' => ⟨as', ρ2, S2, st', rs', hS', hl', kF.out (st1.imm.trans im) (st1.pr.trans pr) w1⟩
        | bk ρ2 => exact fun as' H' σ' st' im pr hS' hl' rs' => w1 as' H' σ' st' (st1.imm.trans im) (st1.pr.trans pr) hS' hl' rs'
        | rt x => cases x <;> exact fun as' H' σ' st' im pr hS' hl' => w1 as' H' σ' st' (st1.imm.trans im) (st1.pr.trans pr) hS' hl'
        | ex e ρ2 => exact fun as' H' σ' st' im pr hS' hl' => w1 as' H' σ' st' (st1.imm.trans im) (st1.pr.trans pr) hS' hl'
end
end Ev
set_option maxHeartbeats 2000000
/-! Ev, part 14: for; changes of one's own things; raise, try. -/
namespace Ev
open PySem PySem.Spec PyProof.Rows L2
theorem allD_of : ∀ {ws : List W}, allD ws = true → ∀ w ∈ ws, ∃ d, w = .d d
  | [], _, w, h => nomatch h
  | .d x :: r, e, w, h => by
    rcases List.mem_cons.mp h with rfl | h
    · exact ⟨x, rfl⟩
    · exact allD_of (ws := r) e w h
  | .own _ :: _, e, _, _ => by cases e
section
variable {X : Cx} {sc : SC} {κ : Kx} {Φ : Fn} {Wx : L2.WX} {n : Nat} {e tg iter : Expr} {st : Stmt} {sts : List Stmt} {m : MW} {pos : Pos}
open Classical in
theorem ps_forr (ok : CxOk X sc κ Φ) {k : Sk} {tgs : List Nat} {mws : Env → Sto → R (List W)} {mb : MS} {a : List Stmt} (hn : X.N.length = n) (hp : PassesOwn (model X.prog X.w) X.A X.env X.xe) (hi : PI X tg iter (rdI κ Wx k mws)) (hlt : ∀ i ∈ tgs, i < n)
    (hg : PG X tg (gT κ.K tgs)) (hs : ∀ x, foldedSetIterable iter X.env x = pure x) (ha : PSs X a (rdS κ Wx n mb)) :
    PS X (.For tg iter a [] pos) (rdS κ Wx n fun ρ S => (mws ρ S).lift ρ fun ws S1 => if allD ws = true then (match srcD k ws S1 with
      | none => .bad
      | some ds => forGo (fun d ρ => setTg tgs d ρ) mb (srcG ws S1) ds ρ S1) else .bad) := by
  refine PS.imp (ps_for hp ok.calm hi hg ha hs) fun D σ H ⟨as0, H0, as, ρ, S, st0, rs, hS, hl, w⟩ => ?_
  refine ⟨as, H0, ρ, S, rs, hS, (lift_out st0 rs hl w).imp (fun ws S1 w1 => ?_) fun _ _ z => z⟩
  by_cases al : allD ws = true
  · rw [if_pos al] at w1
    cases q : srcD k ws S1 with
    | none => simp only [q] at w1; exact w1.elim
    | some ds =>
      simp only [q] at w1
      refine ⟨ds, rfl, fun as1 H1 J st1 hS1 io => ?_⟩
      obtain ⟨hlen, ad, ad1, ad2, io⟩ := io
      have ad0 := ad2 (allD_of al)
      subst ad0
      have srcRefl : srcG ws S1 S1 := fun x _ => by
        cases x with
        | d x => cases x <;> trivial
        | own c => trivial
      let St := fun (i : Nat) (σ' : L2.St) (H' : Hp) => ∃ as' ρ' S', Step as0 H0 as' H' ∧ Imm H1 H' ∧ Pre as1 as' ∧ RelS κ as' H0 H' σ' ρ' ∧ RepS κ as' H' S' ∧ σ'.length = n ∧ srcG ws S1 S' ∧ Out (forGo (fun d ρ => setTg tgs d ρ) mb (srcG ws S1) (ds.drop i) ρ' S') (kF κ as0 H0 as' H' n D Wx) FF
      refine ⟨fun i m σ' H' => m = ds.length - i ∧ i ≤ ds.length ∧ St i σ' H', ⟨_, rfl, Nat.zero_le _, as1, ρ, S1, st0.trans st1, Imm.refl, Pre.refl, rs.step st1, hS1, hl, srcRefl, kF.out st1.imm st1.pr w1⟩, ?_⟩
      rintro i m σ' H' ⟨rfl, hi', as', ρ', S', st', im', pr', rs', hS', hl', sg, w'⟩
      obtain ⟨go, stop, yld⟩ := io as' H' S' pr' im' (fun a ha => nomatch ha) hS' sg
      by_cases hlt' : i < ds.length
      · refine .inr ⟨go i hlt', St (i + 1), fun σ2 H2 p => ⟨ds.length - (i + 1), by omega, rfl, hlt', p⟩, fun x H2 y => ?_⟩
        obtain ⟨rd, st2, hS2⟩ := yld i x H2 ds[i] y (by simp [hlt'])
        rw [List.drop_eq_getElem_cons hlt'] at w'
        have w'' : Out (match setTg tgs ds[i] ρ' with
          | none => R.bad
          | some ρ1 => (mb ρ1 S').loop fun ρ2 S2 => if srcG ws S1 S2 then forGo (fun d ρ => setTg tgs d ρ) mb (srcG ws S1) (ds.drop (i + 1)) ρ2 S2 else .bad) (kF κ as0 H0 as' H' n D Wx) FF := w'
        cases qs : setTg tgs ds[i] ρ' with
        | none => simp only [qs] at w''; exact w''.elim
        | some ρ1 =>
          simp only [qs] at w''
          refine setTg_ok rd qs (rs'.step st2) (fun j hj => by rw [hl']; exact hlt j hj) fun σ2 rs2 l2 _ => ?_
          refine ⟨as0, H0, as', ρ1, S', st'.trans st2, rs2, hS2, by rw [l2]; exact hl', ?_⟩
          have w3 := kF.out st2.imm st2.pr w''
          clear w'' w'
          cases qb : mb ρ1 S' with
          | bad => rw [qb] at w3; exact w3
          | exc e S3 => rw [qb] at w3; exact w3
          | ok f S3 =>
            rw [qb] at w3
            have nxt : ∀ ρ2, Out (if srcG ws S1 S3 then forGo (fun d ρ => setTg tgs d ρ) mb (srcG ws S1) (ds.drop (i + 1)) ρ2 S3 else .bad) (kF κ as0 H0 as' H2 n D Wx) FF → ∀ as3 H3 σ3, Step as0 H0 as3 H3 → Imm H2 H3 → Pre as' as3 → RepS κ as3 H3 S3 → σ3.length = n → RelS κ as3 H0 H3 σ3 ρ2 → St (i + 1) σ3 H3 := fun ρ2 w4 as3 H3 σ3 st3 im3 pr3 hS3 hl3 rs3 => by
              by_cases g : srcG ws S1 S3
              · rw [if_pos g] at w4
                exact ⟨as3, ρ2, S3, st3, im'.trans (st2.imm.trans im3), pr'.trans (st2.pr.trans pr3), rs3, hS3, hl3, g, kF.out im3 pr3 w4⟩
              · rw [if_neg g] at w4; exact w4.elim
            cases f with
            | nx ρ2 => exact fun as3 H3 σ3 st3 im3 pr3 hS3 hl3 rs3 => nxt ρ2 w3 as3 H3 σ3 st3 im3 pr3 hS3 hl3 rs3
            | ct ρ2 => exact fun as3 H3 σ3 st3 im3 pr3 hS3 hl3 rs3 => nxt ρ2 w3 as3 H3 σ3 st3 im3 pr3 hS3 hl3 rs3
            | bk ρ2 => exact w3
            | rt x => cases x <;> exact w3
            | ex e ρ2 => exact w3
      · have e : i = ds.length := by omega
        subst e
        rw [List.drop_length] at w'
        exact .inl ⟨stop, w' as' H' σ' st' Imm.refl Pre.refl hS' hl' rs'⟩
  · rw [if_neg al] at w1
    exact w1.elim
/-! a change of a thing of one's own, as a statement -/
theorem own_write {as0 as : List Addr} {H0 H : Hp} {σ : L2.St} {ρ : Env} {S : Sto} {D : Ends} {i : Nat} {c c' : Cell} {a : Addr} {o : HO} (st : Step as0 H0 as H) (rs : RelS κ as H0 H σ ρ) (hS : RepS κ as H S) (hl : σ.length = n) (q : ρ.get i = some (.own c)) (e1 : σ[i]? = some (some (.ref a)))
    (na : a ∉ as) (n0 : H0 a = none) (rc : RepC κ as H a c) (rc2 : RepC κ as (upd H a o) a c') (w : Out (R.ok (Fl.nx (ρ.put i (.own c'))) S) (kF κ as0 H0 as H n D Wx) FF) : D.nx σ (upd H a o) := by
  obtain ⟨u2, hu2, nu⟩ := rc.some
  have im : Imm H (upd H a o) := Imm.write hu2 nu
  exact w as (upd H a o) σ ⟨st.ext, fun b z h i => by rw [upd_ne (ne_of_none h n0)]; exact st.imm b z h i, fun b z h i => by rw [upd_ne (ne_of_none h n0)]; exact st.keep b z h i, fun b h => upd_there b (st.there b h)⟩ im Pre.refl (hS.off na im) hl (rs.mut q e1 hu2 nu rc2)
theorem attrBase {x : Str} {p : Pos} {f : Str} {env : PySem.Env} : attributeBase (.Name x p) f env (eval (.Name x p) env) = eval (.Name x p) env := rfl
theorem fewArgs {a : Expr} {as : List Expr} {cpos : Pos} {env : PySem.Env} (hs : ∀ e ∈ a :: as, nostar e = true) (h : (a :: as).length < 20) : ((backTo cpos (starEach (a :: as) env)).all (fun x => !x.1) && (backToKw cpos (keywordEach [] env)).all (fun x => x.1.isSome)
      && decide ((a :: as).length + ([] : List Keyword).length + (if ([] : List Keyword).isEmpty then 0 else 1) < 30)) = true := by
  have h1 := star_back (pos := cpos) (env := env) hs
  have h2 : (backTo cpos (starEach (a :: as) env)).all (fun x => !x.1) = true := by
    rw [List.all_eq_true]
    intro y hy
    have := List.any_eq_false.mp h1 y hy
    simpa using this
  rw [h2]
  have h3 : (backToKw cpos (keywordEach [] env)).all (fun x => x.1.isSome) = true := rfl
  rw [h3]
  have h4 : (if ([] : List Keyword).isEmpty then 0 else 1) = 0 := rfl
  rw [h4]
  simp only [Bool.true_and, decide_eq_true_eq, List.length_nil]
  omega
/-- x.append(a), x.insert(a, b), x a list of one's own -/
theorem ps_omut (ok : CxOk X sc κ Φ) {mu : Mu} {id : String} {nm : Str} {i : Nat} {x : Str} {p apos cpos : Pos} {a : Expr} {es : List Expr} {ms : Env → Sto → R (List D)} (slot : Slot "list" nm id) (hty : typeOf (.builtin id) = pure (.type "method_descriptor")) (hm : MtR X id (rMu κ mu))
    (hi : sc.N[i]? = some x) (hv : visB sc x = true) (ho : odd x = false) (hs : ∀ e ∈ a :: es, nostar e = true) (hfew : (a :: es).length < 20) (hline : (apos.endLine == cpos.line) = true) (ha : PA X (a :: es) (rdDs κ Wx ms)) :
    PS X (.Expr (.Call (.Attribute (.Name x p) nm apos) (a :: es) [] cpos) pos) (rdS κ Wx n fun ρ S => match ρ.get i with
      | some (.own (.lst xs)) => (ms ρ S).lift ρ fun ds S1 => match mutC mu (.lst xs) ds with
        | some (c', _) => .ok (.nx (ρ.put i (.own c'))) S1
        | none => .bad
      | _ => .bad) := by
  have hr := pe_var (X := X) (i := i) (pos := p) (by rw [ok.N]; exact hi) (ok.vis hv) (odd_db ho) (odd_cd ho)
  have base := ps_expr (pos := pos) (pe_bm (apos := apos) (cpos := cpos) PySem.F.plainAttrs_list slot hty hm hr ha attrBase (fewArgs hs hfew) hline (star_cons (hs a List.mem_cons_self)) (star_back fun e he => hs e (List.mem_cons_of_mem _ he))) rfl
  refine PS.imp base fun D σ H ⟨as0, H0, as, ρ, S, st0, rs, hS, hl, w⟩ => ?_
  cases q : ρ.get i with
  | none => simp only [q] at w; exact w.elim
  | some wv => cases wv with
    | d x => simp only [q] at w; exact w.elim
    | own c => cases c with
      | dct _ => simp only [q] at w; exact w.elim
      | obj _ _ _ => simp only [q] at w; exact w.elim
      | lst xs =>
        simp only [q] at w
        obtain ⟨b, e1, na, n0, rc⟩ := rs.own i _ q
        refine ⟨_, e1, by obtain ⟨vs, h1, _⟩ := rc; exact .inl ⟨rfl, vs, .inl (.inl h1)⟩, ?_⟩
        refine rdDs.mk rs hS (lift_out st0 rs hl w) fun ds S1 as1 H1 vs w1 st1 r1 hS1 => ?_
        obtain ⟨b', e1', na', n0', rc'⟩ := (rs.step st1).own i _ q
        rw [e1] at e1'
        cases e1'
        cases qm : mutC mu (.lst xs) ds with
        | none => simp only [qm] at w1; exact w1.elim
        | some pp =>
          obtain ⟨c', u'⟩ := pp
          simp only [qm] at w1
          exact ⟨as1, b, _, c', ds, u', rfl, rc', r1, qm, fun v o _ rc2 => own_write (st0.trans st1) (rs.step st1) hS1 hl q e1 na' n0' rc' rc2 (kF.out st1.imm st1.pr w1)⟩
/-- x.extend(a) -/
theorem ps_oext (ok : CxOk X sc κ Φ) {i : Nat} {x : Str} {p apos cpos : Pos} {a : Expr} {ma : MW} (hi : sc.N[i]? = some x) (hv : visB sc x = true) (ho : odd x = false) (hs : nostar a = true) (hline : (apos.endLine == cpos.line) = true) (ha : PE X a (rdW κ Wx ma)) :
    PS X (.Expr (.Call (.Attribute (.Name x p) "extend" apos) [a] [] cpos) pos) (rdS κ Wx n fun ρ S => match ρ.get i with
      | some (.own (.lst xs)) => ((ma ρ S).d.bind fun d S1 => (R.ok (α := List D) [] S1).bind fun ds S2 => .ok (d :: ds) S2).lift ρ fun ds S1 => match mutC .extend (.lst xs) (ds.map (vw S1)) with
        | some (c', _) => .ok (.nx (ρ.put i (.own c'))) S1
        | none => .bad
      | _ => .bad) := by
  have hr := pe_var (X := X) (i := i) (pos := p) (by rw [ok.N]; exact hi) (ok.vis hv) (odd_db ho) (odd_cd ho)
  have hs' : ∀ e ∈ [a], nostar e = true := fun e he => by rw [List.mem_singleton.mp he]; exact hs
  have base := ps_expr (pos := pos) (pe_bm (apos := apos) (cpos := cpos) PySem.F.plainAttrs_list PySem.F.slot_list_extend PySem.F.type_list_extend (mt_ext (X := X) (κ := κ)) hr (pa_cons ha pa_nil (star_cons hs)) attrBase (fewArgs hs' (by simp)) hline (star_cons hs) (star_back fun e he => nomatch he)) rfl
  refine PS.imp base fun D σ H ⟨as0, H0, as, ρ, S, st0, rs, hS, hl, w⟩ => ?_
  cases q : ρ.get i with
  | none => simp only [q] at w; exact w.elim
  | some wv => cases wv with
    | d x => simp only [q] at w; exact w.elim
    | own c => cases c with
      | dct _ => simp only [q] at w; exact w.elim
      | obj _ _ _ => simp only [q] at w; exact w.elim
      | lst xs =>
        simp only [q] at w
        obtain ⟨b, e1, na, n0, rc⟩ := rs.own i _ q
        refine ⟨_, e1, by obtain ⟨vs, h1, _⟩ := rc; exact .inl ⟨rfl, vs, .inl (.inl h1)⟩, ?_⟩
        refine rdW.mk rs hS (lift_out st0 rs hl w).of_bind.of_d fun y S1 as1 H1 v w1 st1 r1 hS1 => ?_
        obtain ⟨d, rfl, w1⟩ := w1
        obtain ⟨b', e1', na', n0', rc'⟩ := (rs.step st1).own i _ q
        rw [e1] at e1'
        cases e1'
        have w2 : Out (match mutC .extend (.lst xs) ([d].map (vw S1)) with
          | some (c', _) => R.ok (Fl.nx (ρ.put i (.own c'))) S1
          | none => .bad) (kF κ as0 H0 as H n D Wx) FF := w1
        cases qm : mutC .extend (.lst xs) ([d].map (vw S1)) with
        | none => simp only [qm] at w2; exact w2.elim
        | some pp =>
          obtain ⟨c', u'⟩ := pp
          simp only [qm] at w2
          exact ⟨as1, b, _, c', vw S1 d, v, u', rfl, rc', rfl, IsD.vw hS1 r1, qm, fun v o _ rc2 => own_write (st0.trans st1) (rs.step st1) hS1 hl q e1 na' n0' rc' rc2 (kF.out st1.imm st1.pr w2)⟩
end
end Ev
set_option maxHeartbeats 2000000
/-! Ev, part 15: slices, isinstance, methods of texts, tuples, dicts; list(..), dicts. -/
namespace Ev
open PySem PySem.Spec PyProof.Rows L2
/-! ### slices -/
theorem slcI_eq (n d : Nat) (o : Option Int) : slcI n d o = HT.sIx n d o := by
  cases o with
  | none => rfl
  | some i => rfl
section
variable {κ : Kx} {as : List Addr} {H : Hp}
theorem IsDs.cut {ds : List D} {vs : List V} (h : IsDs κ as H ds vs) (lo hi : Option Int) : IsDs κ as H (cutL ds lo hi) (cutV vs lo hi) := by
  unfold cutL cutV
  rw [slcI_eq, slcI_eq, h.length]
  exact (h.drop _).take _
theorem cut_str (z : Nm) (lo hi : Option Int) : cutS (tx z) lo hi = tx (cutL z lo hi) := by
  unfold cutS cutL
  rw [slcI_eq, slcI_eq, tx_len, tx_list]
  rfl
theorem cut_len {α : Type} (xs : List α) (lo hi : Option Int) : (cutL xs lo hi).length ≤ xs.length := by
  unfold cutL
  rw [List.length_take, List.length_drop]
  omega
theorem cut_all {α : Type} {xs : List α} {lo hi : Option Int} (h : HT.sIx xs.length 0 lo = 0 ∧ HT.sIx xs.length xs.length hi = xs.length) : cutL xs lo hi = xs := by
  unfold cutL
  rw [slcI_eq, slcI_eq, h.1, h.2]
  simp
theorem szOk_le {a b : Nat} (h : szOk b = true) (le : a ≤ b) : szOk a = true := by
  have := szOk_of h
  rw [sizeLine_eq] at this
  exact decide_eq_true (by omega)
end
section
variable {X : Cx} {sc : SC} {κ : Kx} {Φ : Fn} {Wx : L2.WX} {a b c : Expr} {ma mb mc : MW} {pos : Pos}
def partE (lo : Option Expr) (e : List Ex) : Prop := match lo, e with
  | none, [] => True
  | some _, [_] => True
  | _, _ => False
/-- a part's reading -/
def rdO (κ : Kx) (Wx : L2.WX) (m : Env → Sto → R (Option Int)) : TO := fun σ H Q => ∃ as H0 ρ S, RelS κ as H0 H σ ρ ∧ RepS κ as H S ∧ Out (m ρ S) (fun o S' => ∀ as' H', Step as H as' H' → RepS κ as' H' S' → Q o H') (kX κ as H σ Wx)
theorem po_non : PO X none (rdO κ Wx fun _ S => (R.ok (α := List D) [] S).bind fun l S2 => R.of S2 (partD l)) := ⟨fun pins s σ H Q I ⟨as, H0, ρ, S, rs, hS, w⟩ => po_none.run pins s σ H Q I (w as H Step.refl hS)⟩
theorem po_one (ha : PE X a (rdW κ Wx ma)) : PO X (some a) (rdO κ Wx fun ρ S => ((ma ρ S).d.bind fun d S1 => (R.ok (α := List D) [] S1).bind fun ds S2 => .ok (d :: ds) S2).bind fun l S2 => R.of S2 (partD l)) := ⟨fun pins s σ H Q I ⟨as, H0, ρ, S, rs, hS, w⟩ => by
  refine (po_some ha).run pins s σ H Q I (rdW.mk rs hS w.of_bind.of_bind.of_d fun x S1 as1 H1 v w1 st1 r1 hS1 => ?_)
  obtain ⟨d, rfl, w1⟩ := w1
  have w2 : Out (R.of S1 (partD [d])) (fun o S' => ∀ as' H', Step as H as' H' → RepS κ as' H' S' → Q o H') (kX κ as H σ Wx) := w1
  cases d with
  | int i => exact ⟨i, r1, w2 as1 H1 st1 hS1⟩
  | _ => exact w2.elim⟩
theorem pd_slc (ok : CxOk X sc κ Φ) {lo hi : Option Expr} {p2 : Pos} {ml mu : Env → Sto → R (Option Int)} (ha : PE X a (rdW κ Wx ma)) (hl : PO X lo (rdO κ Wx ml)) (hu : PO X hi (rdO κ Wx mu)) :
    PE X (.Subscript a (.Slice lo hi none p2) pos) (rdW κ Wx fun ρ S => (ma ρ S).bind fun x S1 => (ml ρ S1).bind fun l S2 => (mu ρ S2).bind fun u S3 => (slcD (x.vw S3) l u S3).w) := by
  have hr : SlR X (fun x lo hi H Q => _ ∨ rSlS x lo hi H Q) := SlR.or sl_tupP sl_str
  refine PE.imp (pe_slice hr ha hl hu) fun σ H Q ⟨as, H0, ρ, S, rs, hS, w⟩ => ?_
  refine rdW.mk rs hS w.of_bind fun x S1 as1 H1 v w1 st1 r1 hS1 => ?_
  refine ⟨as1, H0, ρ, S1, rs.step st1, hS1, w1.of_bind.imp (fun l S2 w2 as2 H2 st2 hS2 => ?_) fun _ _ z => kX.on st1 z⟩
  refine ⟨as2, H0, ρ, S2, (rs.step st1).step st2, hS2, w2.of_bind.imp (fun u S3 w3 as3 H3 st3 hS3 => ?_) fun _ _ z => kX.on (st1.trans st2) z⟩
  have w4 := w3.of_w
  have rv := ((r1.step st2).step st3).vw hS3
  have st := (st1.trans st2).trans st3
  cases q : x.vw S3 with
  | tup xs =>
    rw [q] at rv
    obtain ⟨p, vs, rfl, hT, hd⟩ := rv
    rw [ok.hκ] at hT
    have w5 : kW κ as H Q (.d (.tup (cutL xs l u))) S3 := by simp only [q] at w4; exact w4
    refine .inl ⟨p, vs, rfl, hT.sq, fun z => ?_, fun _ => ?_⟩
    · rw [cut_all (by rw [hd.length]; exact z)] at w5
      exact kW.here (w := .d (.tup xs)) (kW.on st w5) ⟨p, vs, rfl, by rw [ok.hκ]; exact hT, hd⟩ hS3
    · exact kD.tup (kW.d (kW.on st w5)) hS3 (hd.cut l u)
  | str z =>
    rw [q] at rv
    have w5 : kW κ as H Q (.d (.str (cutL z l u))) S3 := by simp only [q] at w4; exact w4
    refine .inr ⟨tx z, rv.1, by rw [tx_len]; exact szOk_of rv.2, ?_⟩
    rw [cut_str]
    exact kW.here (w := .d (.str (cutL z l u))) (kW.on st w5) ⟨rfl, szOk_le rv.2 (cut_len _ _ _)⟩ hS3
  | _ => simp only [q] at w4; exact w4.elim
theorem pn_slc (ok : CxOk X sc κ Φ) {lo hi : Option Expr} {p2 : Pos} {ml mu : Env → Sto → R (Option Int)} (ha : PE X a (rdW κ Wx ma)) (hl : PO X lo (rdO κ Wx ml)) (hu : PO X hi (rdO κ Wx mu)) :
    PE X (.Subscript a (.Slice lo hi none p2) pos) (rdN κ Wx fun ρ S => (ma ρ S).bind fun x S1 => (ml ρ S1).bind fun l S2 => (mu ρ S2).bind fun u S3 => match x.vw S3 with
      | .lst xs => .ok (.lst (cutL xs l u)) S3
      | .scr ns => .ok (.lst ((cutL ns l u).map .int)) S3
      | _ => .bad) := by
  refine PE.imp (pe_slice sl_list ha hl hu) fun σ H Q ⟨as, H0, ρ, S, rs, hS, w⟩ => ?_
  refine rdW.mk rs hS w.of_bind fun x S1 as1 H1 v w1 st1 r1 hS1 => ?_
  refine ⟨as1, H0, ρ, S1, rs.step st1, hS1, w1.of_bind.imp (fun l S2 w2 as2 H2 st2 hS2 => ?_) fun _ _ z => kX.on st1 z⟩
  refine ⟨as2, H0, ρ, S2, (rs.step st1).step st2, hS2, w2.of_bind.imp (fun u S3 w4 as3 H3 st3 hS3 => ?_) fun _ _ z => kX.on (st1.trans st2) z⟩
  have rv := ((r1.step st2).step st3).vw hS3
  have st := (st1.trans st2).trans st3
  cases q : x.vw S3 with
  | lst xs =>
    rw [q] at rv
    obtain ⟨p, vs, rfl, hT, hd⟩ := rv
    have w5 : kN κ as H Q (.lst (cutL xs l u)) S3 := by simp only [q] at w4; exact w4
    exact ⟨p, vs, rfl, .inl hT, kN.lst (kN.on st w5) hS3 (hd.cut l u)⟩
  | scr ns =>
    rw [q] at rv
    obtain ⟨p, rfl, hT⟩ := rv
    rw [ok.hκ] at hT
    have w5 : kN κ as H Q (.lst ((cutL ns l u).map .int)) S3 := by simp only [q] at w4; exact w4
    have e : (cutL ns l u).map D.int = cutL (ns.map D.int) l u := by
      unfold cutL
      rw [List.map_take, List.map_drop, List.length_map]
    rw [e] at w5
    exact ⟨p, _, rfl, hT, kN.lst (kN.on st w5) hS3 ((scr_ds (ns := ns)).cut l u)⟩
  | _ => simp only [q] at w4; exact w4.elim
/-! ### isinstance -/
def tyN : D → Option String
  | .non => some "NoneType"
  | .bl _ => some "bool"
  | .int _ => some "int"
  | .str _ => some "str"
  | .tup _ => some "tuple"
  | .lst _ => some "list"
  | .scr _ => some "list"
  | .dic _ => some "dict"
  | .kdic _ => some "dict"
  | _ => none
def tyNames : List String := ["bool", "int", "str", "tuple", "list", "dict"]
theorem kit_tab : (["NoneType", "bool", "int", "str", "tuple", "list", "dict"].all fun a => tyNames.all fun b => decide (kitB a b = some (b == a || (a == "bool" && b == "int")))) = true := by decide +kernel
theorem tyN_isi {d : D} {t b : String} (h : tyN d = some t) (hb : b ∈ tyNames) : isiD d b = (b == t || (t == "bool" && b == "int")) ∧ kitB t b = some (isiD d b) := by
  have k := List.all_eq_true.mp kit_tab
  have e : t ∈ ["NoneType", "bool", "int", "str", "tuple", "list", "dict"] ∧ isiD d b = (b == t || (t == "bool" && b == "int")) := by
    cases d <;> cases h <;> refine ⟨by simp, ?_⟩ <;> (simp only [tyNames, List.mem_cons, List.mem_nil_iff, or_false] at hb; rcases hb with rfl | rfl | rfl | rfl | rfl | rfl <;> rfl)
  refine ⟨e.2, ?_⟩
  rw [e.2]
  exact of_decide_eq_true (List.all_eq_true.mp (k t e.1) b hb)
theorem tyX_of (hκ : κ.K = X.K) (hw : κ.w = X.w) {as : List Addr} {H : Hp} {d : D} {v : V} {t : String} (h : IsV κ as H d v) (e : tyN d = some t) : TyX X.K H v (.type t) := by
  cases d with
  | non => cases e; cases h; exact .base (.non)
  | bl b => cases e; cases h; exact .base (.bl b)
  | int i => cases e; cases h; exact .base (.int i)
  | str x => cases e; cases h.1; exact .base (.str _)
  | tup ds =>
    cases e
    obtain ⟨a, vs, rfl, hq, _⟩ := h
    rw [hκ] at hq
    rcases hq.sq with (hq | ⟨o, hq⟩) | ⟨o, its, n, h1, h2, _⟩
    · exact .base (.tup hq)
    · exact .fTuple hq
    · exact .kTuple h1 h2
  | lst ds =>
    cases e
    obtain ⟨a, vs, rfl, hq, _⟩ := h
    rcases hq with hq | ⟨o, hq⟩
    · exact .base (.lst hq)
    · exact .base (.frz hq)
  | scr ns =>
    cases e
    obtain ⟨a, rfl, hq⟩ := h
    rw [hκ] at hq
    rcases hq with (hq | ⟨o, hq⟩) | ⟨o, its, n, h1, h2, _⟩
    · exact .base (.lst hq)
    · exact .base (.frz hq)
    · exact .kList h1 h2
  | dic kvs =>
    cases e
    obtain ⟨a, vs, rfl, hq, _⟩ := h
    rcases hq with hq | ⟨o, hq⟩
    · exact .base (.dK hq)
    · exact .fDict hq
  | kdic kvs =>
    cases e
    obtain ⟨a, rfl, kd, _⟩ := h
    obtain ⟨es, n, kk⟩ := kd.lit
    rw [hκ, hw] at kk
    exact .kDict kk.at_ rfl
  | _ => cases e
theorem tyN_ok {d : D} (z : isiOk d = true) : ∃ t, tyN d = some t := by
  cases d <;> first | exact ⟨_, rfl⟩ | cases z
theorem boot_ty {T : String} (h : T ∈ tyNames) : bootBuiltins (Str.ofString T) = some (.type T) ∧ Str.ofString T ≠ "__name__" ∧ (Str.ofString T == ("__debug__" : Str)) = false := by
  simp only [tyNames, List.mem_cons, List.mem_nil_iff, or_false] at h
  rcases h with rfl | rfl | rfl | rfl | rfl | rfl <;> exact ⟨by decide +kernel, by decide +kernel, by decide +kernel⟩
theorem pd_isi (ok : CxOk X sc κ Φ) {T : String} {p p' : Pos} (hT : T ∈ tyNames) (hg : glB sc "isinstance" = true) (hgT : glB sc (Str.ofString T) = true) (hs : nostar a = true) (ha : PE X a (rdW κ Wx ma)) :
    PE X (.Call (.Name "isinstance" p) [a, .Name (Str.ofString T) p'] [] pos) (rdW κ Wx fun ρ S => (ma ρ S).bind fun x S1 => R.chk (isiOk2 [T] (x.vw S1)) (.ok (.d (.bl ([T].any (isiD (x.vw S1))))) S1)) := by
  obtain ⟨b1, b2, b3⟩ := boot_ty hT
  have i2 : ∀ d, isiOk2 [T] d = isiOk d := fun d => by
    simp only [tyNames, List.mem_cons, List.mem_nil_iff, or_false] at hT
    rcases hT with rfl | rfl | rfl | rfl | rfl | rfl <;> rfl
  have hTy : PE X (.Name (Str.ofString T) p') (tC (.ty T)) := pe_bltn (ok.gl hgT) (ok.blt T (by simp only [tyNames, List.mem_cons, List.mem_nil_iff, or_false] at hT; rcases hT with rfl | rfl | rfl | rfl | rfl | rfl <;> decide)) b1 rfl b2 b3
  refine PE.imp (pe_callB (id := "isinstance") call_isi (ok.gl hg) (ok.blt "isinstance" (by decide)) (by decide +kernel) (pa_cons ha (pa_cons hTy pa_nil) (star_cons hs)) (by decide +kernel) (by decide +kernel) (star_cons hs) rfl) fun σ H Q ⟨as, H0, ρ, S, rs, hS, w⟩ => ?_
  refine rdW.mk rs hS w.of_bind fun x S1 as1 H1 v w1 st1 r1 hS1 => ?_
  obtain ⟨z, w2⟩ := w1.of_chk
  rw [i2] at z
  obtain ⟨t, e⟩ := tyN_ok z
  have rv := r1.vw hS1
  obtain ⟨_, k⟩ := tyN_isi e hT
  have w3 : kW κ as H Q (.d (.bl (isiD (x.vw S1) T))) S1 := by
    have : ([T].any (isiD (x.vw S1))) = isiD (x.vw S1) T := by simp
    rw [this] at w2
    exact w2
  exact ⟨v, .ty T, .type t, .type T, _, rfl, .ty T, tyX_of ok.hκ ok.hw rv e, kit_ty k, kW.here (w := .d (.bl _)) (kW.on st1 w3) rfl hS1⟩
/-! ### methods -/
def attrOk : Expr → Bool
  | .Call (.Name _ _) [] [] _ => false
  | _ => true
theorem attrBase' {o : Expr} {f : Str} {env : PySem.Env} (h : attrOk o = true) : attributeBase o f env (eval o env) = eval o env := by
  cases o with
  | Call g as ks p =>
    cases g with
    | Name x q =>
      cases as with
      | nil => cases ks with
        | nil => cases h
        | cons _ _ => rfl
      | cons _ _ => rfl
    | _ => rfl
  | _ => rfl

theorem strs_of {as : List Addr} {H : Hp} : ∀ {ds : List D} {vs : List V} {zs : List Nm}, toStrs ds = some zs → IsDs κ as H ds vs → vs = (zs.map tx).map V.str
  | [], [], zs, e, _ => by cases e; rfl
  | [], _ :: _, _, _, h => h.elim
  | d :: r, [], _, _, h => h.elim
  | d :: r, v :: vs, zs, e, h => by
    cases d with
    | str z =>
      have e' : (toStrs r).map (z :: ·) = some zs := e
      obtain ⟨ys, e1, e2⟩ := Option.map_eq_some_iff.mp e'
      subst e2
      rw [strs_of e1 h.2]
      have := h.1.1
      subst this
      rfl
    | _ => cases e
theorem join_eq (a : Nm) : ∀ zs : List Nm, Txt.join (tx a) (zs.map tx) = tx (joinS a zs) := fun zs => by
  rw [show Txt.join (tx a) (zs.map tx) = Str.join (tx a) (zs.map tx) from by first | exact TL.join_eq _ _ | exact glued_eq_join _ _]
  induction zs with
  | nil => rfl
  | cons z r ih =>
    cases r with
    | nil => rfl
    | cons z2 r2 =>
      show tx z ++ tx a ++ Str.join (tx a) ((z2 :: r2).map tx) = tx (z ++ a ++ joinS a (z2 :: r2))
      rw [ih, tx_app, tx_app]
theorem joinS_len (a : Nm) : ∀ zs : List Nm, (joinS a zs).length ≤ (zs.map (·.length)).sum + zs.length * a.length
  | [] => by simp [joinS]
  | [z] => by simp [joinS]
  | z :: z2 :: r => by
    have ih := joinS_len a (z2 :: r)
    show (z ++ a ++ joinS a (z2 :: r)).length ≤ _
    rw [List.length_append, List.length_append, List.map_cons, List.sum_cons, List.length_cons (a := z), Nat.add_mul]
    omega
theorem pd_join (ok : CxOk X sc κ Φ) {apos : Pos} (hs : nostar b = true) (hbase : attributeBase a "join" X.env (eval a X.env) = eval a X.env) (hline : (apos.endLine == pos.line) = true) (ha : PE X a (rdW κ Wx ma)) (hb : PE X b (rdW κ Wx mb)) :
    PE X (.Call (.Attribute a "join" apos) [b] [] pos) (rdW κ Wx fun ρ S => (ma ρ S).d.bind fun x S1 => match x with
      | .str s => (mb ρ S1).bind fun y S2 => (joinD s (y.vw S2) S2).w
      | _ => .bad) := by
  refine PE.imp (pe_join ha hb (star_cons hs) hbase hline) fun σ H Q ⟨as, H0, ρ, S, rs, hS, w⟩ => ?_
  refine rdW.mk rs hS w.of_bind.of_d fun x S1 as1 H1 v w1 st1 r1 hS1 => ?_
  obtain ⟨d, rfl, w1⟩ := w1
  cases d with
  | str s =>
    have w1 : Out ((mb ρ S1).bind fun y S2 => (joinD s (y.vw S2) S2).w) (kW κ as H Q) (kX κ as H σ Wx) := w1
    have rv : v = .str (tx s) := r1.1
    refine ⟨⟨tx s, rv⟩, rdW.mk (rs.step st1) hS1 (w1.onW st1).of_bind fun y S2 as2 H2 v2 w2 st2 r2 hS2 => ?_⟩
    obtain ⟨d2, e, k⟩ := Out.of_of w2.of_w
    obtain ⟨zs, e1, e2⟩ := Option.bind_eq_some_iff.mp e
    obtain ⟨ds, e3, e4⟩ := Option.bind_eq_some_iff.mp e1
    by_cases z : szOk ((zs.map (·.length)).sum + zs.length * s.length) = true
    · rw [if_pos z] at e2
      cases e2
      obtain ⟨p, vs, rfl, hq, hd⟩ := items_of ok.hκ (r2.vw hS2) e3
      have ev := strs_of e4 hd
      subst ev
      have el : ((zs.map tx).map (·.length)).sum + (zs.map tx).length * (tx s).length = (zs.map (·.length)).sum + zs.length * s.length := by
        have : ((·.length) ∘ tx : Nm → Nat) = (·.length) := funext tx_len
        rw [List.length_map, tx_len, List.map_map, this]
      refine ⟨tx s, p, zs.map tx, rv, rfl, hq, by rw [el]; have := szOk_of z; rw [sizeLine_eq] at this; exact this, ?_⟩
      rw [join_eq]
      exact kW.here (w := .d (.str (joinS s zs))) (kW.on st2 k) ⟨rfl, szOk_le z (joinS_len s zs)⟩ hS2
    · rw [if_neg z] at e2; cases e2
  | _ => exact w1.elim
theorem upper_eq {z : Nm} (h : z.all (fun c => decide (c < 128)) = true) : Txt.upper (tx z) = tx (upS z) := by
  have tab : ((List.range 128).all fun c => decide (Unicode.upperOf c = [if 97 ≤ c ∧ c ≤ 122 then c - 32 else c])) = true := by decide +kernel
  have one : ∀ c < 128, Unicode.upperOf c = [if 97 ≤ c ∧ c ≤ 122 then c - 32 else c] := fun c hc => of_decide_eq_true (List.all_eq_true.mp tab c (List.mem_range.mpr hc))
  have h' : ∀ c ∈ z, c < 128 := fun c hc => of_decide_eq_true (List.all_eq_true.mp h c hc)
  have e : ((tx z).cps.mapIdx fun i c => (Unicode.upperOf c).toArray).flatten = (upS z).toArray := by
    apply Array.toList_inj.mp
    have e1 : ((tx z).cps.mapIdx fun i c => (Unicode.upperOf c).toArray) = ((tx z).cps.map fun c => (Unicode.upperOf c).toArray) := by
      apply Array.toList_inj.mp
      simp [List.mapIdx_eq_zipIdx_map, tx]
      apply List.ext_getElem?
      intro i
      simp only [List.getElem?_map, List.getElem?_zipIdx, Option.map_map]
      rfl
    rw [e1, Array.toList_flatten]
    simp only [tx, upS, List.map_toArray, List.map_map]
    clear e1 h
    induction z with
    | nil => rfl
    | cons c r ih =>
      have ih := ih fun x hx => h' x (List.mem_cons_of_mem _ hx)
      simp only [List.map_cons, List.flatten_cons, Function.comp, one c (h' c List.mem_cons_self)] at ih ⊢
      rw [ih]
      rfl
  show (⟨((tx z).cps.mapIdx fun i c => (Unicode.upperOf c).toArray).flatten⟩ : Str) = _
  rw [e]
  rfl
theorem pd_upper (ok : CxOk X sc κ Φ) {apos : Pos} (hbase : attributeBase a "upper" X.env (eval a X.env) = eval a X.env) (hline : (apos.endLine == pos.line) = true) (ha : PE X a (rdW κ Wx ma)) :
    PE X (.Call (.Attribute a "upper" apos) [] [] pos) (rdW κ Wx fun ρ S => (ma ρ S).bind fun x S1 => R.chk (rcv .upper (x.vw S1)) ((R.ok (α := List D) [] S1).bind fun ds S2 => (mthD .upper (x.vw S2) ds S2).w)) := by
  refine PE.imp (pe_upper ha hbase hline) fun σ H Q ⟨as, H0, ρ, S, rs, hS, w⟩ => ?_
  refine rdW.mk rs hS w.of_bind fun x S1 as1 H1 v w1 st1 r1 hS1 => ?_
  obtain ⟨z, w2⟩ := w1.of_chk
  have rv := r1.vw hS1
  cases q : x.vw S1 with
  | str s =>
    rw [q] at rv
    have w3 := w2.of_bind.of_w
    have w3 : Out (mthD .upper (x.vw S1) [] S1) (fun d S => kW κ as H Q (.d d) S) (kX κ as H σ Wx) := w3
    rw [q] at w3
    obtain ⟨z, w4⟩ := Out.of_chk w3
    obtain ⟨z1, z2⟩ := ba2 z
    refine ⟨⟨tx s, rv.1⟩, tx s, rv.1, rfl, by rw [tx_len]; exact of_decide_eq_true z2, ?_⟩
    rw [upper_eq z1]
    exact kW.here (w := .d (.str (upS s))) (kW.on st1 w4) ⟨rfl, by unfold upS; rw [List.length_map]; exact rv.2⟩ hS1
  | _ => rw [q] at z; cases z
/-! dicts -/
theorem isd_of {as : List Addr} {H : Hp} {kvs : List (Ky × D)} {v : V} (h : IsV κ as H (.dic kvs) v) : ∃ a kws, v = .ref a ∧ L2.IsD H a ∧ Rd H a (.dK kws) ∧ IsKs κ as H kvs kws := by
  obtain ⟨a, kws, e, r, k⟩ := h
  exact ⟨a, kws, e, .inl ⟨kws, r⟩, r, k⟩
theorem getD_of {as : List Addr} {H : Hp} {kvs : List (Ky × D)} {kws : List (L2.Key × V)} {q : Ky} {d : D} {v : V} (k : IsKs κ as H kvs kws) (h : IsD κ as H d v) : IsD κ as H ((lookK kvs q).getD d) ((valV kws (kx q)).getD v) := by
  cases e : lookK kvs q with
  | none => rw [look_none k e]; exact h
  | some x =>
    obtain ⟨u, h1, h2⟩ := look_val k e
    rw [h1]; exact h2
theorem kd_get {pins : List (Addr × Obj)} {σ : L2.St} {H : Hp} {s : Shared} {A : Around} {d : Addr} {es : Array DictEntry} {n : Nat} {z : Str} {u : Value} {r : Option Value} {Q : Value → Shared → Prop} (D : KDict X.K X.w d es n) (I : Inv X pins σ H s) (ry : RelV (.str z) u) (e : PySem.W.nsIn X.K d z = some r)
    (h : ∀ s', Inv X pins σ H s' → Q (r.getD .none) s') : wpAny (model X.prog X.w) A (PySem.call (.builtin "dict.get") [.ref d, u]) Q E s := by
  obtain ⟨t, rfl⟩ := ry
  have hm := PySem.W.mapOf_K (prog := X.prog) (w := X.w) I.kIn D.at_ D.lit
  refine call_meetsIn PySem.F.slot_dict_get (kd_type D I) PySem.F.entry_dict_get (PySem.F.args_dict_get_2 _ _) (meets_dict_get (knd := strKind X.prog X.w) (hkey := strKind_is X.prog X.w z t) (hd := D.low)) ⟨_, hm, ?_⟩
  rw [PySem.W.find_K D.at_ e]
  exact h _ (I.tok _)
/-- o.get(e), o a dict or a written dict -/
def tGetA (X : Cx) (td ty : TE) : TE := fun σ H Q => td σ H fun x H1 => ∃ a, x = .ref a ∧ (L2.IsD H1 a ∨ ∃ es n, KDict X.K X.w a es n) ∧ ty σ H1 fun y H2 => (∃ o, DGet H2 a y o ∧ Q (o.getD .non) H2) ∨ ∃ es n z r, KDict X.K X.w a es n ∧ y = .str z ∧ PySem.W.nsIn X.K a z = some r ∧ ∃ v, RelV v (r.getD .none) ∧ Q v H2
theorem pe_getA {o e : Expr} {apos cpos : Pos} {td ty : TE} (hu : X.A.units + 1 < cLine) (ho : PE X o td) (he : PE X e ty) (m : M1 X o "get" apos e cpos) : PE X (.Call (.Attribute o "get" apos) [e] [] cpos) (tGetA X td ty) := by
  refine ⟨fun pins s σ H Q I h => ?_⟩
  refine wpAny_Call_method m.base m.few m.line PySem.F.plainAttrs_dict PySem.F.slot_dict_get PySem.F.type_dict_get (thn (ho.run pins s σ H _ I h) fun u s1 ⟨x, H1, I1, rx, a, ex, d, q1⟩ => ?_)
  subst ex
  obtain rfl : u = Value.ref a := rx
  have tt : s1.TypeIs (.ref a) "dict" ∧ (∀ b, Value.ref a = .ref b → ∃ ob, s1.heap.get? b = some ob ∧ ob.dict = none) := by
    rcases d with d | ⟨es, n, D⟩
    · obtain ⟨t1, t2, _⟩ := isD_at I1 d
      exact ⟨t1, t2⟩
    · refine ⟨kd_type D I1, fun b q => ?_⟩
      cases q
      exact ⟨_, I1.kIn _ _ D.at_, rfl⟩
  refine ⟨tt.1, tt.2, ?_⟩
  rw [m.trees]
  refine Calls.callWith_builtin rfl (Calls.evalArgs_plain (Calls.spliced_cons (thn (he.run pins s1 σ H1 _ I1 q1) fun iv s2 ⟨y, H2, I2, ry, q2⟩ => Calls.spliced_nil ?_)))
  rcases q2 with ⟨ov, g, q2⟩ | ⟨es, n, z, r, D, rfl, e, v, rv, q2⟩
  · exact d_get1 hu I2 g ry fun w' s3 I3 rw' => ⟨_, H2, I3, rw', q2⟩
  · exact kd_get D I2 ry e fun s3 I3 => ⟨v, H2, I3, rv, q2⟩
theorem kd_get2 {pins : List (Addr × Obj)} {σ : L2.St} {H : Hp} {s : Shared} {A : Around} {d : Addr} {es : Array DictEntry} {n : Nat} {z : Str} {u f : Value} {r : Option Value} {Q : Value → Shared → Prop} (D : KDict X.K X.w d es n) (I : Inv X pins σ H s) (ry : RelV (.str z) u) (e : PySem.W.nsIn X.K d z = some r)
    (h : ∀ s', Inv X pins σ H s' → Q (r.getD f) s') : wpAny (model X.prog X.w) A (PySem.call (.builtin "dict.get") [.ref d, u, f]) Q E s := by
  obtain ⟨t, rfl⟩ := ry
  have hm := PySem.W.mapOf_K (prog := X.prog) (w := X.w) I.kIn D.at_ D.lit
  refine call_meetsIn PySem.F.slot_dict_get (kd_type D I) PySem.F.entry_dict_get (PySem.F.args_dict_get_3 _ _ _) (meets_dict_get_default (knd := strKind X.prog X.w) (hkey := strKind_is X.prog X.w z t) (hd := D.low) (dflt := f)) ⟨_, hm, ?_⟩
  rw [PySem.W.find_K D.at_ e]
  exact h _ (I.tok _)
def tGetA2 (X : Cx) (td ty tz : TE) : TE := fun σ H Q => td σ H fun x H1 => ∃ a, x = .ref a ∧ (L2.IsD H1 a ∨ ∃ es n, KDict X.K X.w a es n) ∧ ty σ H1 fun y H2 => tz σ H2 fun z H3 => (∃ o, DGet H3 a y o ∧ Q (o.getD z) H3) ∨ ∃ es n q r, KDict X.K X.w a es n ∧ y = .str q ∧ PySem.W.nsIn X.K a q = some r ∧ ((r = none ∧ Q z H3) ∨ ∃ v u, r = some u ∧ RelV v u ∧ Q v H3)
theorem pe_getA2 {o e f : Expr} {apos cpos : Pos} {td ty tz : TE} (hu : X.A.units + 1 < cLine) (ho : PE X o td) (he : PE X e ty) (hf : PE X f tz) (m : M2 X o "get" apos e f cpos) : PE X (.Call (.Attribute o "get" apos) [e, f] [] cpos) (tGetA2 X td ty tz) := by
  refine ⟨fun pins s σ H Q I h => ?_⟩
  refine wpAny_Call_method m.base m.few m.line PySem.F.plainAttrs_dict PySem.F.slot_dict_get PySem.F.type_dict_get (thn (ho.run pins s σ H _ I h) fun u s1 ⟨x, H1, I1, rx, a, ex, d, q1⟩ => ?_)
  subst ex
  obtain rfl : u = Value.ref a := rx
  have tt : s1.TypeIs (.ref a) "dict" ∧ (∀ b, Value.ref a = .ref b → ∃ ob, s1.heap.get? b = some ob ∧ ob.dict = none) := by
    rcases d with d | ⟨es, n, D⟩
    · obtain ⟨t1, t2, _⟩ := isD_at I1 d
      exact ⟨t1, t2⟩
    · refine ⟨kd_type D I1, fun b q => ?_⟩
      cases q
      exact ⟨_, I1.kIn _ _ D.at_, rfl⟩
  refine ⟨tt.1, tt.2, ?_⟩
  rw [m.trees]
  refine Calls.callWith_builtin rfl (Calls.evalArgs_plain (Calls.spliced_cons (thn (he.run pins s1 σ H1 _ I1 q1) fun iv s2 ⟨y, H2, I2, ry, q2⟩ =>
    Calls.spliced_cons (thn (hf.run pins s2 σ H2 _ I2 q2) fun fv s3 ⟨z, H3, I3, rz, q3⟩ => Calls.spliced_nil ?_))))
  rcases q3 with ⟨ov, g, q3⟩ | ⟨es, n, q, r, D, rfl, e, q3⟩
  · exact d_get2 hu I3 g ry rz fun w' s4 I4 rw' => ⟨_, H3, I4, rw', q3⟩
  · refine kd_get2 D I3 ry e fun s4 I4 => ?_
    rcases q3 with ⟨rfl, q3⟩ | ⟨v, u, rfl, rv, q3⟩
    · exact ⟨z, H3, I4, rz, q3⟩
    · exact ⟨v, H3, I4, rv, q3⟩
theorem vw_kd {x : W} {S S' : Sto} {kvs : List (Nm × D)} (h : x.vw S = .kdic kvs) : x.vw S' = .kdic kvs := by
  cases x with
  | own c => cases c <;> cases h
  | d y =>
    cases y with
    | ref a =>
      have h : (match S[a]? with
        | some c => c.vw
        | none => D.ref a) = .kdic kvs := h
      cases e : S[a]? with
      | none => rw [e] at h; cases h
      | some c => rw [e] at h; cases c <;> cases h
    | _ => exact h
theorem pd_get1 (ok : CxOk X sc κ Φ) {apos : Pos} (hs : nostar b = true) (hbase : attributeBase a "get" X.env (eval a X.env) = eval a X.env) (hline : (apos.endLine == pos.line) = true) (ha : PE X a (rdW κ Wx ma)) (hb : PE X b (rdW κ Wx mb)) :
    PE X (.Call (.Attribute a "get" apos) [b] [] pos) (rdW κ Wx fun ρ S => (ma ρ S).bind fun x S1 => R.chk (rcv .get (x.vw S1)) (((mb ρ S1).d.bind fun d S1 => (R.ok (α := List D) [] S1).bind fun ds S2 => .ok (d :: ds) S2).bind fun ds S2 => (mthD .get (x.vw S2) ds S2).w)) := by
  have hu : X.A.units + 1 < cLine := by have := ok.un; omega
  refine PE.imp (pe_getA (apos := apos) (cpos := pos) hu ha hb ⟨hbase, fewArgs (fun e he => by rw [List.mem_singleton.mp he]; exact hs) (by simp), hline, by rw [star_cons hs]; rfl⟩) fun σ H Q ⟨as, H0, ρ, S, rs, hS, w⟩ => ?_
  refine rdW.mk rs hS w.of_bind fun x S1 as1 H1 v w1 st1 r1 hS1 => ?_
  obtain ⟨z, w2⟩ := w1.of_chk
  have rv := r1.vw hS1
  cases q : x.vw S1 with
  | dic kvs =>
    rw [q] at rv
    obtain ⟨a, kws, rfl, i1, _, _⟩ := isd_of rv
    refine ⟨a, rfl, .inl i1, rdW.mk (rs.step st1) hS1 (w2.onW st1).of_bind.of_bind.of_d fun y S2 as2 H2 v2 w3 st2 r2 hS2 => ?_⟩
    obtain ⟨d, rfl, w3⟩ := w3
    have w4 : Out (mthD .get (x.vw S2) [d] S2) (fun d S => kW κ as1 H1 Q (.d d) S) (kX κ as1 H1 σ Wx) := Out.of_w w3
    have rv2 := (r1.step st2).vw hS2
    cases q2 : x.vw S2 with
    | dic kvs2 =>
      rw [q2] at rv2 w4
      obtain ⟨a', kws2, e, _, r3, k3⟩ := isd_of rv2
      cases e
      have nn : IsD κ as2 H2 .non .non := rfl
      cases d with
      | int i =>
        cases (show v2 = .int i from r2)
        exact .inl ⟨_, .inl ⟨kws2, .inl i, r3, rfl, rfl⟩, kW.here (w := .d ((lookK kvs2 (.inl i)).getD .non)) (kW.on st2 w4) (getD_of (q := .inl i) k3 nn) hS2⟩
      | str i =>
        cases r2.1
        exact .inl ⟨_, .inl ⟨kws2, .inr (tx i), r3, rfl, rfl⟩, kW.here (w := .d ((lookK kvs2 (.inr i)).getD .non)) (kW.on st2 w4) (getD_of (q := .inr i) k3 nn) hS2⟩
      | _ => exact w4.elim
    | kdic kvs2 =>
      rw [vw_kd (S' := S1) q2] at q
      cases q
    | _ => rw [q2] at w4; cases d <;> exact w4.elim
  | kdic kvs =>
    rw [q] at rv
    obtain ⟨a, rfl, kd, hz⟩ := rv
    obtain ⟨es, n, kd'⟩ := kd.lit
    rw [ok.hκ, ok.hw] at kd'
    refine ⟨a, rfl, .inr ⟨es, n, kd'⟩, rdW.mk (rs.step st1) hS1 (w2.onW st1).of_bind.of_bind.of_d fun y S2 as2 H2 v2 w3 st2 r2 hS2 => ?_⟩
    obtain ⟨d, rfl, w3⟩ := w3
    have w4 : Out (mthD .get (x.vw S2) [d] S2) (fun d S => kW κ as1 H1 Q (.d d) S) (kX κ as1 H1 σ Wx) := Out.of_w w3
    have eq2 : x.vw S2 = .kdic kvs := vw_kd q
    rw [eq2] at w4
    cases d with
    | str i =>
      cases r2.1
      obtain ⟨r, e1, e2⟩ := lookz_some kd hz (q := i)
      rw [ok.hκ] at e1
      cases e3 : lookN kvs i with
      | none =>
        have w5 : Out (.ok .non S2) (fun d S => kW κ as1 H1 Q (.d d) S) (kX κ as1 H1 σ Wx) := by
          have : mthD .get (.kdic kvs) [.str i] S2 = .ok ((lookN kvs i).getD .non) S2 := id rfl
          rw [this, e3] at w4
          exact w4
        rw [e3] at e2
        cases r with
        | some _ => cases e2
        | none => exact .inr ⟨es, n, tx i, none, kd', rfl, e1, .non, rfl, kW.here (w := .d .non) (kW.on st2 w5) (show IsD κ as2 H2 .non .non from rfl) hS2⟩
      | some dd =>
        have w5 : Out (.ok dd S2) (fun d S => kW κ as1 H1 Q (.d d) S) (kX κ as1 H1 σ Wx) := by
          have : mthD .get (.kdic kvs) [.str i] S2 = .ok ((lookN kvs i).getD .non) S2 := id rfl
          rw [this, e3] at w4
          exact w4
        obtain ⟨u0, v0, f1, f2, f3⟩ := lookz_val (hz.mono st2.pr st2.imm) e3
        rw [ok.hκ, e1] at f1
        cases f1
        exact .inr ⟨es, n, tx i, some u0, kd', rfl, e1, v0, f2, kW.here (w := .d dd) (kW.on st2 w5) f3 hS2⟩
    | _ => exact w4.elim
  | _ => rw [q] at z; cases z
theorem pd_get2 (ok : CxOk X sc κ Φ) {apos : Pos} (hs : nostar b = true) (hs2 : nostar c = true) (hbase : attributeBase a "get" X.env (eval a X.env) = eval a X.env) (hline : (apos.endLine == pos.line) = true) (ha : PE X a (rdW κ Wx ma)) (hb : PE X b (rdW κ Wx mb)) (hc : PE X c (rdW κ Wx mc)) :
    PE X (.Call (.Attribute a "get" apos) [b, c] [] pos) (rdW κ Wx fun ρ S => (ma ρ S).bind fun x S1 => R.chk (rcv .get (x.vw S1)) (((mb ρ S1).d.bind fun d S1 => ((mc ρ S1).d.bind fun d S1 => (R.ok (α := List D) [] S1).bind fun ds S2 => .ok (d :: ds) S2).bind fun ds S2 => .ok (d :: ds) S2).bind fun ds S2 => (mthD .get (x.vw S2) ds S2).w)) := by
  have hu : X.A.units + 1 < cLine := by have := ok.un; omega
  refine PE.imp (pe_getA2 (apos := apos) (cpos := pos) hu ha hb hc ⟨hbase, fewArgs (fun e he => by rcases List.mem_cons.mp he with rfl | he; exact hs; rw [List.mem_singleton.mp he]; exact hs2) (by simp), hline, by rw [star_cons hs, star_cons hs2]; rfl⟩) fun σ H Q ⟨as, H0, ρ, S, rs, hS, w⟩ => ?_
  refine rdW.mk rs hS w.of_bind fun x S1 as1 H1 v w1 st1 r1 hS1 => ?_
  obtain ⟨z, w2⟩ := w1.of_chk
  have rv := r1.vw hS1
  cases q : x.vw S1 with
  | dic kvs =>
    rw [q] at rv
    obtain ⟨a, kws, rfl, i1, _, _⟩ := isd_of rv
    refine ⟨a, rfl, .inl i1, rdW.mk (rs.step st1) hS1 (w2.onW st1).of_bind.of_bind.of_d fun y S2 as2 H2 v2 w3 st2 r2 hS2 => ?_⟩
    obtain ⟨d, rfl, w3⟩ := w3
    refine rdW.mk ((rs.step st1).step st2) hS2 (w3.of_bind.of_bind.of_d.imp (fun _ _ z => z) fun _ _ z => kX.on st2 z) fun y S3 as3 H3 v3 w5 st3 r3 hS3 => ?_
    obtain ⟨d', rfl, w5⟩ := w5
    have w4 : Out (mthD .get (x.vw S3) [d, d'] S3) (fun d S => kW κ as1 H1 Q (.d d) S) (kX κ as1 H1 σ Wx) := Out.of_w (show Out (mthD .get (x.vw S3) [d, d'] S3).w (kW κ as1 H1 Q) (kX κ as1 H1 σ Wx) from w5)
    have rv2 := ((r1.step st2).step st3).vw hS3
    have r2' : IsD κ as3 H3 d v2 := IsD.step st3 r2
    cases q2 : x.vw S3 with
    | dic kvs2 =>
      rw [q2] at rv2 w4
      obtain ⟨a', kws2, e, _, r4, k3⟩ := isd_of rv2
      cases e
      have nn : IsD κ as3 H3 d' v3 := r3
      cases d with
      | int i =>
        cases (show v2 = .int i from r2')
        exact .inl ⟨_, .inl ⟨kws2, .inl i, r4, rfl, rfl⟩, kW.here (w := .d ((lookK kvs2 (.inl i)).getD d')) (kW.on (st2.trans st3) w4) (getD_of (q := .inl i) k3 nn) hS3⟩
      | str i =>
        cases r2'.1
        exact .inl ⟨_, .inl ⟨kws2, .inr (tx i), r4, rfl, rfl⟩, kW.here (w := .d ((lookK kvs2 (.inr i)).getD d')) (kW.on (st2.trans st3) w4) (getD_of (q := .inr i) k3 nn) hS3⟩
      | _ => exact w4.elim
    | kdic kvs2 =>
      rw [vw_kd (S' := S1) q2] at q
      cases q
    | _ => rw [q2] at w4; cases d <;> exact w4.elim
  | kdic kvs =>
    rw [q] at rv
    obtain ⟨a, rfl, kd, hz⟩ := rv
    obtain ⟨es, n, kd'⟩ := kd.lit
    rw [ok.hκ, ok.hw] at kd'
    refine ⟨a, rfl, .inr ⟨es, n, kd'⟩, rdW.mk (rs.step st1) hS1 (w2.onW st1).of_bind.of_bind.of_d fun y S2 as2 H2 v2 w3 st2 r2 hS2 => ?_⟩
    obtain ⟨d, rfl, w3⟩ := w3
    refine rdW.mk ((rs.step st1).step st2) hS2 (w3.of_bind.of_bind.of_d.imp (fun _ _ z => z) fun _ _ z => kX.on st2 z) fun y S3 as3 H3 v3 w5 st3 r3 hS3 => ?_
    obtain ⟨d', rfl, w5⟩ := w5
    have w4 : Out (mthD .get (x.vw S3) [d, d'] S3) (fun d S => kW κ as1 H1 Q (.d d) S) (kX κ as1 H1 σ Wx) := Out.of_w (show Out (mthD .get (x.vw S3) [d, d'] S3).w (kW κ as1 H1 Q) (kX κ as1 H1 σ Wx) from w5)
    have r2' : IsD κ as3 H3 d v2 := IsD.step st3 r2
    rw [vw_kd (S' := S3) q] at w4
    cases d with
    | str i =>
      cases r2'.1
      obtain ⟨r, e1, e2⟩ := lookz_some kd hz (q := i)
      rw [ok.hκ] at e1
      have w4 : Out (.ok ((lookN kvs i).getD d') S3) (fun d S => kW κ as1 H1 Q (.d d) S) (kX κ as1 H1 σ Wx) := w4
      cases e3 : lookN kvs i with
      | none =>
        rw [e3] at e2 w4
        cases r with
        | some _ => cases e2
        | none => exact .inr ⟨es, n, tx i, none, kd', rfl, e1, .inl ⟨rfl, kW.here (w := .d d') (kW.on (st2.trans st3) w4) r3 hS3⟩⟩
      | some dd =>
        rw [e3] at w4
        obtain ⟨u0, v0, f1, f2, f3⟩ := lookz_val (hz.mono (st2.trans st3).pr (st2.trans st3).imm) e3
        rw [ok.hκ, e1] at f1
        cases f1
        exact .inr ⟨es, n, tx i, some u0, kd', rfl, e1, .inr ⟨v0, u0, rfl, f2, kW.here (w := .d dd) (kW.on (st2.trans st3) w4) f3 hS3⟩⟩
    | _ => exact w4.elim
  | _ => rw [q] at z; cases z
theorem pn_dic0 : PE X (.Dict [] [] pos) (rdN κ Wx fun _ S => (R.ok (α := List D) [] S).bind fun ds S1 => match pairUp ds with
    | some kvs => .ok (.dct (mergeK [] kvs)) S1
    | none => .bad) := by
  refine PE.imp pe_dnewK fun σ H Q ⟨as, H0, ρ, S, rs, hS, w⟩ d hd => ?_
  have w1 : kN κ as H Q (.dct []) S := w
  exact kN.dct w1 hS (kws := []) True.intro d hd
theorem pn_list (ok : CxOk X sc κ Φ) {p : Pos} (hg : glB sc "list" = true) (hs : nostar a = true) (ha : PE X a (rdW κ Wx ma)) :
    PE X (.Call (.Name "list" p) [a] [] pos) (rdN κ Wx fun ρ S => (ma ρ S).bind fun x S1 => (R.of S1 (itemsD (x.vw S1))).bind fun xs S1 => .ok (.lst xs) S1) := by
  refine PE.imp (pe_callTy (T := "list") call_list_of (ok.gl hg) (ok.blt "list" (by decide)) (by decide +kernel) (pa_cons ha pa_nil (star_cons hs)) (by decide +kernel) (by decide +kernel) (star_cons hs) rfl) fun σ H Q ⟨as, H0, ρ, S, rs, hS, w⟩ => ?_
  refine rdW.mk rs hS w.of_bind fun x S1 as1 H1 v w1 st1 r1 hS1 => ?_
  obtain ⟨xs, e, k⟩ := Out.of_of w1.of_bind
  obtain ⟨p, vs, rfl, hq, hd⟩ := items_of ok.hκ (r1.vw hS1) e
  exact ⟨p, vs, rfl, hq, kN.lst (kN.on st1 k) hS1 hd⟩
end
end Ev
set_option maxHeartbeats 4000000
/-! Ev, part 15b: isinstance of a caught error (or nothing) and classes of errors. -/
namespace Ev
open PySem PySem.Spec PyProof.Rows L2
inductive KxV (K : PySem.W.Frag) (H : Hp) : V → Value → Prop where
  | non : KxV K H .non (.type "NoneType")
  | exc {a C : Addr} (h : H a = some (excO a C none)) (c : ExcC K C) : KxV K H (.ref a) (.ref C)
section
variable {X : Cx} {pins : List (Addr × Obj)} {σ : L2.St} {H : Hp} {s : Shared}
theorem kxv_of {x : V} {u t : Value} (I : Inv X pins σ H s) (rx : RelV x u) (k : KxV X.K H x t) : ∃ P : Heap → Prop, PySem.W.KitX X.K u t P ∧ P s.heap ∧ u ≠ .builtin "__main__.__loader__#opaque" := by
  cases k with
  | non =>
    cases (show u = Value.none from rx)
    exact ⟨_, PySem.W.kitx_none, True.intro, fun z => nomatch z⟩
  | @exc a C h c =>
    cases (show u = Value.ref a from rx)
    obtain ⟨p, _, _⟩ := (show ObjOk X.prog X.w H s.heap a (excO a C none) from I.hok a _ h)
    obtain ⟨o, e1, e2, e3, vs, e4⟩ := p
    have J : PySem.W.InstAt s.heap a o C none := by
      obtain ⟨oc, od, oda, osl⟩ := o
      dsimp only at e2 e3 e4
      subst e2 e3 e4
      exact ⟨e1, rfl, rfl, trivial⟩
    exact ⟨_, PySem.W.handS_kitx_exc c.hg c.hk c.hs c.hd c.ha c.hn c.ht c.hm, J, fun z => nomatch z⟩
def rIx (K : PySem.W.Frag) : List V → Hp → VK → Prop := fun xs H Q => ∃ (x c : V) (t u : Value) (b : Bool), xs = [x, c] ∧ (ClsV c u ∧ (KxV K H x t ∧ (PySem.W.kitOne K t u = some b ∧ Q (.bl b) H)))
def rIxT (K : PySem.W.Frag) : List V → Hp → VK → Prop := fun xs H Q => ∃ (x : V) (tp : Addr) (o : Obj) (cs : List V) (t : Value) (us : List Value) (b : Bool), xs = [x, .ref tp] ∧ (H tp = some (.frz o (.tup cs)) ∧ (Paired ClsV cs us ∧ (KxV K H x t ∧ (PySem.W.kitAny K t us = some b ∧ Q (.bl b) H))))
theorem call_isx : CallR X (.builtin "isinstance") (rIx X.K) := by
  intro pins s σ H xs us Q I r h
  obtain ⟨x, c, t, u, b, rfl, k, ty, e, q⟩ := h
  obtain ⟨u1, u2, rfl, r1, r2⟩ := vals2 r
  have e2 := k.eq r2
  subst e2
  obtain ⟨P, Z, p, ho⟩ := kxv_of I r1 ty
  exact PySem.W.kia_one Z I.kIn p e ho fun tk => ⟨.bl b, H, I.tok tk, rfl, q⟩
theorem call_isxT : CallR X (.builtin "isinstance") (rIxT X.K) := by
  intro pins s σ H xs us Q I r h
  obtain ⟨x, tp, ob, cs, t, ws, b, rfl, hT, k, ty, e, q⟩ := h
  obtain ⟨u1, u2, rfl, r1, r2⟩ := vals2 r
  cases (show u2 = Value.ref tp from r2)
  obtain ⟨P, Z, p, ho⟩ := kxv_of I r1 ty
  obtain ⟨_, _, its, rv, o, h1, h2, n, h3⟩ := (show ObjOk X.prog X.w H s.heap tp (.frz ob (.tup cs)) from I.hok tp _ hT)
  have e3 := ClsV.all k rv
  subst e3
  obtain ⟨oc, od, dt, sl⟩ := o
  simp only at h2 h3
  subst h2 h3
  exact PySem.W.kia_tup Z I.kIn p h1 e ho fun tk => ⟨.bl b, H, I.tok tk, rfl, q⟩
end
/-- is it a class of errors of the program, or the built-in one -/
def erB (sc : SC) (T : String) : Bool := isErr T && ((T == "ValueError" && glB sc (Str.ofString T)) || (sc.cs.any fun p => p.1 == T && isExc p.2) && (glB sc (Str.ofString T) && !odd (Str.ofString T)))
section
variable {X : Cx} {sc : SC} {κ : Kx} {Φ : Fn} {Wx : L2.WX} {a : Expr} {ma : MW} {pos : Pos}
theorem er_cs {T : String} (h : (sc.cs.any fun p => p.1 == T && isExc p.2) = true) : ∃ c l, (T, D.exc c l) ∈ sc.cs := by
  obtain ⟨⟨q1, q2⟩, hq, e⟩ := List.any_eq_true.mp h
  obtain ⟨e1, e2⟩ := ba2 e
  have e1 : q1 = T := eq_of_beq e1
  subst e1
  cases q2 with
  | exc c l => exact ⟨c, l, hq⟩
  | _ => cases e2
def kxT (K : PySem.W.Frag) : D → Value
  | .exc c _ => .ref (He.ga K (Str.ofString c))
  | _ => .type "NoneType"
def okX (κ : Kx) : D → Prop
  | .exc c _ => c ∈ κ.es
  | _ => True
theorem kx_val (ok : CxOk X sc κ Φ) {as : List Addr} {H : Hp} {d : D} {v : V} (r : IsV κ as H d v) (z : isXN d = true) : KxV X.K H v (kxT X.K d) ∧ okX κ d := by
  cases d with
  | non =>
    cases (show v = .non from r)
    exact ⟨.non, True.intro⟩
  | exc c fs =>
    obtain ⟨a, rfl, hq, _, hc⟩ := (show IsD κ as H (.exc c fs) v from r)
    obtain ⟨c', l, hm⟩ := (ok.cs.k c).mp hc
    rw [ok.hκ] at hq
    exact ⟨.exc hq (ok.cs.e _ _ _ hm).c, hc⟩
  | _ => cases z
/-- the class as a value -/
theorem er_cls (ok : CxOk X sc κ Φ) {T : String} (h : erB sc T = true) : ∃ (c : V) (u : Value), ClsV c u ∧ (∀ p, PE X (.Name (Str.ofString T) p) (tC c)) ∧
    ∀ (d : D), isXN d = true → okX κ d → PySem.W.kitOne X.K (kxT X.K d) u = some (isiD d T) := by
  obtain ⟨h1, h2⟩ := ba2 h
  rcases Bool.or_eq_true_iff.mp h2 with h3 | h3
  · obtain ⟨e, hg⟩ := ba2 h3
    have e : T = "ValueError" := eq_of_beq e
    subst e
    refine ⟨.ty "ValueError", .type "ValueError", .ty _, fun p => pe_bltn (ok.gl hg) (ok.blt "ValueError" (by decide)) (by decide +kernel) rfl (by decide +kernel) (by decide +kernel), fun d z hx => ?_⟩
    cases d with
    | non => exact kit_ty (by decide +kernel)
    | exc c fs =>
      obtain ⟨c', l, hm⟩ := (ok.cs.k c).mp hx
      have k := ok.cs.e _ _ _ hm
      show PySem.W.kitOne X.K (.ref (He.ga X.K (Str.ofString c))) _ = some (c == "ValueError" || (errs.contains c && true))
      rw [k.ve, k.er]
      simp
    | _ => cases z
  · obtain ⟨h4, h5⟩ := ba2 h3
    obtain ⟨hg, ho⟩ := ba2 h5
    obtain ⟨c', l, hm⟩ := er_cs h4
    have kT := ok.cs.e _ _ _ hm
    refine ⟨.ref (He.ga X.K (Str.ofString T)), .ref (He.ga X.K (Str.ofString T)), .own _, fun p => pe_glob (ok.gl hg) kT.mg rfl (odd_db (by simpa using ho)), fun d z hx => ?_⟩
    cases d with
    | non => exact kT.nn "NoneType" (by decide)
    | exc c fs =>
      obtain ⟨c'', l', hm'⟩ := (ok.cs.k c).mp hx
      exact ((ok.cs.e _ _ _ hm').pair _ _ _ hm).2
    | _ => cases z
theorem isx_one (ok : CxOk X sc κ Φ) {T : String} {p p' : Pos} (hT : erB sc T = true) (hg : glB sc "isinstance" = true) (hs : nostar a = true) (ha : PE X a (rdW κ Wx ma)) :
    PE X (.Call (.Name "isinstance" p) [a, .Name (Str.ofString T) p'] [] pos) (rdW κ Wx fun ρ S => (ma ρ S).bind fun x S1 => R.chk (isiOk2 [T] (x.vw S1)) (.ok (.d (.bl ([T].any (isiD (x.vw S1))))) S1)) := by
  have i2 : ∀ d, isiOk2 [T] d = isXN d := fun d => by
    have : errCs [T] = true := by
      show (isErr T && true) = true
      rw [(ba2 hT).1]
      rfl
    unfold isiOk2
    rw [if_pos this]
  obtain ⟨cv, u, hcu, hTy, hk⟩ := er_cls ok hT
  refine PE.imp (pe_callB (id := "isinstance") call_isx (ok.gl hg) (ok.blt "isinstance" (by decide)) (by decide +kernel) (pa_cons ha (pa_cons (hTy p') pa_nil) (star_cons hs)) (by decide +kernel) (by decide +kernel) (star_cons hs) rfl) fun σ H Q ⟨as, H0, ρ, S, rs, hS, w⟩ => ?_
  refine rdW.mk rs hS w.of_bind fun x S1 as1 H1 v w1 st1 r1 hS1 => ?_
  obtain ⟨z, w2⟩ := w1.of_chk
  rw [i2] at z
  have rv := r1.vw hS1
  obtain ⟨kx, hx⟩ := kx_val ok rv z
  have kt := hk _ z hx
  have w3 : kW κ as H Q (.d (.bl (isiD (x.vw S1) T))) S1 := by
    have : ([T].any (isiD (x.vw S1))) = isiD (x.vw S1) T := by simp
    rw [this] at w2
    exact w2
  exact ⟨v, cv, _, u, _, rfl, hcu, kx, kt, kW.here (w := .d (.bl _)) (kW.on st1 w3) rfl hS1⟩
/-- names of classes of errors -/
def erNs (sc : SC) : List String → List Expr → Bool
  | [], [] => true
  | T :: Ts, .Name x _ :: es => (decide (x = Str.ofString T) && erB sc T) && erNs sc Ts es
  | _, _ => false
theorem er_all (ok : CxOk X sc κ Φ) : ∀ {Ts : List String} {es : List Expr}, erNs sc Ts es = true → ∃ (cvs : List V) (us : List Value), Paired ClsV cvs us ∧ PA X es (fun _ H Q => Q cvs H) ∧ cvs.length = es.length ∧
    ∀ (d : D), isXN d = true → okX κ d → PySem.W.kitAny X.K (kxT X.K d) us = some (Ts.any (isiD d))
  | [], [], _ => ⟨[], [], .nil, pa_nil, rfl, fun d z hx => rfl⟩
  | T :: Ts, .Name x p :: es, h => by
    obtain ⟨h1, h2⟩ := ba2 (show ((decide (x = Str.ofString T) && erB sc T) && erNs sc Ts es) = true from h)
    obtain ⟨h1, h3⟩ := ba2 h1
    have h1 := of_decide_eq_true h1
    subst h1
    obtain ⟨cv, u, hcu, hTy, hk⟩ := er_cls ok h3
    obtain ⟨cvs, us, p1, p2, p3, p4⟩ := er_all ok h2
    refine ⟨cv :: cvs, u :: us, .cons hcu p1, pa_cons (hTy p) p2, by rw [List.length_cons, List.length_cons, p3], fun d z hx => ?_⟩
    have k2 := hk d z hx
    have k4 := p4 d z hx
    exact kitAny_cons k2 (fun e => by rw [k4, List.any_cons, e, Bool.false_or]) fun e => by rw [List.any_cons, e, Bool.true_or]
  | [], _ :: _, h => by cases h
  | _ :: _, [], h => by cases h
theorem erNs_is : ∀ {Ts : List String} {es : List Expr}, erNs sc Ts es = true → errCs Ts = true
  | [], [], _ => rfl
  | T :: Ts, .Name x p :: es, h => by
    obtain ⟨h1, h2⟩ := ba2 (show ((decide (x = Str.ofString T) && erB sc T) && erNs sc Ts es) = true from h)
    show (isErr T && errCs Ts) = true
    rw [(ba2 (ba2 h1).2).1, erNs_is h2]
    rfl
  | [], _ :: _, h => by cases h
  | _ :: _, [], h => by cases h
theorem isx_all (ok : CxOk X sc κ Φ) {Ts : List String} {es : List Expr} {k : Nat} {p p' : Pos} (hT : erNs sc Ts es = true) (hl : es.length ≤ 1000) (hg : glB sc "isinstance" = true) (hs : nostar a = true) (ha : PE X a (rdW κ Wx ma)) :
    PE X (.Call (.Name "isinstance" p) [a, .Tuple es k p'] [] pos) (rdW κ Wx fun ρ S => (ma ρ S).bind fun x S1 => R.chk (isiOk2 Ts (x.vw S1)) (.ok (.d (.bl (Ts.any (isiD (x.vw S1))))) S1)) := by
  have i2 : ∀ d, isiOk2 Ts d = isXN d := fun d => by
    unfold isiOk2
    rw [if_pos (erNs_is hT)]
  obtain ⟨cvs, us, p1, p2, p3, hk⟩ := er_all ok hT
  have hTup : PE X (.Tuple es k p') (tTupP fun _ H Q => Q cvs H) := pe_tupP p2
  refine PE.imp (pe_callB (id := "isinstance") call_isxT (ok.gl hg) (ok.blt "isinstance" (by decide)) (by decide +kernel) (pa_cons ha (pa_cons hTup pa_nil) (star_cons hs)) (by decide +kernel) (by decide +kernel) (star_cons hs) rfl) fun σ H Q ⟨as, H0, ρ, S, rs, hS, w⟩ => ?_
  refine rdW.mk rs hS w.of_bind fun x S1 as1 H1 v w1 st1 r1 hS1 => ?_
  obtain ⟨z, w2⟩ := w1.of_chk
  rw [i2] at z
  have rv := r1.vw hS1
  obtain ⟨kx, hx⟩ := kx_val ok rv z
  have kt := hk _ z hx
  refine ⟨by rw [p3, sizeLine_eq]; omega, fun T o hT ho => ?_⟩
  have hv : KxV X.K (upd H1 T (.frz o (.tup cvs))) v (kxT X.K (x.vw S1)) := by
    generalize kxT X.K (x.vw S1) = t at kx
    cases kx with
    | non => exact .non
    | exc h c => exact .exc (by rw [upd_ne (ne_of_none h hT)]; exact h) c
  exact ⟨v, T, o, cvs, _, us, _, rfl, upd_same, p1, hv, kt, w2 _ _ _ (st1.trans (Step.new hT)) rfl (RepS.new hT hS1)⟩
end
end Ev
set_option maxHeartbeats 4000000
/-! Ev, part 16: raise; try .. except C as e: x = e. -/
namespace Ev
open PySem PySem.Spec PyProof.Rows L2
section
variable {X : Cx} {pins : List (Addr × Obj)} {σ : L2.St} {H : Hp} {s : Shared}
theorem hok_new {P : Program} {w : World} {h : Heap} {a : Addr} {o : HO} (x : HOk P w H h) (hn : H a = none) (new : ObjOk P w (upd H a o) h a o) : HOk P w (upd H a o) h := fun b u e => by
  by_cases hb : b = a
  · rw [hb, upd_same] at e
    injection e with e
    rw [hb, ← e]
    exact new
  · rw [upd_ne hb] at e
    exact (x b u e).stay (fun c v _ q => q) (fun c q => (upd_ne (ne_of_none q hn)).trans q) fun c xs q => (upd_ne (ne_of_none q hn)).trans q
/-- an object that lies there untracked is tracked from now on -/
theorem inv_adopt {a : Addr} {o : HO} (I : Inv X pins σ H s) (hn : H a = none) (h0 : X.s_0.heap.get? a = none) (nl : a ≠ X.env.locals) (nc : ∀ x c, X.env.cells.lookup x = some c → c ≠ a) (np : ∀ p ∈ X.pn ++ pins, p.1 ≠ a)
    (new : ObjOk X.prog X.w (upd H a o) s.heap a o) : Inv X pins σ (upd H a o) s :=
  ⟨I.ok, I.os, I.bare,
    { keep := I.base.keep, slot := I.base.slot
      free := fun b u q n hx => by rw [upd_ne (fun z => by rw [z, h0] at q; cases q)]; exact I.base.free b u q n hx
      there := I.base.there
      tups := fun b xs q => by
        have z := I.base.tups b xs q
        rw [upd_ne (ne_of_none z hn)]; exact z
      frzs := fun b u xs q => by
        have z := I.base.frzs b u xs q
        rw [upd_ne (ne_of_none z hn)]; exact z
      tbls := fun b ps q => by
        obtain ⟨m, z⟩ := I.base.tbls b ps q
        exact ⟨m, by rw [upd_ne (ne_of_none z hn)]; exact z⟩ },
    I.loc, I.cell, by rw [upd_ne (Ne.symm nl)]; exact I.free, fun x c e => by rw [upd_ne (nc x c e)]; exact I.freeC x c e,
    fun p hp => let ⟨e, n, r⟩ := I.pin p hp; ⟨e, by rw [upd_ne (np p hp)]; exact n, r⟩, hok_new I.hok hn new, I.len⟩
end
/-- what the clause 'except x as n: y = n' wishes: slot i is n's, slot j is y's; the error lies there from then on -/
def wKp (K : PySem.W.Frag) (c : Value) (i j : Nat) (Wo : WX) (D : Ends) : WX := fun cls d σ H =>
  ∃ b, PySem.W.exmOne K cls c = some b ∧ ((b = true → ∀ a C, cls = .ref C → d = none → H a = none → D.nx (((σ.set i (some (.ref a))).set j (some (.ref a))).set i none) (upd H a (excO a C none))) ∧ (b = true → (∃ C, cls = .ref C) ∧ d = none) ∧ (b = false → Wo cls d σ H))
section
variable {X : Cx} {x n y : Str} {c : Value} {i j : Nat} {body : List Stmt} {np pos pos' py pn' pa : Pos} {tb : WX → TS} {Wo : WX}
theorem ps_try_kp (hs : X.stack = X.env :: X.outer) (hf : X.env.frame = some X.env.locals) (hex : X.ex = []) (hN : X.N.Nodup) (hi : X.N[i]? = some n) (hln : X.env.kindOf n = some .local) (hj : X.N[j]? = some y) (hly : X.env.kindOf y = some .local) (hij : i ≠ j) (hc : Names X x c) (tk : Takes X Wo) (hon : odd n = false)
    (hb : ∀ (W : WX) (pn : List (Addr × Obj)) (xe : Value → Shared → Prop), Takes (X.tr pn xe) W → PassesOwn (model X.prog X.w) X.A X.env xe → PSs (X.tr pn xe) body (tb W)) :
    PS X (.Try body [.ExceptHandler (some (.Name x np)) (some n) [.Assign [.Name y py] (.Name n pn') pa] pos'] [] [] pos) (fun D σ H => tb (wKp X.K c i j Wo D) D σ H) := by
  refine ⟨fun pins s σ H D I h => ?_⟩
  have okx := I.ok
  have r1 : X.A.frames = some (X.env :: X.outer) := by rw [okx.frames, hs]
  have r2 : Loc X.env.scope n := .inl hln
  refine wpAny_Try_except ?_
  refine wpAny_mono ((hb (wKp X.K c i j Wo D) (X.pn ++ pins) (fun e s₁ => wpAny (model X.prog X.w) X.A (noteFrame e X.env) (fun _ s₂ => wpAny (model X.prog X.w) X.A (setFlight e none) (fun _ s₃ => wpAny (model X.prog X.w) X.A (handleBy e X.env [.ExceptHandler (some (.Name x np)) (some n) [.Assign [.Name y py] (.Name n pn') pa] pos']) (SP X pins D) X.xe s₃) X.xe s₂) X.xe s₁) (fun u s' xx => ?_) PassesOwn.looking).run [] s σ H D (I.toTry _) h) (fun f s1 hsp => ?_) (fun e s1 he => he)
  · obtain ⟨a, B, sI, pins', σ', H', cls, d, rfl, J', nb, up, sky, na, os, ag, b, b1, bD, byes, bno⟩ := xx
    have J : Inv X pins σ' H' sI := J'.ofTry okx
    have sk : Sky B (X.env :: X.outer) a (Zc cls d) X.env.locals s'.heap := by rw [← hs]; exact sky
    show wpAny _ X.A (noteFrame (.ref a) X.env) _ _ (id s')
    refine Sky.land Zc.steady r1 hf sk fun h3 fl3 up3 => ?_
    have J3 : Inv X pins σ' H' { s' with heap := h3 } := J.landed nb fl3.1 (up.trans up3) os ag
    obtain ⟨o3, v3, he3, hz3, hd3⟩ := fl3.there
    have nofr : ∀ {h : Heap} {o : Obj} {vs : Array Value}, h.FunFrames B (X.env :: X.outer) → h.get? a = some o → o.data = .fields vs → a ∉ frs (X.env :: X.outer) := fun {h o vs} ff e dd hm => by
      obtain ⟨_, o', e', q⟩ := ff.mem hm
      rw [e] at e'; cases e'; exact q _ dd
    have n1 := nofr fl3.2.2.1 he3 hd3
    have nL : a ≠ X.env.locals := fun z => n1 (List.mem_filterMap.mpr ⟨X.env, List.mem_cons_self, by rw [hf, z]⟩)
    have nF : a ∉ X.fs := fun hm => by
      obtain ⟨e, he, q⟩ := List.mem_filterMap.mp hm
      exact n1 (List.mem_filterMap.mpr ⟨e, List.mem_cons_of_mem _ he, q⟩)
    have nI : sI.heap.get? a = none := by
      cases q : sI.heap.get? a with
      | none => rfl
      | some o =>
        have := nb a o q (by rw [hs]; exact n1)
        rw [fl3.2.1] at this
        cases this
    have n0 : X.s_0.heap.get? a = none := by
      cases q : X.s_0.heap.get? a with
      | none => rfl
      | some o =>
        obtain ⟨o', z⟩ := J.base.there a o q (by rw [hex]; exact fun z => nomatch z)
        rw [nI] at z
        cases z
    have nP : ∀ p ∈ X.pn ++ pins, p.1 ≠ a := fun p hp e => by
      have := (J.pin p hp).1
      rw [e, nI] at this
      cases this
    have S3 := J3.suite he3 hd3 na nL nF
    refine wpAny_handleBy_cons (codeAny_handlers_test ?_) (by intro q; cases q)
    have LT : PySem.W.Looks (model X.prog X.w) h3 (typeOf (.ref a)) cls := fun A Q E s k q => wpAny_typeOf_ref (k _ _ he3) (by rw [hz3.1]; exact q)
    have LM := PySem.W.exm_one (M := model X.prog X.w) (J3.kIn) LT b1
    have tst : ∀ {Q : Value → Shared → Prop} {E : Value → Shared → Prop}, Q c { s' with heap := h3 } → wpAny (model X.prog X.w) (X.A.mark (some (.ref a))) (eval (.Name x np) X.env) Q E { s' with heap := h3 } := fun {Q E} q => by
      obtain ⟨hg, hdbg, hm | ⟨hm, hv, hnn⟩⟩ := hc
      · exact ld_glob (X := X.suite a ((a, o3) :: (X.pn ++ pins))) S3 hg hm q hdbg
      · exact ld_blt (X := X.suite a ((a, o3) :: (X.pn ++ pins))) S3 hg hm hv q hnn hdbg
    refine tst (LM.here ?_)
    cases b with
    | true =>
      obtain ⟨⟨C, eC⟩, ed⟩ := byes rfl
      refine codeAny_handlers_suite_as ?_
      refine HandSPX.lands_againZ fl3 fun h4 fl4 up4 => ?_
      have J4 : Inv X pins σ' H' { s' with heap := h4 } := J.landed nb fl4.1 ((up.trans up3).trans up4) os ag
      obtain ⟨o4, v4, he4, hz4, hd4⟩ := fl4.there
      have nC : ∀ x c, X.env.cells.lookup x = some c → c ≠ a := fun x c e z => by
        obtain ⟨v, o, ho, hd⟩ := J4.cell x c e
        rw [z] at ho
        have : some o4 = some o := he4.symm.trans ho
        cases this
        rw [hd4] at hd
        cases hd
      have new : ObjOk X.prog X.w (upd H' a (excO a C none)) h4 a (excO a C none) := by
        refine ⟨⟨o4, he4, by rw [hz4.1, eC], by rw [hz4.2, ed], v4, hd4⟩, ⟨o4, he4⟩, fun g g' ⟨o, e, r⟩ k => ⟨o, k o e, r⟩⟩
      have J5 : Inv X pins σ' (upd H' a (excO a C none)) { s' with heap := h4 } := inv_adopt J4 na n0 nL nC nP new
      have S5 : Inv (X.suite a (X.pn ++ pins)) [] σ' (upd H' a (excO a C none)) { s' with heap := h4 } :=
        ⟨J5.ok.suite _ _, J5.os, J5.bare, J5.base, J5.loc, J5.cell, J5.free, J5.freeC, fun p hp => J5.pin p (by rw [List.append_nil] at hp; exact hp), J5.hok, J5.len⟩
      refine store_ok (X := X.suite a (X.pn ++ pins)) (v := .ref a) S5 hN hi r2 rfl (fun s5 S6 => ?_) (.inr hln)
      have pv : PE (X.suite a (X.pn ++ pins)) (.Name n pn') (tVar i) := pe_var hi (.inl hln) (odd_db hon) (odd_cd hon)
      have run : PSs (X.suite a (X.pn ++ pins)) [.Assign [.Name y py] (.Name n pn') pa] _ := pss_cons (ps_set (X := X.suite a (X.pn ++ pins)) hN hj (.inl hly) pv rfl (.inr hly)) pss_nil
      have hlt : i < σ'.length := by
        rw [J.len]
        exact (List.getElem?_eq_some_iff.mp hi).1
      refine wpAny_mono (run.run [] s5 _ _ { nx := fun σ2 H2 => σ2 = (σ'.set i (some (.ref a))).set j (some (.ref a)) ∧ H2 = upd H' a (excO a C none), rt := fun _ _ => False, bk := fun _ _ => False, ct := fun _ _ => False } S6 ⟨.ref a, List.getElem?_set_self hlt, rfl, rfl⟩) (fun f s6 hsp => ?_) (fun _ _ z => False.elim z)
      have end_ : ∀ {σ6 : L2.St} {H6 : Hp} {Q : Shared → Prop}, Inv (X.suite a (X.pn ++ pins)) [] σ6 H6 s6 → (∀ s7, Inv X pins (σ6.set i none) H6 s7 → Q s7) → wpAny (model X.prog X.w) X.A (do bindName X.env n .none; unbindBehindTheSuite X.env n pos') (fun _ s7 => Q s7) X.xe s6 := fun {σ6 H6 Q} S7 hq =>
        gone_ok ⟨okx, S7.os, S7.bare, S7.base, S7.loc, S7.cell, S7.free, S7.freeC, fun p hp => S7.pin p (List.mem_append_left _ hp), S7.hok, S7.len⟩ hN hi hln hq
      cases f with
      | next =>
        obtain ⟨σ6, H6, S7, q6, q7⟩ := hsp
        subst q6 q7
        exact end_ S7 fun s7 J7 => ⟨_, _, J7, bD rfl a C eC ed na⟩
      | brk => obtain ⟨_, _, _, z⟩ := hsp; exact z.elim
      | cont => obtain ⟨_, _, _, z⟩ := hsp; exact z.elim
      | ret u => obtain ⟨_, _, _, _, _, z⟩ := hsp; exact z.elim
    | false =>
      show wpAny _ X.A (handleBy (.ref a) X.env []) _ _ (id _)
      refine wpAny_handleBy_nil ?_
      obtain ⟨k1, k2, k3, oe, vs, T, oT, ts', he, hz, hd, h1, hr⟩ := id fl3
      unfold PySem.passOn
      refine wpAny_bind (wpAny_field he hd h1 ?_)
      rw [if_neg (show ¬ ((Value.ref T == Value.none) = true) from by simp)]
      have fin : wpAny (model X.prog X.w) X.A (setFlight (.ref a) X.env.frame) (fun _ s4 => wpAny (model X.prog X.w) X.A (throw (.ref a) : Sem Flow) (SP X pins D) X.xe s4) X.xe { s' with heap := h3 } := by
        rw [hf]; refine HandSPX.setFlight_upZ fl3 fun h4 hh4 up4 => wpAny_throw (tk _ _ ?_)
        exact ⟨a, B, sI, pins, σ', H', cls, d, rfl, J, nb, (up.trans up3).trans up4, .inr (.inr (by rw [hs]; exact hh4)), na, os, ag, bno rfl⟩
      first | exact wpAny_bind (wpAny_pure (wpAny_bind fin)) | exact wpAny_bind fin
  · cases f with
    | next =>
      obtain ⟨σ', H', J', q⟩ := hsp; exact wpAny_execs_nil ⟨σ', H', J'.ofTry okx, q⟩
    | brk =>
      obtain ⟨σ', H', J', q⟩ := hsp; exact ⟨σ', H', J'.ofTry okx, q⟩
    | cont =>
      obtain ⟨σ', H', J', q⟩ := hsp; exact ⟨σ', H', J'.ofTry okx, q⟩
    | ret u =>
      obtain ⟨v, σ', H', J', r, q⟩ := hsp; exact ⟨v, σ', H', J'.ofTry okx, r, q⟩
end
/-- where statements stand -/
structure SxOk (X : Cx) : Prop where
  stk : X.stack = X.env :: X.outer
  fr : X.env.frame = some X.env.locals
  ex : X.ex = []
/-- is it a class of errors of the program -/
def erT (sc : SC) (T : String) : Bool := (sc.cs.any fun p => p.1 == T && isExc p.2) && (glB sc (Str.ofString T) && !odd (Str.ofString T))
/-- .. that takes a text alone -/
def raiB (sc : SC) (T : String) : Bool := (sc.cs.any fun p => p.1 == T && isE0 p.2) && (glB sc (Str.ofString T) && !odd (Str.ofString T))
section
variable {X : Cx} {sc : SC} {κ : Kx} {Φ : Fn} {Wx : L2.WX} {N : Nat} {pos : Pos}
theorem CxOk.tr (ok : CxOk X sc κ Φ) (pn : List (Addr × Obj)) (xe : Value → Shared → Prop) : CxOk (X.tr pn xe) sc κ Φ :=
  ⟨ok.hκ, ok.hw, ok.N, ok.nd, ok.nm, ok.kind, ok.calm, ok.un, ok.fn, ok.blt, fun f x e => ⟨(ok.fns f x e).ex⟩, ok.cs, fun i hi => let z := ok.ci i hi; ⟨z.mg, z.cls, z.noat, z.meth, z.maker⟩⟩
theorem SxOk.tr (sx : SxOk X) (pn : List (Addr × Obj)) (xe : Value → Shared → Prop) : SxOk (X.tr pn xe) := ⟨sx.stk, sx.fr, sx.ex⟩
theorem ps_rais (ok : CxOk X sc κ Φ) (tk : Takes X Wx) {c : String} {m : Str} {j : Nat} {p p2 p3 : Pos} (h : raiB sc c = true) :
    PS X (.Raise (some (.Call (.Name (Str.ofString c) p) [.Constant (.str m) j p2] [] p3)) none pos) (rdS κ Wx N fun ρ S => .ok (.ex (.exc c []) ρ) S) := by
  obtain ⟨h1, h2⟩ := ba2 h
  obtain ⟨h2, h3⟩ := ba2 h2
  obtain ⟨⟨q1, q2⟩, hq, e⟩ := List.any_eq_true.mp h1
  obtain ⟨e1, e2⟩ := ba2 e
  have e1 : q1 = c := eq_of_beq e1
  subst e1
  obtain ⟨c', rfl⟩ : ∃ c', q2 = .exc c' [] := by
    cases q2 with
    | exc c' l => cases l with
      | nil => exact ⟨c', rfl⟩
      | cons _ _ => cases e2
    | _ => cases e2
  have k := ok.cs.e _ _ _ hq
  have mk : PMk X (.Call (.Name (Str.ofString q1) p) [.Constant (.str m) j p2] [] p3) (fun _ H Q => Q (.ref (He.ga X.K (Str.ofString q1))) none H) :=
    pmk_own PySem.F.excBase_ValueError (k.own rfl) k.mg k.keep (raises_own k.sub k.ty) (ok.gl h2) (odd_db (by simpa using h3))
  refine PS.imp (ps_raise ok.calm tk mk) fun D σ H ⟨as0, H0, as, ρ, S, st0, rs, hS, hl, w⟩ => ?_
  exact w as H σ st0 Imm.refl Pre.refl hS hl rs _ none ⟨by rw [ok.hκ], (ok.cs.k _).mpr ⟨_, _, hq⟩, fun _ => rfl, fun z => absurd rfl z⟩
/-- behind a try with one clause that keeps its error in a name -/
noncomputable def tryR (Φ : Fn) (c : String) (i j : Nat) : R Fl → R Fl
  | .ok (.ex e ρ1) S1 => if isiD e c = true then R.chk (isE0 e) (evSs Φ [.asg (.nm j) (.var i), .kill [i]] (ρ1.put i (.d e)) S1) else .ok (.ex e ρ1) S1
  | r => r
theorem keep_ev {i j : Nat} {e : D} {ρ1 : Env} {S1 : Sto} : evSs Φ [.asg (.nm j) (.var i), .kill [i]] (ρ1.put i (.d e)) S1 = if i < ρ1.length then .ok (.nx (((ρ1.put i (.d e)).put j (.d e)).del i)) S1 else .bad := by
  have g : Env.get (ρ1.put i (.d e)) i = if i < ρ1.length then some (.d e) else none := by
    rw [get_put]
    by_cases h : i < ρ1.length
    · rw [if_pos ⟨rfl, h⟩, if_pos h]
    · rw [if_neg (fun z => h z.2), if_neg h, get_none _ _ h]
  have ev : evW Φ (ρ1.put i (.d e)) (.var i) S1 = R.of S1 (Env.get (ρ1.put i (.d e)) i) := by rw [evW] <;> rfl
  have ev2 : evE Φ (ρ1.put i (.d e)) (.var i) S1 = (R.of S1 (Env.get (ρ1.put i (.d e)) i)).d := by
    rw [← ev]
    rfl
  rw [evSs, evS, ev2, g]
  by_cases h : i < ρ1.length
  · rw [if_pos h, if_pos h]
    show (R.ok (Fl.nx ((ρ1.put i (.d e)).put j (.d e))) S1).nx _ = _
    show evSs Φ [.kill [i]] _ S1 = _
    rw [evSs, evS]
    show evSs Φ [] _ S1 = _
    rw [evSs]
    rfl
  · rw [if_neg h, if_neg h]
    rfl
theorem ps_tryk (ok : CxOk X sc κ Φ) (tk : Takes X Wx) (sx : SxOk X) {i j : Nat} {n y : Str} {c : String} {ma : MS} {body : List Stmt} {np py pn' pa pos' : Pos} (hN : X.N.length = N) (hi : sc.N[i]? = some n) (hln : sc.nm.lookup n = some .local) (hj : sc.N[j]? = some y) (hly : sc.nm.lookup y = some .local) (hij : i ≠ j) (hon : odd n = false) (hc : erT sc c = true)
    (hb : ∀ (W : WX) (pn : List (Addr × Obj)) (xe : Value → Shared → Prop), Takes (X.tr pn xe) W → PassesOwn (model X.prog X.w) X.A X.env xe → PSs (X.tr pn xe) body (rdS κ W N ma)) :
    PS X (.Try body [.ExceptHandler (some (.Name (Str.ofString c) np)) (some n) [.Assign [.Name y py] (.Name n pn') pa] pos'] [] [] pos) (rdS κ Wx N fun ρ S => tryR Φ c i j (ma ρ S)) := by
  obtain ⟨h1, h2⟩ := ba2 hc
  obtain ⟨h2, h3⟩ := ba2 h2
  obtain ⟨c', l, hm⟩ := er_cs h1
  have kc := ok.cs.e _ _ _ hm
  have kd : ∀ x, X.env.kindOf x = sc.nm.lookup x := fun x => by unfold Env.kindOf; rw [ok.nm]
  have nms : Names X (Str.ofString c) (.ref (He.ga X.K (Str.ofString c))) := ⟨ok.gl h2, odd_db (by simpa using h3), .inl kc.mg⟩
  have base := ps_try_kp (X := X) (Wo := Wx) (pos := pos) (pos' := pos') (np := np) (py := py) (pn' := pn') (pa := pa) (tb := fun W => rdS κ W N ma) sx.stk sx.fr sx.ex ok.nd (by rw [ok.N]; exact hi) (by rw [kd]; exact hln) (by rw [ok.N]; exact hj) (by rw [kd]; exact hly) hij nms tk hon hb
  refine PS.imp base fun D σ H ⟨as0, H0, as, ρ, S, st0, rs, hS, hl, w⟩ => ?_
  refine ⟨as0, H0, as, ρ, S, st0, rs, hS, hl, ?_⟩
  have w : Out (tryR Φ c i j (ma ρ S)) (kF κ as0 H0 as H N D Wx) FF := w
  cases q : ma ρ S with
  | bad => rw [q] at w; exact w
  | exc e S1 => rw [q] at w; exact w
  | ok f S1 =>
    rw [q] at w
    cases f with
    | nx ρ1 => exact w
    | bk ρ1 => exact w
    | ct ρ1 => exact w
    | rt x => cases x <;> exact w
    | ex e ρ1 =>
      intro as' H' σ' st' im pr hS' hl' rs' cls dd hx
      cases e with
      | exc e fs =>
        obtain ⟨rfl, hce, hd0, _⟩ := hx
        obtain ⟨c2, l2, hm2⟩ := (ok.cs.k e).mp hce
        have ke := ok.cs.e _ _ _ hm2
        have xm := (ke.pair _ _ _ hm).1
        refine ⟨subC e c, by rw [ok.hκ]; exact xm, fun hb a C eC ed na => ?_, fun hb => ?_, fun hb => ?_⟩
        · have w : Out (if subC e c = true then R.chk (isE0 (.exc e fs)) (evSs Φ [.asg (.nm j) (.var i), .kill [i]] (ρ1.put i (.d (.exc e fs))) S1) else .ok (.ex (.exc e fs) ρ1) S1) (kF κ as0 H0 as H N D Wx) FF := w
          rw [if_pos hb] at w
          obtain ⟨z, w⟩ := Out.of_chk w
          obtain rfl : fs = [] := by
            cases fs with
            | nil => rfl
            | cons _ _ => cases z
          rw [keep_ev] at w
          have hri : i < ρ1.length := by
            by_cases q : i < ρ1.length
            · exact q
            · rw [if_neg q] at w; exact w.elim
          rw [if_pos hri] at w
          have eC : C = He.ga κ.K (Str.ofString e) := by injection eC with eC; exact eC.symm
          subst eC
          have sn : Step as' H' as' (upd H' a (excO a (He.ga κ.K (Str.ofString e)) none)) := Step.new na
          have hv : IsD κ as' (upd H' a (excO a (He.ga κ.K (Str.ofString e)) none)) (.exc e []) (.ref a) := ⟨a, rfl, upd_same, rfl, hce⟩
          have hli : i < σ'.length := by rw [hl', ← hN, ok.N]; exact (List.getElem?_eq_some_iff.mp hi).1
          have hlj : j < (σ'.set i (some (.ref a))).length := by rw [List.length_set, hl', ← hN, ok.N]; exact (List.getElem?_eq_some_iff.mp hj).1
          have r2 := ((rs'.step sn).set hli hv).set hlj hv
          have r3 : RelS κ as' H0 (upd H' a (excO a (He.ga κ.K (Str.ofString e)) none)) (((σ'.set i (some (.ref a))).set j (some (.ref a))).set i none) (((ρ1.put i (.d (.exc e []))).put j (.d (.exc e []))).del i) := by
            have gd : ∀ (ρ : Env) k w, (ρ.del i).get k = some w → k ≠ i ∧ ρ.get k = some w := fun ρ k w e => by
              rw [get_del] at e
              by_cases z : i = k
              · rw [if_pos z] at e; cases e
              · rw [if_neg z] at e; exact ⟨fun q => z q.symm, e⟩
            refine ⟨fun k d e => ?_, fun k c e => ?_, fun k k' c e a' ne e1 e2 e3 => ?_⟩
            · obtain ⟨n1, e⟩ := gd _ _ _ e
              obtain ⟨v, e1, e2⟩ := r2.val k d e
              exact ⟨v, by rw [List.getElem?_set_ne (Ne.symm n1)]; exact e1, e2⟩
            · obtain ⟨n1, e⟩ := gd _ _ _ e
              obtain ⟨v, e1, e2⟩ := r2.own k c e
              exact ⟨v, by rw [List.getElem?_set_ne (Ne.symm n1)]; exact e1, e2⟩
            · obtain ⟨n1, e1⟩ := gd _ _ _ e1
              obtain ⟨n2, e2⟩ := gd _ _ _ e2
              rw [List.getElem?_set_ne (Ne.symm n1)] at e3
              rw [List.getElem?_set_ne (Ne.symm n2)]
              exact r2.dis k k' c e a' ne e1 e2 e3
          exact w as' _ _ (st'.trans sn) (im.trans (Imm.new na)) pr (RepS.new na hS') (by simp [hl']) r3
        · have w : Out (if subC e c = true then R.chk (isE0 (.exc e fs)) (evSs Φ [.asg (.nm j) (.var i), .kill [i]] (ρ1.put i (.d (.exc e fs))) S1) else .ok (.ex (.exc e fs) ρ1) S1) (kF κ as0 H0 as H N D Wx) FF := w
          rw [if_pos hb] at w
          obtain ⟨z, w⟩ := Out.of_chk w
          obtain rfl : fs = [] := by
            cases fs with
            | nil => rfl
            | cons _ _ => cases z
          exact ⟨⟨_, rfl⟩, hd0 rfl⟩
        · have w : Out (if subC e c = true then R.chk (isE0 (.exc e fs)) (evSs Φ [.asg (.nm j) (.var i), .kill [i]] (ρ1.put i (.d (.exc e fs))) S1) else .ok (.ex (.exc e fs) ρ1) S1) (kF κ as0 H0 as H N D Wx) FF := w
          rw [hb, if_neg (by decide)] at w
          exact w as' H' σ' st' im pr hS' hl' rs' _ dd ⟨rfl, hce, hd0, by assumption⟩
      | _ => exact hx.elim
end
end Ev
set_option maxHeartbeats 4000000
/-! Ev, part 12b: xs.index(x). -/
namespace Ev
open PySem PySem.Spec PyProof.Rows L2 PySem.SeqAt
theorem idx_true {α : Type} {p : α → Bool} : ∀ {xs : List α} {n : Nat}, xs.findIdx? p = some n → (xs.map p).idxOf true = n ∧ true ∈ xs.map p
  | [], n, h => by cases h
  | x :: xs, n, h => by
    rw [List.findIdx?_cons] at h
    rw [List.map_cons, List.idxOf_cons]
    cases q : p x with
    | true => rw [q] at h; cases h; exact ⟨rfl, List.mem_cons_self⟩
    | false =>
      rw [q] at h
      obtain ⟨m, h1, h2⟩ := Option.map_eq_some_iff.mp (show Option.map _ (xs.findIdx? p) = some n from h)
      obtain ⟨e1, e2⟩ := idx_true h1
      exact ⟨by rw [e1]; exact h2, List.mem_cons_of_mem _ e2⟩
theorem vw_tupW {w : W} {S : Sto} {ys : List D} (q : w.vw S = .tup ys) : w = .d (.tup ys) := by
  cases w with
  | own c => cases c <;> cases q
  | d y =>
    have q : Ev.vw S y = .tup ys := q
    cases y with
    | ref i =>
      unfold Ev.vw at q
      simp only at q
      cases e : S[i]? with
      | none => rw [e] at q; cases q
      | some c => rw [e] at q; cases c <;> cases q
    | tup zs => cases q; rfl
    | _ => cases q
theorem idx_t {ys : List D} {d : D} {S : Sto} : mthD .index (.tup ys) [d] S = R.chk (pl d && pls ys) (R.of S ((indexD ys d).map fun n => D.int (n : Nat))) := by cases d <;> rfl
theorem idx_l {ys : List D} {d : D} {S : Sto} : mthD .index (.lst ys) [d] S = R.chk (pl d && pls ys) (R.of S ((indexD ys d).map fun n => D.int (n : Nat))) := by cases d <;> rfl
section
variable {X : Cx} {κ : Kx} {as : List Addr} {pins : List (Addr × Obj)} {σ : L2.St} {H : Hp} {s : Shared} {Q : VK}
theorem items_eq {A : Around} {d : D} {ds : List D} {us : List Value} {u : Value} (hu : A.units + 60 < cLine) (o2 : okDs ds 60 = true) (r : RdVs s.heap ds us) (rx : RdV s.heap d u) : ItemsEq A s us (ds.map fun y => eqv y d) u true := by
  have l : ∀ {ds : List D} {us : List Value}, RdVs s.heap ds us → us.length = ds.length := by
    intro ds
    induction ds with
    | nil => intro us h; cases us with
      | nil => rfl
      | cons _ _ => exact h.elim
    | cons d ds ih => intro us h; cases us with
      | nil => exact h.elim
      | cons u us => exact congrArg (· + 1) (ih h.2)
  have at_ : ∀ {ds : List D} {us : List Value}, okDs ds 60 = true → RdVs s.heap ds us → ∀ j (h1 : j < us.length) (h2 : j < ds.length), EqAt A s us[j] u (eqv ds[j] d) := by
    intro ds
    induction ds with
    | nil => intro us _ _ j _ h2; exact absurd h2 (Nat.not_lt_zero _)
    | cons y ds ih =>
      intro us o h j h1 h2
      cases us with
      | nil => exact h.elim
      | cons v us =>
        obtain ⟨o1, o2⟩ := ba2 (show (okD y 60 && okDs ds 60) = true by rw [okDs] at o; exact o)
        cases j with
        | zero => exact eqAt o1 hu h.1 rx
        | succ j => exact ih o2 h.2 j (Nat.lt_of_succ_lt_succ h1) (Nat.lt_of_succ_lt_succ h2)
  refine ⟨by rw [List.length_map]; exact l r, fun j h1 h2 => ?_⟩
  have h3 : j < ds.length := by rw [List.length_map] at h2; exact h2
  have e : (ds.map fun y => eqv y d)[j] = eqv ds[j] d := List.getElem_map _
  rw [e]
  have e2 : decide (eqv ds[j] d = true) = eqv ds[j] d := by cases eqv ds[j] d <;> rfl
  rw [e2]
  exact at_ o2 r j h1 h3
end
section
variable {X : Cx} {κ : Kx}
/-- wanted behind the argument -/
def kIdx (κ : Kx) (x : V) (y : V) (H : Hp) (Q : VK) (mk : List D → D) : Prop := ∃ as ds d n, IsV κ as H (mk ds) x ∧ IsV κ as H d y ∧ pl d = true ∧ pls ds = true ∧ indexD ds d = some n ∧ Q (.int (n : Nat)) H
theorem pe_index {o e : Expr} {apos cpos : Pos} {td ty : TE} (hκ : κ.K = X.K) (hu : X.A.units + 64 < cLine) (ho : PE X o td) (he : PE X e ty) (m : M1 X o "index" apos e cpos) :
    PE X (.Call (.Attribute o "index" apos) [e] [] cpos) (fun σ H Q => td σ H fun x H1 => (∃ l vs, x = .ref l ∧ SqP X.K H1 l vs ∧ ty σ H1 fun y H2 => kIdx κ x y H2 Q .tup) ∨ (∃ l vs, x = .ref l ∧ SqL X.K H1 l vs ∧ ty σ H1 fun y H2 => kIdx κ x y H2 Q .lst)) := by
  refine ⟨fun pins s σ H Q I h => ?_⟩
  refine wpAny_Call_method_late m.base m.few m.line rfl (thn (ho.run pins s σ H _ I h) fun v s1 ⟨x, H1, I1, r1, q⟩ => ?_)
  have us : (X.A.in1).units + 60 < cLine := by show X.A.units + 1 + 60 < cLine; omega
  rcases q with ⟨l, vs, rfl, sq, q⟩ | ⟨l, vs, rfl, sq, q⟩
  · obtain rfl : v = .ref l := r1
    obtain ⟨its, _, pt, _⟩ := I1.tuple sq.sq
    have dn : ∃ ob, s1.heap.get? l = some ob ∧ ob.dict = none := by
      rcases sq.pl with ⟨ob, us, e, d⟩ | ⟨ob, e, d⟩
      · exact ⟨ob, (I1.hok l _ e).1, d⟩
      · exact ⟨ob, I1.kIn l ob e, d⟩
    have tt : s1.TypeIs (.ref l) "tuple" := let ⟨ob, h1, h2, _⟩ := pt; ⟨ob, h1, h2⟩
    refine ⟨"tuple", "tuple.index", PySem.F.plainAttrs_tuple, PySem.F.slot_tuple_index, PySem.F.type_tuple_index, tt, fun b e => by cases e; exact dn, ?_⟩
    rw [m.trees]
    refine Calls.callWith_builtin rfl (Calls.evalArgs_plain (Calls.spliced_cons (thn (he.run pins s1 σ H1 _ I1 q) fun iv s2 ⟨y, H2, I2, ry, q2⟩ => Calls.spliced_nil ?_)))
    obtain ⟨as, ds, d, n, wx, wy, o1, o2, e, q3⟩ := q2
    obtain ⟨l', us', e', p', rr⟩ := rdv_of (d := .tup ds) (n := 61) hκ I2 (by rw [okD]; exact o2) wx rfl
    cases e'
    obtain ⟨e1, e2⟩ := idx_true e
    refine call_tuple_index (ks := ds.map fun y => eqv y d) (k := true) p' (items_eq us o2 rr (rdv_of hκ I2 o1 wy ry)) e2 ?_
    rw [e1]
    exact ⟨.int (n : Nat), H2, I2.tok _, ⟨_, rfl⟩, q3⟩
  · obtain rfl : v = .ref l := r1
    obtain ⟨tt, dn⟩ := tyV_is (T := "list") (x := .ref l) I1 rfl (.inl ⟨rfl, vs, sq⟩)
    refine ⟨"list", "list.index", PySem.F.plainAttrs_list, PySem.F.slot_list_index, PySem.F.type_list_index, tt, dn, ?_⟩
    rw [m.trees]
    refine Calls.callWith_builtin rfl (Calls.evalArgs_plain (Calls.spliced_cons (thn (he.run pins s1 σ H1 _ I1 q) fun iv s2 ⟨y, H2, I2, ry, q2⟩ => Calls.spliced_nil ?_)))
    obtain ⟨as, ds, d, n, wx, wy, o1, o2, e, q3⟩ := q2
    have wx0 := wx
    obtain ⟨l1, ws, e1, rd, hd⟩ := wx0
    cases e1
    obtain ⟨its, rv, _, hz⟩ := I2.list (X := X) (.inl rd)
    obtain ⟨l', us', e', p', rr⟩ := rdv_of (d := .lst ds) (n := 61) hκ I2 (by rw [okD]; exact o2) wx rfl
    cases e'
    obtain ⟨e1, e2⟩ := idx_true e
    refine call_list_index (ks := ds.map fun y => eqv y d) (k := true) p' (items_eq us o2 rr (rdv_of hκ I2 o1 wy ry)) (by rw [List.length_map, hd.length]; exact hz) e2 ?_
    rw [e1]
    exact ⟨.int (n : Nat), H2, I2.tok _, ⟨_, rfl⟩, q3⟩
end
section
variable {X : Cx} {sc : SC} {κ : Kx} {Φ : Fn} {Wx : L2.WX} {a b : Expr} {ma mb : MW} {pos : Pos}
theorem pd_index (ok : CxOk X sc κ Φ) {apos : Pos} (hs : nostar b = true) (hbase : attributeBase a "index" X.env (eval a X.env) = eval a X.env) (hline : (apos.endLine == pos.line) = true) (ha : PE X a (rdW κ Wx ma)) (hb : PE X b (rdW κ Wx mb)) :
    PE X (.Call (.Attribute a "index" apos) [b] [] pos) (rdW κ Wx fun ρ S => (ma ρ S).bind fun x S1 => R.chk (rcv .index (x.vw S1)) (((mb ρ S1).d.bind fun d S1 => (R.ok (α := List D) [] S1).bind fun ds S2 => .ok (d :: ds) S2).bind fun ds S2 => (mthD .index (x.vw S2) ds S2).w)) := by
  refine PE.imp (pe_index (κ := κ) ok.hκ ok.un ha hb ⟨hbase, fewArgs (fun e he => by rw [List.mem_singleton.mp he]; exact hs) (by simp), hline, by rw [star_cons hs]; rfl⟩) fun σ H Q ⟨as, H0, ρ, S, rs, hS, w⟩ => ?_
  refine rdW.mk rs hS w.of_bind fun x S1 as1 H1 v w1 st1 r1 hS1 => ?_
  obtain ⟨z, w2⟩ := w1.of_chk
  have rv := r1.vw hS1
  have fin : ∀ {ys : List D} {d : D} {S2 : Sto} {as2 : List Addr} {H2 : Hp} {v2 : V} {mk : List D → D}, IsV κ as2 H2 (mk ys) v → IsD κ as2 H2 d v2 → RepS κ as2 H2 S2 →
      Out (R.chk (pl d && pls ys) (R.of S2 ((indexD ys d).map fun n => D.int (n : Nat)))) (fun d S => kW κ as2 H2 Q (.d d) S) (kX κ as2 H2 σ Wx) → kIdx κ v v2 H2 Q mk := by
    intro ys d S2 as2 H2 v2 mk g1 g2 g3 w4
    obtain ⟨o, w5⟩ := w4.of_chk
    obtain ⟨o1, o2⟩ := ba2 o
    obtain ⟨r, e, w6⟩ := w5.of_of
    obtain ⟨n, e1, e2⟩ := Option.map_eq_some_iff.mp e
    subst e2
    exact ⟨as2, ys, d, n, g1, IsD.v g2, o1, o2, e1, kW.here (w := .d (.int (n : Nat))) w6 rfl g3⟩
  cases q : x.vw S1 with
  | tup ys =>
    rw [q] at rv
    have ex := vw_tupW q
    subst ex
    obtain ⟨l, vs, rfl, sq, hd⟩ := rv
    refine .inl ⟨l, vs, rfl, by rw [← ok.hκ]; exact sq, rdW.mk (rs.step st1) hS1 (w2.onW st1).of_bind.of_bind.of_d fun y S2 as2 H2 v2 w3 st2 r2 hS2 => ?_⟩
    obtain ⟨d, rfl, w3⟩ := w3
    have w4 : Out (mthD .index (.tup ys) [d] S2) (fun d S => kW κ as1 H1 Q (.d d) S) (kX κ as1 H1 σ Wx) := Out.of_w w3
    rw [idx_t] at w4
    exact fin (mk := .tup) ((r1.step st2).vw hS2) r2 hS2 (w4.imp (fun _ _ z => kW.on st2 z) fun _ _ z => kX.on st2 z)
  | lst ys =>
    rw [q] at rv
    obtain ⟨l, vs, rfl, rd, hd⟩ := rv
    refine .inr ⟨l, vs, rfl, .inl rd, rdW.mk (rs.step st1) hS1 (w2.onW st1).of_bind.of_bind.of_d fun y S2 as2 H2 v2 w3 st2 r2 hS2 => ?_⟩
    obtain ⟨d, rfl, w3⟩ := w3
    have w4 : Out (mthD .index (x.vw S2) [d] S2) (fun d S => kW κ as1 H1 Q (.d d) S) (kX κ as1 H1 σ Wx) := Out.of_w w3
    have rv2 := (r1.step st2).vw hS2
    cases q2 : x.vw S2 with
    | lst zs =>
      rw [q2] at rv2 w4
      rw [idx_l] at w4
      exact fin (mk := .lst) rv2 r2 hS2 (w4.imp (fun _ _ z => kW.on st2 z) fun _ _ z => kX.on st2 z)
    | tup zs =>
      have ex := vw_tupW q2
      subst ex
      cases q
    | _ => rw [q2] at w4; cases d <;> exact w4.elim
  | _ => rw [q] at z; cases z
end
end Ev
set_option maxHeartbeats 4000000
/-! Ev, part 14b: changes of cells; attributes that are set. -/
namespace Ev
open PySem PySem.Spec PyProof.Rows L2
section
variable {X : Cx} {sc : SC} {κ : Kx} {Φ : Fn} {Wx : L2.WX} {n : Nat} {a b : Expr} {ma mb : MW} {pos : Pos}
/-- a cell that is a list -/
theorem lst_cell {as : List Addr} {H : Hp} {S : Sto} {d : D} {v : V} {xs : List D} (hS : RepS κ as H S) (r : IsD κ as H d v) (q : vw S d = .lst xs) : ∃ a ys, v = .ref a ∧ Rd H a (.lst ys) := by
  have z := IsD.vw hS r
  rw [q] at z
  obtain ⟨p, vs, rfl, rd, _⟩ := z
  exact ⟨p, vs, rfl, rd⟩
def exD (m : Mu) (ds : List D) (S : Sto) : List D := match m with
  | .extend => ds.map (vw S)
  | _ => ds
theorem mutS_at {m : Mu} {i : Nat} {ds : List D} {S : Sto} : mutS m (.ref i) ds S = (match S[i]? with
    | some c => (match mutC m c (exD m ds S) with
      | some (c', d) => .ok d (S.set i c')
      | none => .bad)
    | none => .bad) := by cases m <;> rfl
theorem mutS_ref {m : Mu} {d : D} {ds : List D} {S : Sto} {k : D → Sto → Prop} {ke : D → Sto → Prop} (h : Out (mutS m d ds S) k ke) : ∃ i c c' u, d = .ref i ∧ S[i]? = some c ∧ mutC m c (exD m ds S) = some (c', u) ∧ k u (S.set i c') := by
  cases d with
  | ref i =>
    rw [mutS_at] at h
    cases q : S[i]? with
    | none => simp only [q] at h; exact h.elim
    | some c =>
      simp only [q] at h
      cases q2 : mutC m c (exD m ds S) with
      | none => rw [q2] at h; exact h.elim
      | some p =>
        obtain ⟨c', u⟩ := p
        rw [q2] at h
        exact ⟨i, c, c', u, rfl, q, q2, h⟩
  | _ => exact h.elim
/-- o.append(e), .. of a cell -/
theorem pd_mutA (ok : CxOk X sc κ Φ) {mu : Mu} {id : String} {nm : Str} {apos : Pos} {e : Expr} {es : List Expr} {ms : Env → Sto → R (List D)} (slot : Slot "list" nm id) (hty : typeOf (.builtin id) = pure (.type "method_descriptor")) (hm : MtR X id (rMu κ mu)) (hmu : ∀ ds S, exD mu ds S = ds) (hr : ∀ x, rcvM mu x = true → ∃ xs, x = .lst xs)
    (hbase : attributeBase a nm X.env (eval a X.env) = eval a X.env) (hs : ∀ x ∈ e :: es, nostar x = true) (hfew : (e :: es).length < 20) (hline : (apos.endLine == pos.line) = true) (ha : PE X a (rdW κ Wx ma)) (hp : PA X (e :: es) (rdDs κ Wx ms)) :
    PE X (.Call (.Attribute a nm apos) (e :: es) [] pos) (rdW κ Wx fun ρ S => (ma ρ S).d.bind fun x S1 => R.chk (rcvM mu (vw S1 x)) ((ms ρ S1).bind fun ds S2 => (mutS mu x ds S2).w)) := by
  refine PE.imp (pe_bm (apos := apos) (cpos := pos) PySem.F.plainAttrs_list slot hty hm ha hp hbase (fewArgs hs hfew) hline (star_cons (hs e List.mem_cons_self)) (star_back fun e' he => hs e' (List.mem_cons_of_mem _ he))) fun σ H Q ⟨as, H0, ρ, S, rs, hS, w⟩ => ?_
  refine rdW.mk rs hS w.of_bind.of_d fun x S1 as1 H1 v w1 st1 r1 hS1 => ?_
  obtain ⟨d, rfl, w1⟩ := w1
  obtain ⟨z, w2⟩ := w1.of_chk
  obtain ⟨xs, ex⟩ := hr _ z
  obtain ⟨p, ys, rfl, rd⟩ := lst_cell hS1 r1 ex
  refine ⟨.inl ⟨rfl, ys, .inl rd⟩, ?_⟩
  refine rdDs.mk (rs.step st1) hS1 (w2.onW st1).of_bind fun ds S2 as2 H2 vs w3 st2 r2 hS2 => ?_
  obtain ⟨i, c, c', u, rfl, q, em, k⟩ := mutS_ref (w3.onW st2).of_w
  rw [hmu] at em
  have r1' : IsD κ as2 H2 (.ref i) (.ref p) := IsD.step st2 r1
  obtain ⟨p', ep, e'⟩ := r1'
  cases e'
  have rc := hS2.cell i p c ep q
  obtain ⟨u2, hu2, nu⟩ := rc.some
  have mem : p ∈ as2 := List.mem_of_getElem? ep
  exact ⟨as2, p, c, c', ds, u, rfl, rc, r2, em, fun v o hv rc2 => k as2 _ v (Step.write mem hu2 nu) hv (hS2.put ep hu2 nu rc2)⟩
/-- o.extend(e) of a cell -/
theorem pd_mutE (ok : CxOk X sc κ Φ) {apos : Pos} (hbase : attributeBase a "extend" X.env (eval a X.env) = eval a X.env) (hs : nostar b = true) (hline : (apos.endLine == pos.line) = true) (ha : PE X a (rdW κ Wx ma)) (hb : PE X b (rdW κ Wx mb)) :
    PE X (.Call (.Attribute a "extend" apos) [b] [] pos) (rdW κ Wx fun ρ S => (ma ρ S).d.bind fun x S1 => R.chk (rcvM .extend (vw S1 x)) (((mb ρ S1).d.bind fun d S1 => (R.ok (α := List D) [] S1).bind fun ds S2 => .ok (d :: ds) S2).bind fun ds S2 => (mutS .extend x ds S2).w)) := by
  have hs' : ∀ e ∈ [b], nostar e = true := fun e he => by rw [List.mem_singleton.mp he]; exact hs
  refine PE.imp (pe_bm (apos := apos) (cpos := pos) PySem.F.plainAttrs_list PySem.F.slot_list_extend PySem.F.type_list_extend (mt_ext (X := X) (κ := κ)) ha (pa_cons hb pa_nil (star_cons hs)) hbase (fewArgs hs' (by simp)) hline (star_cons hs) (star_back fun e he => nomatch he)) fun σ H Q ⟨as, H0, ρ, S, rs, hS, w⟩ => ?_
  refine rdW.mk rs hS w.of_bind.of_d fun x S1 as1 H1 v w1 st1 r1 hS1 => ?_
  obtain ⟨d, rfl, w1⟩ := w1
  obtain ⟨z, w2⟩ := w1.of_chk
  have hr : ∃ xs, vw S1 d = .lst xs := by
    cases q : vw S1 d with
    | lst xs => exact ⟨xs, rfl⟩
    | _ => rw [q] at z; cases z
  obtain ⟨xs, ex⟩ := hr
  obtain ⟨p, ys, rfl, rd⟩ := lst_cell hS1 r1 ex
  refine ⟨.inl ⟨rfl, ys, .inl rd⟩, ?_⟩
  refine rdW.mk (rs.step st1) hS1 (w2.onW st1).of_bind.of_bind.of_d fun y S2 as2 H2 v2 w3 st2 r2 hS2 => ?_
  obtain ⟨d2, rfl, w3⟩ := w3
  have w3 : Out ((mutS .extend d [d2] S2).w) (kW κ as1 H1 Q) (kX κ as1 H1 σ Wx) := w3
  obtain ⟨i, c, c', u, rfl, q, em, k⟩ := mutS_ref (w3.onW st2).of_w
  have r1' : IsD κ as2 H2 (.ref i) (.ref p) := IsD.step st2 r1
  obtain ⟨p', ep, e'⟩ := r1'
  cases e'
  have rc := hS2.cell i p c ep q
  obtain ⟨u2, hu2, nu⟩ := rc.some
  have mem : p ∈ as2 := List.mem_of_getElem? ep
  exact ⟨as2, p, c, c', vw S2 d2, v2, u, rfl, rc, rfl, IsD.vw hS2 r2, em, fun v o hv rc2 => k as2 _ v (Step.write mem hu2 nu) hv (hS2.put ep hu2 nu rc2)⟩
/-! attributes that are set -/
theorem map_inj {α β : Type} {f : α → β} (inj : Function.Injective f) : ∀ {xs ys : List α}, xs.map f = ys.map f → xs = ys
  | [], [], _ => rfl
  | [], _ :: _, h => by cases h
  | _ :: _, [], h => by cases h
  | x :: xs, y :: ys, h => by
    rw [List.map_cons, List.map_cons] at h
    injection h with h1 h2
    rw [inj h1, map_inj inj h2]
theorem ofStr_inj {a b : String} (h : Str.ofString a = Str.ofString b) : a = b := by
  rw [Str.ofString_eq_toList, Str.ofString_eq_toList] at h
  have h1 : (a.toList.map Char.toNat).toArray = (b.toList.map Char.toNat).toArray := congrArg Str.cps h
  have h2 : a.toList.map Char.toNat = b.toList.map Char.toNat := by simpa using h1
  have inj : Function.Injective Char.toNat := fun x y e => by
    apply Char.ext
    exact UInt32.toNat_inj.mp e
  exact String.ext (map_inj inj h2)
theorem IsFs.repl {as : List Addr} {H : Hp} {f : String} {d : D} {v : V} (hd : IsD κ as H d v) : ∀ {fs : List (String × D)} {fvs : List (Str × V)}, IsFs κ as H fs fvs → IsFs κ as H (replF fs f d) (L2.putF (Str.ofString f) v fvs)
  | [], fvs, _ => True.intro
  | (g, x) :: r, fvs, h => by
    have tl := IsFs.repl (f := f) hd h.2
    unfold replF
    by_cases z : g = f
    · rw [if_pos z]
      exact ⟨⟨v, by rw [lookup_putF, if_pos (by rw [z])], hd⟩, tl⟩
    · rw [if_neg z]
      obtain ⟨u, e1, e2⟩ := h.1
      exact ⟨⟨u, by rw [lookup_putF, if_neg (fun w => z (ofStr_inj w))]; exact e1, e2⟩, tl⟩
theorem IsFs.put {as : List Addr} {H : Hp} {f : String} {d : D} {v : V} (hd : IsD κ as H d v) : ∀ {fs : List (String × D)} {fvs : List (Str × V)}, IsFs κ as H fs fvs → IsFs κ as H (putF fs f d) (L2.putF (Str.ofString f) v fvs)
  | [], fvs, _ => ⟨⟨v, by rw [lookup_putF, if_pos rfl], hd⟩, True.intro⟩
  | (g, x) :: r, fvs, h => by
    unfold putF
    by_cases z : g = f
    · rw [if_pos z]
      exact ⟨⟨v, by rw [lookup_putF, if_pos (by rw [z])], hd⟩, IsFs.repl hd h.2⟩
    · rw [if_neg z]
      obtain ⟨u, e1, e2⟩ := h.1
      exact ⟨⟨u, by rw [lookup_putF, if_neg (fun w => z (ofStr_inj w))]; exact e1, e2⟩, IsFs.put hd h.2⟩
theorem look_replF {f g : String} {d : D} : ∀ {fs : List (String × D)}, lookF (replF fs f d) g = none → lookF fs g = none
  | [], h => h
  | (k, x) :: r, h => by
    unfold replF at h
    unfold lookF
    by_cases z : k = g
    · by_cases y : k = f
      · rw [if_pos y] at h; unfold lookF at h; rw [if_pos z] at h; cases h
      · rw [if_neg y] at h; unfold lookF at h; rw [if_pos z] at h; cases h
    · rw [if_neg z]
      by_cases y : k = f
      · rw [if_pos y] at h; unfold lookF at h; rw [if_neg z] at h; exact look_replF h
      · rw [if_neg y] at h; unfold lookF at h; rw [if_neg z] at h; exact look_replF h
theorem look_putF {f g : String} {d : D} : ∀ {fs : List (String × D)}, lookF (putF fs f d) g = none → lookF fs g = none ∧ g ≠ f
  | [], h => by
    unfold putF lookF at h
    split at h
    · cases h
    · rename_i z; exact ⟨rfl, fun w => z w.symm⟩
  | (k, x) :: r, h => by
    unfold putF at h
    by_cases y : k = f
    · rw [if_pos y] at h
      unfold lookF at h
      split at h
      · cases h
      · rename_i z
        refine ⟨?_, fun w => z (by rw [y, w])⟩
        unfold lookF
        rw [if_neg z]
        exact look_replF h
    · rw [if_neg y] at h
      unfold lookF at h
      split at h
      · cases h
      · rename_i z
        obtain ⟨h1, h2⟩ := look_putF h
        refine ⟨?_, h2⟩
        unfold lookF
        rw [if_neg z]
        exact h1
theorem OnlyF.put {f : String} {d : D} {v : V} {fs : List (String × D)} {fvs : List (Str × V)} (h : OnlyF fs fvs) : OnlyF (putF fs f d) (L2.putF (Str.ofString f) v fvs) := fun g e => by
  obtain ⟨h1, h2⟩ := look_putF e
  rw [lookup_putF, if_neg (fun w => h2 (ofStr_inj w))]
  exact h g h1
/-- o.f = .., in the layer's words -/
theorem pg_fldL {o : Expr} {f : Str} {p : Pos} {ta : TE} (ho : PE X o ta) : PG X (.Attribute o f p) (fun v σ H N => ta σ H fun x H1 => ∃ a C dx fs, x = .ref a ∧ H1 a = some (.ins C dx fs) ∧ Cls X.K C ∧ NoAttr X.K C f ∧ fs.length < 1000 ∧ N σ (upd H1 a (.ins C dx (L2.putF f v fs)))) := by
  refine ⟨fun pins s σ H v u N I r h => ?_⟩
  rw [arm_assign_Attribute]
  refine wpAny_bind (wpAny_holding (thn (ho.run pins s σ H _ I h) fun ov s1 ⟨x, H1, I1, r1, a, C, dx, fs, ex, ea, c, nA, l, q⟩ => ?_))
  subst ex
  cases r1
  refine wpAny_bind (wpAny_standAt (wpAny_bind (wpAny_holding (setattr_ok I1 ea c nA l r fun s3 I3 => ?_))))
  exact wpAny_release ⟨σ, _, I3, q⟩
theorem len_replF {f : String} {d : D} : ∀ {fs : List (String × D)}, (replF fs f d).length = fs.length
  | [] => rfl
  | (_, _) :: r => by unfold replF; rw [List.length_cons, List.length_cons, len_replF]
theorem keys_len {f : Str} {v : V} : ∀ {fs : List (Str × V)} {u : V}, fs.lookup f = some u → (L2.putF f v fs).length = fs.length := by
  intro fs
  induction fs with
  | nil => intro u h; cases h
  | cons p r ih =>
    obtain ⟨k, x⟩ := p
    intro u h
    unfold L2.putF
    by_cases z : k = f
    · simp [z]
    · rw [if_neg z, List.length_cons, List.length_cons]
      rw [List.lookup_cons] at h
      have z' : (f == k) = false := beq_eq_false_iff_ne.mpr fun w => z w.symm
      rw [z'] at h
      rw [ih h]
theorem len_putF {f : String} {d : D} : ∀ {fs : List (String × D)}, (putF fs f d).length = (if (lookF fs f).isSome then fs.length else fs.length + 1)
  | [] => rfl
  | (k, x) :: r => by
    unfold putF lookF
    by_cases z : k = f
    · rw [if_pos z, if_pos z, List.length_cons, len_replF]; rfl
    · rw [if_neg z, if_neg z, List.length_cons, len_putF]
      split <;> rfl
theorem putF_len {as : List Addr} {H : Hp} {f : String} {d : D} {v : V} {fs : List (String × D)} {fvs : List (Str × V)} (hf : IsFs κ as H fs fvs) (l : fvs.length ≤ fs.length) : (L2.putF (Str.ofString f) v fvs).length ≤ (putF fs f d).length := by
  rw [len_putF]
  cases q : lookF fs f with
  | none =>
    have := length_putF (Str.ofString f) v fvs
    simp
    omega
  | some x =>
    obtain ⟨u, e, _⟩ := hf.look q
    rw [keys_len e]
    simpa using l
/-- o.f = .., a cell's -/
theorem pg_attC (ok : CxOk X sc κ Φ) {f : String} {cs : List String} (hc : attB sc f cs = true) (ha : PE X a (rdW κ Wx ma)) : PG X (.Attribute a (Str.ofString f) pos) (gR κ Wx n fun d ρ S => ((ma ρ S).d).lift ρ fun x S1 => match x with
    | .ref i => (match S1[i]? with
      | some (.obj g c fs) => R.chk (decide (fs.length < 900) && cs.contains c) (.ok (.nx ρ) (S1.set i (.obj g c (putF fs f d))))
      | _ => .bad)
    | _ => .bad) := by
  refine ⟨fun pins s σ H v u N I r ⟨as0, H0, as, ρ, S, d, st0, rs, hS, hl, hd, w⟩ => (pg_fldL (p := pos) ha).run pins s σ H v u N I r ?_⟩
  refine rdW.mk rs hS (lift_outG st0 rs hl w).of_d fun x S1 as1 H1 v1 w1 st1 r1 hS1 => ?_
  obtain ⟨dx, rfl, w1⟩ := w1
  cases dx with
  | ref i =>
    obtain ⟨p, ep, rfl⟩ := id r1
    cases q : S1[i]? with
    | none => simp only [q] at w1; exact w1.elim
    | some cc =>
      cases cc with
      | obj g c fs =>
        simp only [q] at w1
        obtain ⟨z, w2⟩ := w1.of_chk
        obtain ⟨z1, z2⟩ := ba2 z
        have z1 := of_decide_eq_true z1
        obtain ⟨k1, k2⟩ := attB_ok ok hc z2
        have rc := hS1.cell i p _ ep q
        obtain ⟨dx, fvs, e1, only, hf, gg, hlen⟩ := id rc
        have e0 := e1
        rw [ok.hκ] at e1
        refine ⟨p, _, dx, fvs, rfl, e1, k1, k2, by omega, ?_⟩
        have hd1 := hd.step st1
        have mem : p ∈ as1 := List.mem_of_getElem? ep
        have nu : ¬ imm (.ins (He.ga κ.K (Str.ofString c)) dx fvs) := fun z => z
        have stw : Step as1 H1 as1 (upd H1 p (.ins (He.ga X.K (Str.ofString c)) dx (L2.putF (Str.ofString f) v fvs))) := Step.write mem e0 nu
        have rc2 : RepC κ as1 (upd H1 p (.ins (He.ga X.K (Str.ofString c)) dx (L2.putF (Str.ofString f) v fvs))) p (.obj g c (putF fs f d)) := by
          refine ⟨dx, _, ?_, only.put, (hf.put hd1).mono (fun _ _ h => h) stw.imm, gg, putF_len hf hlen⟩
          rw [ok.hκ]
          exact upd_same
        exact w2 as1 _ σ ((st0.trans st1).trans stw) (st1.imm.trans stw.imm) (st1.pr.trans stw.pr) (hS1.put ep e0 nu rc2) hl ((rs.step st1).step stw)
      | _ => simp only [q] at w1; exact w1.elim
  | _ => exact w1.elim
/-- x.f = .., x a thing of one's own -/
theorem pg_attO (ok : CxOk X sc κ Φ) {j : Nat} {x : Str} {p : Pos} {f : String} {cs : List String} (hc : attB sc f cs = true) (hj : sc.N[j]? = some x) (hv : visB sc x = true) (hodd : odd x = false) : PG X (.Attribute (.Name x p) (Str.ofString f) pos) (gR κ Wx n fun d ρ S => match ρ.get j with
    | some (.own (.obj g c fs)) => R.chk (decide (fs.length < 900) && cs.contains c) (.ok (.nx (ρ.put j (.own (.obj g c (putF fs f d))))) S)
    | _ => .bad) := by
  have ho := pe_var (X := X) (i := j) (pos := p) (by rw [ok.N]; exact hj) (ok.vis hv) (odd_db hodd) (odd_cd hodd)
  refine ⟨fun pins s σ H v u N I r ⟨as0, H0, as, ρ, S, d, st0, rs, hS, hl, hd, w⟩ => (pg_fldL (p := pos) ho).run pins s σ H v u N I r ?_⟩
  cases q : ρ.get j with
  | none => simp only [q] at w; exact w.elim
  | some wv => cases wv with
    | d x => simp only [q] at w; exact w.elim
    | own cc => cases cc with
      | obj g c fs =>
        simp only [q] at w
        obtain ⟨z, w2⟩ := w.of_chk
        obtain ⟨z1, z2⟩ := ba2 z
        have z1 := of_decide_eq_true z1
        obtain ⟨k1, k2⟩ := attB_ok ok hc z2
        obtain ⟨b, e1, na, n0, rc⟩ := rs.own j _ q
        obtain ⟨dx, fvs, e2, only, hf, gg, hlen⟩ := id rc
        have e0 := e2
        rw [ok.hκ] at e2
        refine ⟨_, e1, b, _, dx, fvs, rfl, e2, k1, k2, by omega, ?_⟩
        have nu : ¬ imm (.ins (He.ga κ.K (Str.ofString c)) dx fvs) := fun z => z
        have im : Imm H (upd H b (.ins (He.ga X.K (Str.ofString c)) dx (L2.putF (Str.ofString f) v fvs))) := Imm.write e0 nu
        have rc2 : RepC κ as (upd H b (.ins (He.ga X.K (Str.ofString c)) dx (L2.putF (Str.ofString f) v fvs))) b (.obj g c (putF fs f d)) := by
          refine ⟨dx, _, ?_, only.put, (hf.put hd).mono (fun _ _ h => h) im, gg, putF_len hf hlen⟩
          rw [ok.hκ]
          exact upd_same
        have stw : Step as0 H0 as (upd H b (.ins (He.ga X.K (Str.ofString c)) dx (L2.putF (Str.ofString f) v fvs))) := ⟨st0.ext, fun y z h i => by rw [upd_ne (ne_of_none h n0)]; exact st0.imm y z h i, fun y z h i => by rw [upd_ne (ne_of_none h n0)]; exact st0.keep y z h i, fun y h => upd_there y (st0.there y h)⟩
        exact w2 as _ σ stw im Pre.refl (hS.off na im) hl (rs.mut q e1 e0 nu rc2)
      | _ => simp only [q] at w; exact w.elim
end
end Ev
set_option maxHeartbeats 4000000
/-! Ev, part 14c: the key that holds a thing, of a dict that others may change. -/
namespace Ev
open PySem PySem.Spec PyProof.Rows L2
section
variable {X : Cx} {pins : List (Addr × Obj)} {σ : L2.St} {H : Hp} {s : Shared} {a : Addr} {u : HO} {o : Obj}
/-- a thing that was frozen for a while may change again -/
theorem thaw (I0 : ∀ o' u', X.H_0 a ≠ some (.frz o' u')) (e : H a = some u) (hu : soft u) (I : Inv X pins σ (upd H a (.frz o u)) s) : Inv X pins σ H s := by
  have ne : ∀ b, b ≠ a → upd H a (.frz o u) b = H b := fun b h => upd_ne h
  have at_ : upd H a (.frz o u) a = some (.frz o u) := upd_same
  have no : ∀ b, upd H a (.frz o u) b = none → H b = none := fun b h => by
    by_cases z : b = a
    · rw [z, at_] at h; cases h
    · rw [← ne b z]; exact h
  refine ⟨I.ok, I.os, I.bare, ⟨I.base.keep, I.base.slot, fun b o' h1 h2 h3 => no b (I.base.free b o' h1 h2 h3), I.base.there, fun b xs h => ?_, fun b o' u' h => ?_, fun b ps h => ?_⟩, I.loc, I.cell, no _ I.free, fun x c h => no _ (I.freeC x c h), fun p hp => ?_, ?_, I.len⟩
  · have := I.base.tups b xs h
    by_cases z : b = a
    · rw [z, at_] at this; cases this
    · rw [← ne b z]; exact this
  · by_cases z : b = a
    · rw [z] at h; exact absurd h (I0 o' u')
    · rw [← ne b z]; exact I.base.frzs b o' u' h
  · obtain ⟨more, h2⟩ := I.base.tbls b ps h
    by_cases z : b = a
    · rw [z, at_] at h2; cases h2
    · exact ⟨more, by rw [← ne b z]; exact h2⟩
  · obtain ⟨h1, h2, h3⟩ := I.pin p hp
    exact ⟨h1, no _ h2, h3⟩
  · intro b ob hb
    by_cases z : b = a
    · subst z
      rw [e] at hb
      cases hb
      have k := I.hok b _ at_
      have k2 : ObjOk X.prog X.w (upd H b (.frz o u)) s.heap b u := k.2
      refine k2.stay (fun c w _ q => q) (fun c q => ?_) fun c xs q => ?_
      · by_cases y : c = b
        · rw [y, at_] at q; cases q
        · rw [← ne c y]; exact q
      · by_cases y : c = b
        · rw [y, at_] at q; cases q
        · rw [← ne c y]; exact q
    · have k := I.hok b ob (by rw [ne b z]; exact hb)
      refine k.stay (fun c w _ q => q) (fun c q => ?_) fun c xs q => ?_
      · by_cases y : c = a
        · rw [y, at_] at q; cases q
        · rw [← ne c y]; exact q
      · by_cases y : c = a
        · rw [y, at_] at q; cases q
        · rw [← ne c y]; exact q
end
section
variable {X : Cx} {sc : SC} {κ : Kx} {Φ : Fn} {Wx : L2.WX} {n : Nat}
theorem ks_get {as : List Addr} {H : Hp} : ∀ {kvs : List (Ky × D)} {kws : List (L2.Key × V)} {i : Nat} {k : L2.Key} {v : V}, IsKs κ as H kvs kws → kws[i]? = some (k, v) → ∃ q d, kvs[i]? = some (q, d) ∧ k = kx q ∧ kyOk q = true ∧ IsD κ as H d v
  | (q, d) :: r, (k', v') :: r', 0, k, v, h, e => by cases e; exact ⟨q, d, rfl, h.1.1, h.1.2, h.2.1⟩
  | (q, d) :: r, (k', v') :: r', i + 1, k, v, h, e => ks_get (i := i) h.2.2 e
  | [], [], _, _, _, _, e => by simp at e
  | [], _ :: _, _, _, _, h, _ => h.elim
  | (_, _) :: _, [], _, _, _, h, _ => h.elim
theorem ky_is {as : List Addr} {H : Hp} {q : Ky} (h : kyOk q = true) : IsD κ as H (kyD q) (kV (kx q)) := by
  cases q with
  | inl i => exact rfl
  | inr x => exact ⟨rfl, h⟩
theorem ky_inj {q q' : Ky} (h : dKy (kyD q) = dKy (kyD q')) : q = q' := by
  cases q <;> cases q' <;> simp [dKy, kyD] at h <;> rw [h]
/-- a dict's keys are unlike -/
theorem dk_nodup {h : Heap} {P : Program} {w : World} {H : Hp} {a : Addr} {kws : List (L2.Key × V)} (ok : ObjOk P w H h a (.dK kws)) : (kws.map (·.1)).Nodup := by
  obtain ⟨_, _, vs, rel, _, _, _, _, _, _, _, _, nd⟩ := ok
  rw [rel.keys]
  exact nd
theorem nd_idx {α : Type} {xs : List α} (nd : xs.Nodup) {i j : Nat} {x : α} (h1 : xs[i]? = some x) (h2 : xs[j]? = some x) : i = j := by
  obtain ⟨a, e1⟩ := List.getElem?_eq_some_iff.mp h1
  obtain ⟨b, e2⟩ := List.getElem?_eq_some_iff.mp h2
  exact (List.getElem_inj nd).mp (e1.trans e2.symm)
theorem look_at {as : List Addr} {H : Hp} : ∀ {kvs : List (Ky × D)} {kws : List (L2.Key × V)} {i : Nat} {q : Ky} {d : D}, IsKs κ as H kvs kws → (kws.map (·.1)).Nodup → kvs[i]? = some (q, d) → lookK kvs q = some d
  | (q', d') :: r, (k', v') :: r', i, q, d, h, nd, e => by
    unfold lookK
    cases i with
    | zero => cases e; rw [if_pos rfl]
    | succ i =>
      have e : r[i]? = some (q, d) := e
      obtain ⟨n1, n2⟩ := List.nodup_cons.mp (show (k' :: r'.map (·.1)).Nodup from nd)
      have ih := look_at h.2.2 n2 e
      by_cases z : q' = q
      · exfalso
        apply n1
        have hl : r.length = r'.length := IsKs.length h.2.2
        have hi : i < r'.length := by rw [← hl]; exact (List.getElem?_eq_some_iff.mp e).1
        obtain ⟨q2, d2, e2, e3, _, _⟩ := ks_get (κ := κ) (i := i) (k := r'[i].1) (v := r'[i].2) h.2.2 (List.getElem?_eq_getElem hi)
        rw [e] at e2
        cases e2
        rw [h.1.1, z, ← e3]
        exact List.mem_map.mpr ⟨r'[i], List.getElem_mem hi, rfl⟩
      · rw [if_neg z]; exact ih
  | [], [], i, _, _, _, _, e => by simp at e
  | [], _ :: _, _, _, _, h, _, _ => h.elim
  | (_, _) :: _, [], _, _, _, h, _, _ => h.elim
theorem keyAt_drop {kvs : List (Ky × D)} {y : D} {i : Nat} {q : Ky} {d : D} (e : kvs[i]? = some (q, d)) (hn : eqv d y = false) (h : keyAt (kvs.drop i) y = keyAt kvs y) : keyAt (kvs.drop (i + 1)) y = keyAt kvs y := by
  obtain ⟨hlt, e'⟩ := List.getElem?_eq_some_iff.mp e
  rw [← h, List.drop_eq_getElem_cons hlt, e', keyAt, hn, if_neg Bool.false_ne_true]
theorem ps_retK (ok : CxOk X sc κ Φ) (hp : PassesOwn (model X.prog X.w) X.A X.env X.xe) (hn : X.N.length = n) {i j l : Nat} {f : String} {cs : List String} {sx lx px : Str} {p1 p2 p3 p4 p5 p6 p7 p8 p9 p10 p11 p12 p13 p14 p15 : Pos} {kk : Nat}
    (hi : sc.N[i]? = some sx) (hvi : visB sc sx = true) (hoi : odd sx = false) (hj : sc.N[j]? = some px) (hvj : visB sc px = true) (hoj : odd px = false) (hl0 : sc.N[l]? = some lx) (hll : locB sc lx = true) (hvl : visB sc lx = true) (hol : odd lx = false) (li : l ≠ i) (lj : l ≠ j) (hc : attB sc f cs = true) :
    PSs X [.For (.Name lx p1) (.Attribute (.Name sx p2) (Str.ofString f) p3) [.If (.Compare (.Subscript (.Attribute (.Name sx p4) (Str.ofString f) p5) (.Name lx p6) p7) [.Eq] [.Name px p8] p9) [.Return (some (.Name lx p10)) p11] [] p12] [] p13, .Return (some (.Constant .none kk p14)) p15]
      (rdS κ Wx n fun ρ S => evS Φ (.retK (.att (.var i) f cs) (.var j) l) ρ S) := by
  have pvS := fun p => pe_var (X := X) (i := i) (x := sx) (pos := p) (by rw [ok.N]; exact hi) (ok.vis hvi) (odd_db hoi) (odd_cd hoi)
  have pvL := fun p => pe_var (X := X) (i := l) (x := lx) (pos := p) (by rw [ok.N]; exact hl0) (ok.vis hvl) (odd_db hol) (odd_cd hol)
  have pvJ := fun p => pe_var (X := X) (i := j) (x := px) (pos := p) (by rw [ok.N]; exact hj) (ok.vis hvj) (odd_db hoj) (odd_cd hoj)
  have fld := fun p q => pe_fldR (X := X) (f := Str.ofString f) (pos := q) (pvS p) attrBase
  have tst := pt_cmpR (pos := p9) (op_cmp (X := X) (κ := κ) ok.hκ ok.hw ok.un .eq) (pe_ix (pos := p7) (ix_any (κ := κ) ok.hκ ok.hw ok.un) (fld p4 p5) (pvL p6) (plainIx_ok rfl)) (pvJ p8) rfl
  have body := pss_one (ps_if (pos := p12) tst (pss_one (ps_ret (pos := p11) (pvL p10))) pss_nil)
  have whole := pss_cons (ps_for (pos := p13) hp ok.calm (pi_keys (tg := .Name lx p1) (fld p2 p3)) (pg_name (pos := p1) ok.nd (by rw [ok.N]; exact hl0) (ok.loc hll) (ok.fn lx hll)) body (fun _ => rfl)) (pss_one (ps_ret (pos := p15) (show PE X (.Constant .none kk p14) (tC .non) from pe_non)))
  refine ⟨fun pins s σ H D I ⟨as0, H0, as, ρ, S, st0, rs, hS, hl, w⟩ => ?_⟩
  have w : Out ((evE Φ ρ (.att (.var i) f cs) S).lift ρ fun d S1 => (evE Φ ρ (.var j) S1).lift ρ fun y S2 => keyR d y S2) (kF κ as0 H0 as H n D Wx) FF := by
    have w' : Out (evS Φ (.retK (.att (.var i) f cs) (.var j) l) ρ S) (kF κ as0 H0 as H n D Wx) FF := w
    rw [evS] at w'
    exact w'
  cases q0 : ρ.get i with
  | none =>
    have e : evE Φ ρ (.att (.var i) f cs) S = .bad := by unfold evE; rw [evW, evW, q0]; rfl
    rw [e] at w; exact w.elim
  | some w0 =>
    obtain ⟨v0, s0, r0⟩ := rs.get q0
    have rv := r0.vw hS
    have eD : evE Φ ρ (.att (.var i) f cs) S = (attD cs f (w0.vw S) S).w.d := by unfold evE; rw [evW, evW, q0]; rfl
    rw [eD] at w
    cases q1 : w0.vw S with
    | obj c fs =>
      rw [q1] at w rv
      obtain ⟨p, dx, fvs, rfl, rd, only, hf⟩ := rv
      cases qc : cs.contains c with
      | false =>
        have e : attD cs f (.obj c fs) S = .bad := by unfold attD; simp only [qc]; rfl
        rw [e] at w; exact w.elim
      | true =>
        have e : attD cs f (.obj c fs) S = R.of S (lookF fs f) := by unfold attD; simp only [qc]; rfl
        rw [e] at w
        cases qf : lookF fs f with
        | none => rw [qf] at w; exact w.elim
        | some d =>
          rw [qf] at w
          have w : Out ((evE Φ ρ (.var j) S).lift ρ fun y S2 => keyR d y S2) (kF κ as0 H0 as H n D Wx) FF := w
          have eJ : evE Φ ρ (.var j) S = (R.of S (ρ.get j)).d := by unfold evE; rw [evW]
          rw [eJ] at w
          cases q2 : ρ.get j with
          | none => rw [q2] at w; exact w.elim
          | some wy =>
            rw [q2] at w
            cases wy with
            | own c => exact w.elim
            | d y =>
              obtain ⟨vy, sy, ry⟩ := rs.val j y q2
              cases d with
              | ref k =>
                obtain ⟨u, hu, hr⟩ := hf.look qf
                obtain ⟨a, ea, rfl⟩ := hr
                cases q3 : S[k]? with
                | none =>
                  have w : Out (keyR (.ref k) y S) (kF κ as0 H0 as H n D Wx) FF := w
                  unfold keyR at w
                  simp only [q3] at w
                  exact w.elim
                | some cell =>
                  have w : Out (keyR (.ref k) y S) (kF κ as0 H0 as H n D Wx) FF := w
                  unfold keyR at w
                  cases cell with
                  | dct kvs =>
                    simp only [q3] at w
                    obtain ⟨z, w⟩ := w.of_chk
                    obtain ⟨zy, zk⟩ := ba2 z
                    have w : kF κ as0 H0 as H n D Wx (.rt (.d (keyAt kvs y))) S := w
                    obtain ⟨kws, hk, hks⟩ := hS.cell k a _ ea q3
                    have nu : ¬ imm (.dK kws) := fun z => z
                    have hna : ∀ o' u', X.H_0 a ≠ some (.frz o' u') := fun o' u' h => by
                      have := I.base.frzs a o' u' h
                      rw [hk] at this; cases this
                    have nd := dk_nodup (I.hok a _ hk)
                    obtain ⟨o, I1⟩ := freeze I hk True.intro
                    have im : Imm H (upd H a (.frz o (.dK kws))) := Imm.write hk nu
                    have hpa : p ≠ a := fun z => by
                      rcases rd with h | ⟨o', h⟩
                      · rw [z, hk] at h; cases h
                      · rw [z, hk] at h; cases h
                    have rd' : Rd (upd H a (.frz o (.dK kws))) p (.ins (He.ga κ.K (Str.ofString c)) dx fvs) := by
                      rcases rd with h | ⟨o', h⟩
                      · exact .inl (by rw [upd_ne hpa]; exact h)
                      · exact .inr ⟨o', by rw [upd_ne hpa]; exact h⟩
                    rw [ok.hκ] at rd'
                    obtain ⟨k1, k2⟩ := attB_ok ok hc qc
                    have hks' := hks.mono (as' := as) (fun _ _ h => h) im
                    have ry' := ry.mono (as' := as) (fun _ _ h => h) im
                    have fz : upd H a (.frz o (.dK kws)) a = some (.frz o (.dK kws)) := upd_same
                    have hlen : kvs.length = kws.length := hks.length
                    have fin : ∀ v, IsD κ as (upd H a (.frz o (.dK kws))) (keyAt kvs y) v → D.rt v H := fun v hv => by
                      refine w as H σ st0 Imm.refl Pre.refl hS hl v ?_
                      have : ∀ (l : List (Ky × Ev.D)), (∃ q, keyAt l y = kyD q) ∨ keyAt l y = .non := by
                        intro l
                        induction l with
                        | nil => exact .inr rfl
                        | cons p l ih =>
                          obtain ⟨q, d⟩ := p
                          unfold keyAt
                          split
                          · exact .inl ⟨q, rfl⟩
                          · exact ih
                      rcases this kvs with ⟨q, e⟩ | e
                      · rw [e] at hv ⊢
                        cases q <;> exact hv
                      · rw [e] at hv ⊢
                        exact hv
                    have key : wpAny (model X.prog X.w) X.A (execs [.For (.Name lx p1) (.Attribute (.Name sx p2) (Str.ofString f) p3) [.If (.Compare (.Subscript (.Attribute (.Name sx p4) (Str.ofString f) p5) (.Name lx p6) p7) [.Eq] [.Name px p8] p9) [.Return (some (.Name lx p10)) p11] [] p12] [] p13, .Return (some (.Constant .none kk p14)) p15] X.env) (SP X pins ⟨fun _ _ => False, fun v H' => H' = upd H a (.frz o (.dK kws)) ∧ D.rt v H, fun _ _ => False, fun _ _ => False⟩) X.xe s := by
                      refine whole.run pins s σ _ _ I1 ?_
                      refine ⟨_, s0, p, _, dx, fvs, .ref a, rfl, rd', k1, k2, hu, a, o, rfl, .inl ⟨kws, fz, ?_⟩⟩
                      refine ⟨fun t m σ' H' => m = kws.length - t ∧ t ≤ kws.length ∧ H' = upd H a (.frz o (.dK kws)) ∧ σ'[i]? = some (some (.ref p)) ∧ σ'[j]? = some (some vy) ∧ σ'.length = σ.length ∧ keyAt (kvs.drop t) y = keyAt kvs y, ⟨_, rfl, Nat.zero_le _, rfl, s0, sy, rfl, rfl⟩, ?_⟩
                      rintro t m σ' H' ⟨rfl, ht, rfl, s1, s2, l1, kd⟩
                      by_cases hlt : t < kws.length
                      · refine .inr ⟨⟨fz, hlt⟩, fun σ2 H2 => H2 = upd H a (.frz o (.dK kws)) ∧ σ2[i]? = some (some (.ref p)) ∧ σ2[j]? = some (some vy) ∧ σ2.length = σ.length ∧ keyAt (kvs.drop (t + 1)) y = keyAt kvs y, fun σ2 H2 ⟨e1, e2, e3, e4, e5⟩ => ⟨kws.length - (t + 1), by omega, rfl, hlt, e1, e2, e3, e4, e5⟩, ?_⟩
                        rintro x H2 ⟨rfl, kk', vv, e1, rfl⟩
                        obtain ⟨q, d, e2, rfl, okq, hd⟩ := ks_get hks' e1
                        have lk := look_at hks' nd e2
                        have hlt2 : l < σ'.length := by rw [l1, hl, ← hn, ok.N]; exact (List.getElem?_eq_some_iff.mp hl0).1
                        have g1 : (σ'.set l (some (kV (kx q))))[i]? = some (some (.ref p)) := by rw [List.getElem?_set_ne li]; exact s1
                        have g2 : (σ'.set l (some (kV (kx q))))[j]? = some (some vy) := by rw [List.getElem?_set_ne lj]; exact s2
                        have g3 : (σ'.set l (some (kV (kx q))))[l]? = some (some (kV (kx q))) := by rw [List.getElem?_set_self hlt2]
                        refine ⟨_, g1, p, _, dx, fvs, .ref a, rfl, rd', k1, k2, hu, _, g3, as, S, .dic kvs, kyD q, fun _ _ => False, ⟨a, kws, rfl, .inr ⟨o, fz⟩, hks'⟩, ky_is okq, ?_⟩
                        have ei : idxD (.dic kvs) (kyD q) S = .ok d S := by
                          cases q with
                          | inl z => show R.of S (lookK kvs (.inl z)) = _; rw [lk]; rfl
                          | inr z => show R.of S (lookK kvs (.inr z)) = _; rw [lk]; rfl
                        rw [ei]
                        intro v hv
                        refine ⟨vy, g2, as, S, d, y, fun _ _ => False, IsD.v hv, IsD.v ry', ?_⟩
                        have zd : pl d = true := List.all_eq_true.mp zk (q, d) (List.mem_of_getElem? e2)
                        have eq : cmpD .eq d y S = .ok (eqv d y) S := by
                          show R.chk (eqOk d y) (.ok (eqv d y) S) = _
                          have : eqOk d y = true := by unfold eqOk; rw [zd, zy]; simp
                          rw [this]; rfl
                        rw [eq]
                        refine ⟨_, rfl, ?_⟩
                        cases qe : eqv d y with
                        | true =>
                          rw [if_pos rfl]
                          refine ⟨_, g3, rfl, fin _ ?_⟩
                          have : keyAt kvs y = kyD q := by
                            obtain ⟨h1, h2⟩ := List.getElem?_eq_some_iff.mp e2
                            rw [← kd, List.drop_eq_getElem_cons h1, h2, keyAt, qe, if_pos rfl]
                          rw [this]
                          exact ky_is okq
                        | false =>
                          rw [if_neg Bool.false_ne_true]
                          exact ⟨rfl, g1, g2, by rw [List.length_set]; exact l1, keyAt_drop e2 qe kd⟩
                      · have e : t = kws.length := by omega
                        subst e
                        refine .inl ⟨⟨fz, Nat.le_refl _⟩, ?_⟩
                        refine ⟨rfl, fin _ ?_⟩
                        rw [← kd, ← hlen, List.drop_length]
                        exact rfl
                    refine thn key fun fl s' q => ?_
                    cases fl with
                    | next => obtain ⟨_, _, _, q⟩ := q; exact q.elim
                    | brk => obtain ⟨_, _, _, q⟩ := q; exact q.elim
                    | cont => obtain ⟨_, _, _, q⟩ := q; exact q.elim
                    | ret u =>
                      obtain ⟨v, σ', H', I2, rv2, rfl, q⟩ := q
                      exact ⟨v, σ', H, thaw hna hk True.intro I2, rv2, q⟩
                  | _ => simp only [q3] at w; exact w.elim
              | _ => exact w.elim
    | _ => rw [q1] at w; exact w.elim
end
end Ev
set_option maxHeartbeats 2000000
/-! Ev, part 15b: dict displays; a, b = x, y. -/
namespace Ev
open PySem PySem.Spec PyProof.Rows L2
/-- the pairs of a display, as readings -/
def trsOf (κ : Kx) (Wx : L2.WX) : List (MW × MW) → List (TE × TE)
  | [] => []
  | (a, b) :: r => (rdW κ Wx a, rdW κ Wx b) :: trsOf κ Wx r
def evP : List (MW × MW) → Env → Sto → R (List D)
  | [], _, S => .ok [] S
  | (a, b) :: r, ρ, S => (a ρ S).d.bind fun x S1 => ((b ρ S1).d.bind fun y S2 => (evP r ρ S2).bind fun ds S3 => .ok (y :: ds) S3).bind fun ds S2 => .ok (x :: ds) S2
def pairV : List V → List (V × V)
  | x :: y :: r => (x, y) :: pairV r
  | _ => []
section
variable {κ : Kx} {Wx : L2.WX}
theorem rd_pairs : ∀ {ps : List (MW × MW)} {as : List Addr} {H0 H : Hp} {σ : L2.St} {ρ : Env} {S : Sto} {Q : List (V × V) → Hp → Prop} {k : List D → Sto → Prop}, RelS κ as H0 H σ ρ → RepS κ as H S → Out (evP ps ρ S) k (kX κ as H σ Wx) →
    (∀ ds S1 as1 H1 vs, k ds S1 → Step as H as1 H1 → IsDs κ as1 H1 ds vs → ds.length = 2 * ps.length → RepS κ as1 H1 S1 → Q (pairV vs) H1) → tPairs (trsOf κ Wx ps) σ H Q
  | [], as, H0, H, σ, ρ, S, Q, k, rs, hS, w, h => h [] S as H [] w Step.refl True.intro rfl hS
  | (a, b) :: r, as, H0, H, σ, ρ, S, Q, k, rs, hS, w, h => by
    have w : Out ((a ρ S).d.bind fun x S1 => ((b ρ S1).d.bind fun y S2 => (evP r ρ S2).bind fun ds S3 => .ok (y :: ds) S3).bind fun ds S2 => .ok (x :: ds) S2) k (kX κ as H σ Wx) := w
    refine rdW.mk rs hS w.of_bind.of_d fun x S1 as1 H1 v w1 st1 r1 hS1 => ?_
    obtain ⟨d, rfl, w1⟩ := w1
    refine rdW.mk (rs.step st1) hS1 (Out.onX st1 w1).of_bind.of_bind.of_d fun y S2 as2 H2 v2 w2 st2 r2 hS2 => ?_
    obtain ⟨d2, rfl, w2⟩ := w2
    refine rd_pairs ((rs.step st1).step st2) hS2 (Out.onX st2 w2).of_bind fun ds S3 as3 H3 vs w3 st3 r3 l3 hS3 => ?_
    have w3 : k (d :: d2 :: ds) S3 := w3
    refine h (d :: d2 :: ds) S3 as3 H3 (v :: v2 :: vs) w3 ((st1.trans st2).trans st3) ⟨?_, ?_, r3⟩ (by simp only [List.length_cons, l3]; omega) hS3
    · exact IsD.step st3 (IsD.step st2 r1)
    · exact IsD.step st3 r2
theorem ks_of {as : List Addr} {H : Hp} : ∀ {ds : List D} {vs : List V} {kvs : List (Ky × D)}, pairUp ds = some kvs → IsDs κ as H ds vs → ∃ kws, pairV vs = kws.map (fun kv => (kV kv.1, kv.2)) ∧ IsKs κ as H kvs kws
  | [], [], kvs, e, _ => by cases e; exact ⟨[], rfl, True.intro⟩
  | [], _ :: _, _, _, h => h.elim
  | [_], _, _, e, _ => by cases e
  | k :: d :: r, [], _, _, h => h.elim
  | k :: d :: r, [_], _, _, h => h.2.elim
  | k :: d :: r, v :: w :: vs, kvs, e, h => by
    have e : ((dKy k).bind fun k => (pairUp r).map ((k, d) :: ·)) = some kvs := e
    obtain ⟨q, e1, e2⟩ := Option.bind_eq_some_iff.mp e
    obtain ⟨l, e3, e4⟩ := Option.map_eq_some_iff.mp e2
    subst e4
    obtain ⟨kws, h1, h2⟩ := ks_of e3 h.2.2
    have hk : v = kV (kx q) ∧ kyOk q = true := by
      cases k with
      | int i => cases e1; exact ⟨h.1, rfl⟩
      | str i => cases e1; exact ⟨h.1.1, h.1.2⟩
      | _ => cases e1
    refine ⟨(kx q, w) :: kws, ?_, ⟨rfl, hk.2⟩, h.2.1, h2⟩
    show (v, w) :: pairV vs = _
    rw [h1, hk.1]
    rfl
theorem IsKs.len {as : List Addr} {H : Hp} : ∀ {kvs : List (Ky × D)} {kws : List (L2.Key × V)}, IsKs κ as H kvs kws → kvs.length = kws.length
  | [], [], _ => rfl
  | (_, _) :: _, (_, _) :: _, h => by simp only [List.length_cons, IsKs.len h.2.2]
  | [], _ :: _, h => h.elim
  | _ :: _, [], h => h.elim
theorem pairV_len : ∀ {vs : List V} {n : Nat}, vs.length = 2 * n → (pairV vs).length = n
  | [], 0, _ => rfl
  | [], n + 1, h => by simp at h
  | [_], n, h => by simp at h; omega
  | x :: y :: r, 0, h => by simp at h
  | x :: y :: r, n + 1, h => by
    show (pairV r).length + 1 = _
    rw [pairV_len (vs := r) (n := n) (by simp only [List.length_cons] at h; omega)]
theorem ks_merge {as : List Addr} {H : Hp} : ∀ {ps : List (Ky × D)} {pws : List (L2.Key × V)} {kvs : List (Ky × D)} {kws : List (L2.Key × V)}, IsKs κ as H ps pws → IsKs κ as H kvs kws → IsKs κ as H (mergeK kvs ps) (L2.mergeK kws pws)
  | [], [], _, _, _, h => h
  | (k, d) :: r, (q, v) :: r', kvs, kws, hp, h => by
    obtain ⟨⟨rfl, ok⟩, hd, hr⟩ := hp
    exact ks_merge (ps := r) (pws := r') hr (ks_put ok hd h)
  | [], _ :: _, _, _, hp, _ => hp.elim
  | _ :: _, [], _, _, hp, _ => hp.elim
theorem pn_dic {X : Cx} {pos : Pos} {ps : List (MW × MW)} {keys : List (Option Expr)} {vals : List Expr} (hp : PPs X pos keys vals (trsOf κ Wx ps)) (hall : keys.all (·.isSome) = true) (hl : keys.length = vals.length) (h0 : keys ≠ []) (h15 : keys.length ≤ 15) (hn : ps.length = keys.length) :
    PE X (.Dict keys vals pos) (rdN κ Wx fun ρ S => (evP ps ρ S).bind fun ds S1 => match pairUp ds with
      | some kvs => .ok (.dct (mergeK [] kvs)) S1
      | none => .bad) := by
  refine PE.imp (pe_disp hp hall hl h0 h15) fun σ H Q ⟨as, H0, ρ, S, rs, hS, w⟩ p hp0 => ?_
  have st0 : Step as H as (upd H p (.dK [])) := Step.new hp0
  refine rd_pairs (rs.step st0) (RepS.new hp0 hS) (Out.onX st0 w).of_bind fun ds S1 as1 H1 vs w1 st1 r1 l1 hS1 => ?_
  have np := fresh hp0 hS
  have hp1 : H1 p = some (.dK []) := st1.keep p _ upd_same np
  have np1 : p ∉ as1 := st1.notin upd_same np
  refine ⟨hp1, ?_⟩
  cases e : pairUp ds with
  | none => rw [e] at w1; exact w1.elim
  | some kvs =>
    rw [e] at w1
    obtain ⟨kws, e1, hk⟩ := ks_of e r1
    have hlen : kws.length = ps.length := by
      have h1 := pairV_len (vs := vs) (n := ps.length) (by rw [← r1.length]; exact l1)
      rw [e1, List.length_map] at h1
      exact h1
    refine ⟨kws, e1, by omega, ?_⟩
    have im : Imm H1 (upd H1 p (.dK (L2.mergeK [] kws))) := Imm.write hp1 fun z => z
    have st : Step as H as1 (upd H1 p (.dK (L2.mergeK [] kws))) := by
      have s := st0.trans st1
      exact ⟨s.ext, fun a u h i => by rw [upd_ne (ne_of_none h hp0)]; exact s.imm a u h i, fun a u h i => by rw [upd_ne (ne_of_none h hp0)]; exact s.keep a u h i, fun a h => upd_there a (s.there a h)⟩
    exact w1 as1 _ p st hp0 np1 ⟨_, upd_same, (ks_merge (kvs := []) (kws := []) hk True.intro).mono (fun _ _ h => h) im⟩ (hS1.off np1 im)
end
end Ev
set_option maxHeartbeats 4000000
/-! Ev, part 15b: x[::-1]. -/
namespace Ev
open PySem PySem.Spec PyProof.Rows L2
section
variable {prog : Program} {w : World} {A : Around} {E : Value → Shared → Prop} {s : Shared}
theorem pick_rev (xs : Array Value) : ((List.range xs.size).filterMap fun (m : Nat) => xs[(((xs.size : Int) - 1) + (m : Int) * (-1)).toNat]?).toArray = xs.toList.reverse.toArray := by
  congr 1
  have e : ∀ m ∈ List.range xs.size, xs[(((xs.size : Int) - 1) + (m : Int) * (-1)).toNat]? = some (xs.toList.reverse.getD m .none) := fun m hm => by
    have hm := List.mem_range.mp hm
    have e1 : (((xs.size : Int) - 1) + (m : Int) * (-1)).toNat = xs.size - 1 - m := by omega
    rw [e1, Array.getElem?_eq_getElem (by omega)]
    congr 1
    rw [List.getD_eq_getElem?_getD, List.getElem?_reverse (by rw [Array.length_toList]; exact hm), Array.length_toList, List.getElem?_eq_getElem (by rw [Array.length_toList]; omega)]
    simp
  have e2 : ∀ (l : List Nat) (f : Nat → Option Value) (g : Nat → Value), (∀ m ∈ l, f m = some (g m)) → l.filterMap f = l.map g := by
    intro l f g
    induction l with
    | nil => intro _; rfl
    | cons a l ih =>
      intro h
      rw [List.filterMap_cons, h a List.mem_cons_self, List.map_cons, ih fun m hm => h m (List.mem_cons_of_mem _ hm)]
  rw [e2 _ _ _ e]
  apply List.ext_getElem?
  intro i
  rw [List.getElem?_map]
  by_cases h : i < xs.size
  · rw [List.getElem?_range h, Option.map_some, List.getElem?_eq_getElem (by simpa using h), List.getD_eq_getElem?_getD, List.getElem?_eq_getElem (by simpa using h)]
    rfl
  · rw [List.getElem?_eq_none (by simpa using h), List.getElem?_eq_none (by simpa using h)]
    rfl
theorem sliceApplied_rev {sl : Addr} {vs : Value} {n : Nat} {Q : Int × Int × Nat → Shared → Prop} {vl vu : Value} (hs : s.heap.IsSliceOf sl vl vu vs) (pl : IsPart vl none) (pu : IsPart vu none) (ps : IsPart vs (some (-1)))
    (h : Q ((n : Int) - 1, -1, n) s) : wpAny (model prog w) A (Builtin.Slice.sliceApplied (.ref sl) (pure (n : Int))) Q E s := by
  obtain ⟨os, hos, hcs, hds⟩ := id hs
  unfold Builtin.Slice.sliceApplied Builtin.Slice.sliceFields
  refine wpAny_bind (wpAny_bind (wpAny_field hos hds (x := vl) rfl (wpAny_bind (wpAny_field hos hds (x := vu) rfl (wpAny_bind (wpAny_field hos hds (x := vs) rfl (wpAny_pure ?_)))))))
  refine wpAny_bind (HT.slicePart_ ps ?_)
  show wpAny _ _ (if ((-1 : Int) == 0) = true then _ else _) _ _ s
  rw [if_neg (by decide)]
  refine wpAny_bind (HT.slicePart_ pl (wpAny_bind (HT.slicePart_ pu (wpAny_bind (wpAny_pure ?_)))))
  have e : Builtin.Slice.slicePlaces ((n : Int) - 1) (-1) (-1) = n := by
    unfold Builtin.Slice.slicePlaces
    by_cases z : (n : Int) - 1 > -1
    · rw [if_neg (by decide), if_pos z]
      simp only [Int.neg_neg, Int.ediv_one]
      omega
    · rw [if_neg (by decide), if_neg z]
      show 0 = n
      omega
  show wpAny _ _ (pure ((n : Int) - 1, (-1 : Int), Builtin.Slice.slicePlaces ((n : Int) - 1) (-1) (-1))) _ _ s
  rw [e]
  exact wpAny_pure h
theorem getItem_tuple_rev {t sl : Addr} {items : Array Value} {vs : Value} {Q : Value → Shared → Prop} (ht : IsTup s.heap t items) {vl vu : Value} (hs : s.heap.IsSliceOf sl vl vu vs) (pl : IsPart vl none) (pu : IsPart vu none) (ps : IsPart vs (some (-1)))
    (h : Q (.ref s.heap.objs.size) { s with heap := s.heap.push { cls := .type "tuple", data := .seq items.toList.reverse.toArray } })
    (hsz : items.size ≤ sizeLine) : wpAny (model prog w) A (getItem (.ref t) (.ref sl)) Q E s := by
  have htake : sizeOk (.seq items.toList.reverse.toArray) := by
    show items.toList.reverse.toArray.size ≤ sizeLine
    simpa using hsz
  obtain ⟨os, hos, hcs, hds⟩ := id hs
  have hTs : s.TypeIs (.ref sl) "slice" := ⟨os, hos, hcs⟩
  unfold getItem
  try with_reducible refine wpAny_holding ?_
  first | refine wpAny_bind (wpAny_pure ?_) | skip
  refine wpAny_bind (wpAny_sequenceKey ht.typeIs (by decide) ?_)
  refine wpAny_bind (wpAny_callSpecial?_slot (name := Str.ofString "__getitem__") ht.typeIs PyProof.Rows.slot_tuple_getitem
    (wpAny_call_entry PyProof.Rows.slot_tuple_getitem ht.typeIs entry_tuple_getitem ?_ (args_tuple_getitem _ _)))
  show wpAny _ _ (Builtin.Tuple.tupleItemsOf (.ref t) >>= _) _ _ s
  refine wpAny_bind (tupleItemsOf_ ht ?_)
  refine wpAny_bind (wpAny_typeOf hTs ?_)
  rw [if_pos (by decide)]
  refine wpAny_bind (sliceApplied_rev hs pl pu ps ?_)
  show wpAny _ _ (if (((items.size : Int) - 1) == 0 && (-1 : Int) == 1 && items.size == items.size) = true then _ else _) _ _ s
  have hno : ¬ ((((items.size : Int) - 1) == 0 && (-1 : Int) == 1 && items.size == items.size) = true) := by
    have : ((-1 : Int) == 1) = false := by decide
    rw [this, Bool.and_false, Bool.false_and]
    exact Bool.false_ne_true
  rw [if_neg hno, pick_rev]
  first
    | exact wpAny_bind (m := Builtin.Tuple.tupleExact _) (wpAny_newObj_type (wpAny_pure ⟨_, rfl, wpAny_pure h⟩) htake)
    | exact wpAny_bind (m := Builtin.Tuple.tupleExact _) (wpAny_newObj_type (wpAny_bind (wpAny_pure (wpAny_pure ⟨_, rfl, wpAny_pure h⟩))) htake)
    | exact wpAny_bind (wpAny_bind (m := Builtin.Tuple.tupleExact _) (wpAny_newObj_type (wpAny_pure (wpAny_pure ⟨_, rfl, wpAny_pure h⟩)) htake))
    | exact wpAny_bind (wpAny_bind (m := Builtin.Tuple.tupleExact _) (wpAny_newObj_type (wpAny_pure ⟨_, rfl, wpAny_pure h⟩) htake))
end
def tRevT (K : PySem.W.Frag) (te : TE) : TE := fun σ H Q => te σ H fun x H1 => ∃ a xs, x = .ref a ∧ SqT K H1 a xs ∧ QT Q H1 xs.reverse
theorem pe_revT {X : Cx} {te : TE} {e : Expr} {k : Nat} {p1 p2 p3 pos : Pos} (he : PE X e te) : PE X (.Subscript e (.Slice none none (some (.UnaryOp .USub (.Constant (.int 1) k p1) p2)) p3) pos) (tRevT X.K te) := by
  refine ⟨fun pins s σ H Q I h => ?_⟩
  refine Subscript_ (thn (he.run pins s σ H _ I h) fun v s1 ⟨x, H1, I1, r1, q1⟩ => ?_)
  obtain ⟨a, xs, ex, hx, q⟩ := q1
  subst ex
  cases r1
  have hst : PO X (some (.UnaryOp .USub (.Constant (.int 1) k p1) p2)) (tPart (tUn (rU fun i => .int (-i)) (tC (.int 1)))) := po_some (pe_un un_neg pe_int)
  refine wpAny_Slice (thn (po_none.run pins s1 σ H1 (fun o H2 => o = none ∧ H2 = H1) I1 ⟨rfl, rfl⟩) fun vl s2 ⟨l, H2, I2, pl, el, e2⟩ => ?_)
  subst el e2
  refine thn (po_none.run pins s2 σ H2 (fun o H3 => o = none ∧ H3 = H2) I2 ⟨rfl, rfl⟩) fun vu s3 ⟨u, H3, I3, pu, eu, e3⟩ => ?_
  subst eu e3
  refine thn (hst.run pins s3 σ H3 (fun o H4 => o = some (-1) ∧ H4 = H3) I3 ⟨1, rfl, -1, rfl, rfl, rfl⟩) fun vs s4 ⟨o, H4, I4, ps, eo, e4⟩ => ?_
  subst eo e4
  have I5 : Inv X pins σ H4 { s4 with heap := s4.heap.push { cls := .type "slice", data := .fields #[vl, vu, vs] } } := I4.kept (t' := s4.toks) fun b ob q => Heap.get?_push_of_some _ q
  obtain ⟨its, r, ht, hz⟩ := I5.tuple hx
  show wpAny (model X.prog X.w) X.A (subscriptTail e (.Slice none none (some (.UnaryOp .USub (.Constant (.int 1) k p1) p2)) p3) (.ref a) (.ref s4.heap.objs.size)) (EP X pins σ Q) X.xe { s4 with heap := s4.heap.push { cls := .type "slice", data := .fields #[vl, vu, vs] } }
  refine tail_any (ops := [.ref a, .ref s4.heap.objs.size]) ht.typeIs (PyProof.Rows.slot_tuple_getitem.lookup) ?_ (by with_unfolding_all rfl)
  refine getItem_tuple_rev ht (Heap.IsSliceOf.new _ vl vu vs) pl pu ps ?_ (by rw [List.size_toArray, ← r.length]; exact hz)
  exact Inv.laidT I5 (by rw [List.length_reverse]; exact hz) r.reverse q
section
variable {X : Cx} {sc : SC} {κ : Kx} {Φ : Fn} {Wx : L2.WX} {a : Expr} {ma : MW} {pos : Pos}
theorem pd_rev (ok : CxOk X sc κ Φ) {k : Nat} {p1 p2 p3 : Pos} (ha : PE X a (rdW κ Wx ma)) :
    PE X (.Subscript a (.Slice none none (some (.UnaryOp .USub (.Constant (.int 1) k p1) p2)) p3) pos) (rdW κ Wx fun ρ S => (ma ρ S).bind fun x S1 => match x.vw S1 with
    | .tup xs => .ok (.d (.tup xs.reverse)) S1
    | _ => .bad) := by
  refine PE.imp (pe_revT ha) fun σ H Q ⟨as, H0, ρ, S, rs, hS, w⟩ => ?_
  refine rdW.mk rs hS w.of_bind fun x S1 as1 H1 v w1 st1 r1 hS1 => ?_
  have rv := r1.vw hS1
  cases q : x.vw S1 with
  | tup xs =>
    rw [q] at rv
    obtain ⟨p, vs, rfl, hT, hd⟩ := rv
    rw [ok.hκ] at hT
    have w5 : kW κ as H Q (.d (.tup xs.reverse)) S1 := by simp only [q] at w1; exact w1
    exact ⟨p, vs, rfl, hT.sq, kD.tup (kW.d (kW.on st1 w5)) hS1 hd.reverse⟩
  | _ => simp only [q] at w1; exact w1.elim
theorem pn_rev (ok : CxOk X sc κ Φ) {k : Nat} {p1 p2 p3 : Pos} (ha : PE X a (rdW κ Wx ma)) :
    PE X (.Subscript a (.Slice none none (some (.UnaryOp .USub (.Constant (.int 1) k p1) p2)) p3) pos) (rdN κ Wx fun ρ S => (ma ρ S).bind fun x S1 => match x.vw S1 with
    | .lst xs => .ok (.lst xs.reverse) S1
    | _ => .bad) := by
  refine PE.imp (pe_revL ha) fun σ H Q ⟨as, H0, ρ, S, rs, hS, w⟩ => ?_
  refine rdW.mk rs hS w.of_bind fun x S1 as1 H1 v w1 st1 r1 hS1 => ?_
  have rv := r1.vw hS1
  cases q : x.vw S1 with
  | lst xs =>
    rw [q] at rv
    obtain ⟨p, vs, rfl, hT, hd⟩ := rv
    have w5 : kN κ as H Q (.lst xs.reverse) S1 := by simp only [q] at w1; exact w1
    exact ⟨p, vs, rfl, .inl hT, kN.lst (kN.on st1 w5) hS1 hd.reverse⟩
  | _ => simp only [q] at w1; exact w1.elim
end
end Ev
set_option maxHeartbeats 4000000
/-! Ev, part 15c: sorted. -/
namespace Ev
open PySem PySem.Spec PyProof.Rows L2 PySem.W
section
variable {X : Cx} {κ : Kx} {as : List Addr} {pins : List (Addr × Obj)} {σ : L2.St} {H : Hp} {s : Shared}
theorem each_in : ∀ {xs : List D} {vs : List V} {us : List Value}, IsDs κ as H xs vs → Vals vs us → EachIs (fun u d => ∃ x, RelV x u ∧ IsD κ as H d x) us xs
  | [], [], us, _, r => by cases r; exact .nil
  | d :: ds, v :: vs, us, h, r => by
    cases r with
    | cons a b => exact .cons ⟨v, a, h.1⟩ (each_in h.2 b)
  | [], _ :: _, _, h, _ => h.elim
  | _ :: _, [], _, h, _ => h.elim
theorem each_out : ∀ {us : List Value} {xs : List D}, EachIs (fun u d => ∃ x, RelV x u ∧ IsD κ as H d x) us xs → ∃ vs, Vals vs us ∧ IsDs κ as H xs vs
  | _, _, .nil => ⟨[], .nil, True.intro⟩
  | _, _, .cons ⟨x, a, b⟩ t => by
    obtain ⟨vs, h1, h2⟩ := each_out t
    exact ⟨x :: vs, .cons a h1, b, h2⟩
theorem each_reads {h : Heap} : ∀ {xs : List D} {us : List Value} {n : Nat}, okDs xs n = true → RdVs h xs us → EachIs (fun u d => ∃ as, Reads h u (pdD d) as) us xs
  | [], [], _, _, _ => .nil
  | d :: ds, u :: us, n, ok, r => by
    have ok' : (okD d n && okDs ds n) = true := by rw [okDs] at ok; exact ok
    obtain ⟨h1, h2⟩ := Bool.and_eq_true_iff.mp ok'
    exact .cons (reads_of h1 r.1) (each_reads h2 r.2)
  | [], _ :: _, _, _, r => r.elim
  | _ :: _, [], _, _, r => r.elim
theorem okDs_mem {n : Nat} : ∀ {xs : List D}, okDs xs n = true → ∀ d ∈ xs, okD d n = true
  | [], _, d, h => nomatch h
  | x :: xs, ok, d, h => by
    have ok' : (okD x n && okDs xs n) = true := by rw [okDs] at ok; exact ok
    obtain ⟨h1, h2⟩ := Bool.and_eq_true_iff.mp ok'
    rcases List.mem_cons.mp h with rfl | h
    · exact h1
    · exact okDs_mem h2 d h
theorem ordOk_alike {xs : List D} (h : ordOk xs = true) : okDs xs 60 = true ∧ AllAlike (xs.map pdD) ∧ Sortable (xs.map pdD) := by
  obtain ⟨h1, h2⟩ := Bool.and_eq_true_iff.mp h
  obtain ⟨h2, h3⟩ := Bool.and_eq_true_iff.mp h2
  refine ⟨h1, fun d hd d' hd' => ?_, ?_⟩
  · obtain ⟨x, hx, rfl⟩ := List.mem_map.mp hd
    obtain ⟨y, hy, rfl⟩ := List.mem_map.mp hd'
    exact List.all_eq_true.mp (List.all_eq_true.mp h3 x hx) y hy
  · rcases Bool.or_eq_true_iff.mp h2 with h2 | h2
    · refine .inr fun d hd => ?_
      obtain ⟨x, hx, rfl⟩ := List.mem_map.mp hd
      have := List.all_eq_true.mp h2 x hx
      cases x <;> first | (exact absurd this Bool.false_ne_true) | (constructor <;> simp [pdD])
    · rcases Bool.or_eq_true_iff.mp h2 with h2 | h2
      · refine .inr fun d hd => ?_
        obtain ⟨x, hx, rfl⟩ := List.mem_map.mp hd
        have := List.all_eq_true.mp h2 x hx
        cases x <;> first | (exact absurd this Bool.false_ne_true) | (constructor <;> simp [pdD])
      · refine .inl fun d hd => ?_
        obtain ⟨x, hx, rfl⟩ := List.mem_map.mp hd
        have := List.all_eq_true.mp h2 x hx
        cases x with
        | tup ys => cases ys with
          | nil => cases this
          | cons y ys => exact ⟨_, _, rfl⟩
        | _ => cases this
/-- sorted(xs) of a list -/
def rSortL (κ : Kx) : List V → Hp → VK → Prop := fun vs H Q => ∃ as a xs ws, vs = [.ref a] ∧ SqL κ.K H a ws ∧ IsDs κ as H xs ws ∧ ordOk xs = true ∧ ∀ p zs, H p = none → IsDs κ as H (sortD xs) zs → Q (.ref p) (upd H p (.lst zs))
theorem cr_sortL (hκ : κ.K = X.K) (hu : X.A.units + 64 < cLine) : CallR X (.builtin "sorted") (rSortL κ) := by
  intro pins s σ H vs us Q I r h
  obtain ⟨as, a, xs, ws, rfl, hs, hd, ok, q⟩ := h
  rw [hκ] at hs
  obtain ⟨its, rv, hl, hz⟩ := I.list hs
  obtain ⟨u, rfl, ru⟩ := vals1 r
  obtain rfl : u = Value.ref a := ru
  obtain ⟨o1, o2, o3⟩ := ordOk_alike ok
  have rd := rdvs_of hκ I o1 hd rv
  have hlen : its.length = xs.length := by rw [hd.length, rv.length]
  refine sorted_data (enc := pdD) (bs := xs) hl.isList (each_in hd rv) (each_reads o1 rd) o2 o3 (by rw [hd.length]; exact hz) (fun b hb => ?_) fun out ho eo => ?_
  · have := depth_of (okDs_mem o1 b hb)
    omega
  · obtain ⟨zs, z1, z2⟩ := each_out eo
    obtain ⟨n, hn⟩ := sortedAll_at s.heap its out.toArray
    refine ⟨.ref (s.heap.objs.size + 1), upd H (s.heap.objs.size + 1) (.lst zs), I.laid (t' := s.toks) (fun b o e => sortedAll_old e) (Nat.le_succ _) ⟨?_, out, n, z1, hn⟩, rfl, q _ zs (I.hok.fresh (Nat.le_succ _)) z2⟩
    rw [z1.length, ho, hd.length]
    exact hz
/-- sorted(d) of a dict -/
def rSortK (κ : Kx) : List V → Hp → VK → Prop := fun vs H Q => ∃ as a kvs kws, vs = [.ref a] ∧ Rd H a (.dK kws) ∧ IsKs κ as H kvs kws ∧ ordOk (kvs.map fun p => kyD p.1) = true ∧ ∀ p zs, H p = none → IsDs κ as H (sortD (kvs.map fun p => kyD p.1)) zs → Q (.ref p) (upd H p (.lst zs))
theorem keys_is : ∀ {kvs : List (Ky × D)} {kws : List (L2.Key × V)}, IsKs κ as H kvs kws → kws.map (·.1) = kvs.map (fun p => kx p.1) ∧ IsDs κ as H (kvs.map fun p => kyD p.1) (kvs.map fun p => kV (kx p.1))
  | [], [], _ => ⟨rfl, True.intro⟩
  | (k, d) :: r, (q, v) :: s, h => by
    obtain ⟨h1, h2⟩ := keys_is h.2.2
    refine ⟨by rw [List.map_cons, List.map_cons, h1, h.1.1], ?_, h2⟩
    cases k with
    | inl i => exact rfl
    | inr z => exact ⟨rfl, h.1.2⟩
  | [], _ :: _, h => h.elim
  | (_, _) :: _, [], h => h.elim
theorem cr_sortK (hκ : κ.K = X.K) (hc : X.calm = true) (hu : X.A.units + 64 < cLine) : CallR X (.builtin "sorted") (rSortK κ) := by
  intro pins s σ H xs us Q I r h
  obtain ⟨as, a, kvs, kws, rfl, hd, hk, ok, q⟩ := h
  obtain ⟨u, rfl, rx⟩ := vals1 r
  cases rx
  obtain ⟨z, lo, vs, rel, dd⟩ := dk_rd I.hok hd
  obtain ⟨ep, hat⟩ := dd.dictAt
  obtain ⟨k1, k2⟩ := keys_is hk
  have hkeys : vs.map (·.1) = kvs.map fun p => kx p.1 := rel.keys.symm.trans k1
  have hl : vs.length = kvs.length := by
    have e := congrArg List.length hkeys
    rw [List.length_map, List.length_map] at e
    exact e
  have hz : kvs.length ≤ sizeLine := by rw [hk.length]; exact z
  have h16 : vs.length ≤ sizeLine := by rw [hl]; exact hz
  refine Calls.call_function_entry PyProof.Rows.kind_sorted PyProof.Rows.plain_sorted PyProof.Rows.entry_sorted (PyProof.Rows.args_sorted1 _) ?_
  unfold Builtin.«sorted»
  refine wpAny_bind (m := checkCount "sorted" 1 1 _) (wpAny_pure ?_)
  refine wpAny_bind (PySem.W.kdu_collect (A := X.A.in1) (PySem.W.kdl_dict (knd := mixKind X.prog X.w) (kvs := vs) (ep := ep) lo) (I.ok.hd hc) hat h16 fun h' tk acc hk' hacc => ?_)
  have hal : acc.toList.length = kvs.length := by rw [Array.length_toList, hacc.1, hl]
  have hV : Vals (kvs.map fun p => kV (kx p.1)) acc.toList := by
    have := keys_at (us := acc.toList) (vs := vs) (by rw [hal, hl]) fun j v e => by
      obtain ⟨k, x, e1, e2⟩ := hacc.2 j v (by rw [← Array.getElem?_toList]; exact e)
      exact ⟨k, x, e1, e2⟩
    rw [show (vs.map fun p => kV p.1) = (vs.map (·.1)).map kV by rw [List.map_map]; rfl, hkeys, List.map_map] at this
    exact this
  have I1 : Inv X pins σ H { s with heap := h', toks := tk } := I.kept hk'
  refine wpAny_bind (wpAny_newList ?_ (by rw [hal]; exact hz))
  have hoL : (h'.push (seqObj "list" acc.toList.toArray 0)).get? h'.objs.size = some (seqObj "list" acc.toList.toArray 0) := Heap.get?_push_size _ rfl
  show wpAny _ _ _ _ _ { s with heap := h'.push (seqObj "list" acc.toList.toArray 0), toks := tk }
  obtain ⟨o1, o2, o3⟩ := ordOk_alike ok
  have rd := rdvs_of hκ I1 o1 k2 hV
  have old : ∀ b o, h'.get? b = some o → (sortingHeap (h'.push (seqObj "list" acc.toList.toArray 0)) h'.objs.size acc.toList).get? b = some o := fun b o e =>
    sortingHeap_old (Nat.ne_of_lt (Heap.lt_size e)) (Heap.get?_push_of_some _ e)
  have er := (each_reads o1 rd).mono (R' := fun u d => ∃ as, Reads (sortingHeap (h'.push (seqObj "list" acc.toList.toArray 0)) h'.objs.size acc.toList) u (pdD d) as) fun _ _ ⟨as, r⟩ => ⟨as, PyProof.Rows.Reads.keeps old r⟩
  refine wpAny_bind (wpAny_holding (wpAny_call_entry PyProof.Rows.slot_list_sort ⟨_, hoL, rfl⟩ PyProof.Rows.entry_list_sort
    (list_sort_vals (s := { s with heap := h'.push (seqObj "list" acc.toList.toArray 0), toks := tk }) (A := X.A.in1.in1) hoL (SortsAt.data (s := { s with heap := sortingHeap (h'.push (seqObj "list" acc.toList.toArray 0)) h'.objs.size acc.toList, toks := tk }) (each_map (R := fun v d => ∃ as, Reads (sortingHeap (h'.push (seqObj "list" acc.toList.toArray 0)) h'.objs.size acc.toList) v d as) pdD er) o2 o3 fun d hd' => ?_) (by rw [hal]; exact hz) ⟨_, rfl, ?_⟩)
    (PyProof.Rows.args_list_sort _)))
  · obtain ⟨x, hx, rfl⟩ := List.mem_map.mp hd'
    have := depth_of (okDs_mem o1 x hx)
    show X.A.units + 1 + 1 + _ < cLine
    omega
  · have eo := sortVals_data (R := fun u d => ∃ x, RelV x u ∧ IsD κ as H d x) (enc := pdD) false (each_in k2 hV) er o2
    obtain ⟨zs, z1, z2⟩ := each_out eo
    obtain ⟨e', he'⟩ := PyProof.Rows.sortedHeap_at (vs := acc.toList) (out := (sortVals (dataKind (sortingHeap (h'.push (seqObj "list" acc.toList.toArray 0)) h'.objs.size acc.toList) ((kvs.map fun p => kyD p.1).map pdD)) false acc.toList acc.toList).toArray) hoL
    refine wpAny_pure ⟨_, rfl, .ref h'.objs.size, upd H h'.objs.size (.lst zs), I1.laid (t' := tk) (fun b u e => ?_) (Nat.le_refl _)
      ⟨?_, _, e', z1, he'⟩, rfl, q _ zs (I1.hok.fresh (Nat.le_refl _)) z2⟩
    · have hb : b < h'.objs.size := Heap.lt_size e
      rw [PyProof.Rows.sortedHeap_old (Nat.ne_of_lt hb) (by rw [size_push']; exact Nat.lt_succ_of_lt hb)]
      exact Heap.get?_push_of_some _ e
    · rw [z1.length, sortVals_length false rfl, hal]
      exact hz
end
theorem CallR.or {X : Cx} {f : Value} {r1 r2 : List V → Hp → VK → Prop} (h1 : CallR X f r1) (h2 : CallR X f r2) : CallR X f fun vs H Q => r1 vs H Q ∨ r2 vs H Q := by
  intro pins s σ H vs us Q I r h
  rcases h with h | h
  · exact h1 pins s σ H vs us Q I r h
  · exact h2 pins s σ H vs us Q I r h
section
variable {X : Cx} {sc : SC} {κ : Kx} {Φ : Fn} {Wx : L2.WX} {a : Expr} {ma : MW} {pos : Pos}
theorem pn_sorted (ok : CxOk X sc κ Φ) {p : Pos} (hg : glB sc "sorted" = true) (hs : nostar a = true) (ha : PE X a (rdW κ Wx ma)) :
    PE X (.Call (.Name "sorted" p) [a] [] pos) (rdN κ Wx fun ρ S => (ma ρ S).bind fun x S1 => (R.of S1 (itemsS (x.vw S1))).bind fun xs S1 => R.chk (ordOk xs) (.ok (.lst (sortD xs)) S1)) := by
  refine PE.imp (pe_callB (id := "sorted") (CallR.or (cr_sortL ok.hκ ok.un) (cr_sortK ok.hκ ok.calm ok.un)) (ok.gl hg) (ok.blt "sorted" (by decide)) (by decide +kernel) (pa_cons ha pa_nil (star_cons hs)) (by decide +kernel) (by decide +kernel) (star_cons hs) rfl) fun σ H Q ⟨as, H0, ρ, S, rs, hS, w⟩ => ?_
  refine rdW.mk rs hS w.of_bind fun x S1 as1 H1 v w1 st1 r1 hS1 => ?_
  obtain ⟨xs, e, k⟩ := Out.of_of w1.of_bind
  obtain ⟨o, k⟩ := Out.of_chk k
  have rv := r1.vw hS1
  cases q : x.vw S1 with
  | lst ys =>
    rw [q] at rv e
    cases e
    obtain ⟨p, vs, rfl, hq, hd⟩ := rv
    exact .inl ⟨as1, p, _, vs, rfl, .inl hq, hd, o, fun p' zs hp z => kN.lst (kN.on st1 k) hS1 z p' hp⟩
  | scr ns =>
    rw [q] at rv e
    cases e
    obtain ⟨p, rfl, hq⟩ := rv
    exact .inl ⟨as1, p, _, _, rfl, hq, IsDs.of_ints, o, fun p' zs hp z => kN.lst (kN.on st1 k) hS1 z p' hp⟩
  | dic kvs =>
    rw [q] at rv e
    cases e
    obtain ⟨p, kws, rfl, hq, hd⟩ := rv
    exact .inr ⟨as1, p, kvs, kws, rfl, hq, hd, o, fun p' zs hp z => kN.lst (kN.on st1 k) hS1 z p' hp⟩
  | _ => rw [q] at e; cases e
end
end Ev
set_option maxHeartbeats 4000000
/-! Ev, part 15d: dict of a list of pairs, of a dict. -/
namespace Ev
open PySem PySem.Spec PyProof.Rows L2 PySem.W
section
variable {κ : Kx} {as : List Addr} {H : Hp}
theorem prs_of : ∀ {xs : List D} {ts : List V} {kvs : List (Ky × D)}, pairsOf xs = some kvs → IsDs κ as H xs ts → ∃ (ps : List Addr) (kws : List (L2.Key × V)), ts = ps.map V.ref ∧ Paired (fun p kv => SqT κ.K H p [kV kv.1, kv.2]) ps kws ∧ IsKs κ as H kvs kws
  | [], [], kvs, e, _ => by cases e; exact ⟨[], [], rfl, .nil, True.intro⟩
  | [], _ :: _, _, _, h => h.elim
  | _ :: _, [], _, _, h => h.elim
  | x :: xs, t :: ts, kvs, e, h => by
    match x, e with
    | .tup [k, d], e =>
      have e : ((dKy k).bind fun k => (pairsOf xs).map ((k, d) :: ·)) = some kvs := e
      obtain ⟨q, e1, e2⟩ := Option.bind_eq_some_iff.mp e
      obtain ⟨l, e3, e4⟩ := Option.map_eq_some_iff.mp e2
      subst e4
      obtain ⟨ps, kws, rfl, h1, h2⟩ := prs_of e3 h.2
      have w : IsV κ as H (.tup [k, d]) t := h.1.v
      obtain ⟨a, vs, rfl, hH, hd⟩ := w
      have hq := hH.sq
      match vs, hd, hq with
      | [v1, v2], hd, hq =>
        have hk : v1 = kV (kx q) ∧ kyOk q = true := by
          cases k with
          | int i => cases e1; exact ⟨hd.1, rfl⟩
          | str i => cases e1; exact ⟨hd.1.1, hd.1.2⟩
          | _ => cases e1
        obtain ⟨rfl, ok⟩ := hk
        exact ⟨a :: ps, (kx q, v2) :: kws, rfl, .cons hq h1, ⟨rfl, ok⟩, hd.2.1, h2⟩
end
section
variable {X : Cx} {sc : SC} {κ : Kx} {Φ : Fn} {Wx : L2.WX} {a : Expr} {ma : MW} {pos : Pos}
theorem pn_dict (ok : CxOk X sc κ Φ) {p : Pos} (hg : glB sc "dict" = true) (hb : "dict" ∈ bltNames) (hs : nostar a = true) (ha : PE X a (rdW κ Wx ma)) :
    PE X (.Call (.Name "dict" p) [a] [] pos) (rdN κ Wx fun ρ S => (ma ρ S).bind fun x S1 => match x.vw S1 with
      | .dic kvs => .ok (.dct kvs) S1
      | .lst xs => (R.of S1 (pairsOf xs)).bind fun ps S1 => .ok (.dct (mergeK [] ps)) S1
      | _ => .bad) := by
  refine PE.imp (pe_callTy (T := "dict") (CallR.or (call_dictP ok.calm) call_dictD) (ok.gl hg) (ok.blt "dict" hb) (by decide +kernel) (pa_cons ha pa_nil (star_cons hs)) (by decide +kernel) (by decide +kernel) (star_cons hs) rfl) fun σ H Q ⟨as, H0, ρ, S, rs, hS, w⟩ => ?_
  refine rdW.mk rs hS w.of_bind fun x S1 as1 H1 v w1 st1 r1 hS1 => ?_
  have rv := r1.vw hS1
  cases q : x.vw S1 with
  | lst ys =>
    rw [q] at rv w1
    obtain ⟨ps, e, k⟩ := Out.of_of w1.of_bind
    obtain ⟨p, vs, rfl, hq, hd⟩ := rv
    obtain ⟨ads, kws, rfl, h1, h2⟩ := prs_of e hd
    rw [ok.hκ] at h1
    exact .inl ⟨p, ads, kws, rfl, .inl hq, h1, fun p' hp => kN.dct (kN.on st1 k) hS1 (ks_merge (kvs := []) (kws := []) h2 True.intro) p' hp⟩
  | dic kvs =>
    rw [q] at rv w1
    obtain ⟨p, kws, rfl, hq, hd⟩ := rv
    exact .inr ⟨p, kws, rfl, hq, fun p' hp => kN.dct (kN.on st1 w1) hS1 hd p' hp⟩
  | _ => rw [q] at w1; exact w1.elim
end
end Ev
set_option maxHeartbeats 4000000
/-! Ev, part 15c2: min of what may be put in order. -/
namespace Ev
open PySem PySem.Spec PyProof.Rows L2 PySem.W
section
variable {X : Cx} {κ : Kx}
theorem getD_pd : ∀ (xs : List D) (i : Nat), (xs.map pdD).getD i .none = pdD (xs.getD i .non)
  | [], i => rfl
  | x :: xs, 0 => rfl
  | x :: xs, i + 1 => getD_pd xs i
/-- min(xs) of a list -/
def rMinD (κ : Kx) : List V → Hp → VK → Prop := fun vs H Q => ∃ as a xs ws d, vs = [.ref a] ∧ SqL κ.K H a ws ∧ IsDs κ as H xs ws ∧ ordOk xs = true ∧ minD xs = some d ∧ ∀ v, IsD κ as H d v → Q v H
theorem cr_minD (hκ : κ.K = X.K) (hc : X.calm = true) (hu : X.A.units + 64 < cLine) : CallR X (.builtin "min") (rMinD κ) := by
  intro pins s σ H vs us Q I r h
  obtain ⟨as, a, ys, ws, d, rfl, hs, hd, ok, hm, q⟩ := h
  rw [hκ] at hs
  obtain ⟨its, rv, hl, hz⟩ := I.list hs
  obtain ⟨u, rfl, ru⟩ := vals1 r
  obtain rfl : u = Value.ref a := ru
  cases ys with
  | nil => cases hm
  | cons x xs =>
    have hm : xs.foldl (fun m y => if ltB y m then y else m) x = d := by injection hm
    obtain ⟨o1, o2, o3⟩ := ordOk_alike ok
    have rd := rdvs_of hκ I o1 hd rv
    have hlen : its.length = xs.length + 1 := by rw [← rv.length, ← hd.length]; rfl
    obtain ⟨bs, rr⟩ := readsAll_of o1 rd
    rw [pdDs_map] at rr
    have ha : AlikeAll ((x :: xs).map pdD) := by
      refine ⟨fun y hy z hz => o2 y hy z hz, fun y hy => ?_⟩
      rcases o3 with o3 | o3
      · obtain ⟨_, _, e⟩ := o3 y hy; rw [e]; simp
      · exact (o3 y hy).1
    have hdep : PyData.depthAll ((x :: xs).map pdD) ≤ 60 := by
      have := depthAll_of o1
      rwa [pdDs_map] at this
    refine call_min_walkH (iter_listW (A := X.A.in1) (I.ok.hd hc) hl.isList fun s₂ e W st hfp hw hk => ?_)
    refine ⟨_, _, _, _, _, _, _, s.heap, _, rfl, W, st, hfp, by rw [List.size_toArray]; omega, hw, hk, cmpIn_lt (A := X.A.in1) (by simpa using rr) ha (by show X.A.units + 1 + _ < cLine; omega), fun v s' hP m => ?_⟩
    obtain ⟨h', tk, rfl, hk'⟩ := moved_old e rfl m
    have es : its.toArray.size - 1 = xs.length := by rw [List.size_toArray]; omega
    rw [es] at hP
    have ef : (fun i j => dataLt (((x :: xs).map pdD).getD i .none) (((x :: xs).map pdD).getD j .none)) = fun i j => ltB ((x :: xs).getD i .non) ((x :: xs).getD j .non) := by
      funext i j
      rw [getD_pd, getD_pd]
      rfl
    rw [ef] at hP
    obtain ⟨b1, b2⟩ := argBest_fold ltB D.non x xs xs.length (Nat.le_refl _)
    rw [List.take_length] at b2
    have b2 := b2.trans hm
    have hP : its[argBest (fun i j => ltB ((x :: xs).getD i .non) ((x :: xs).getD j .non)) xs.length]? = some v := by simpa using hP
    have hi : (x :: xs)[argBest (fun i j => ltB ((x :: xs).getD i .non) ((x :: xs).getD j .non)) xs.length]? = some d := by
      have lt : argBest (fun i j => ltB ((x :: xs).getD i .non) ((x :: xs).getD j .non)) xs.length < (x :: xs).length := by rw [List.length_cons]; omega
      rw [List.getD_eq_getElem?_getD, List.getElem?_eq_getElem lt] at b2
      rw [List.getElem?_eq_getElem lt]
      exact congrArg some b2
    obtain ⟨w, e1, e2⟩ := hd.get hi
    obtain ⟨u2, e3, e4⟩ := rv.get e1
    rw [hP] at e3
    cases e3
    exact ⟨w, H, I.kept (t' := tk) hk', e4, q w e2⟩
end
section
variable {X : Cx} {sc : SC} {κ : Kx} {Φ : Fn} {Wx : L2.WX} {a : Expr} {ma : MW} {pos : Pos}
theorem pd_min (ok : CxOk X sc κ Φ) {p : Pos} (hg : glB sc "min" = true) (hs : nostar a = true) (ha : PE X a (rdW κ Wx ma)) :
    PE X (.Call (.Name "min" p) [a] [] pos) (rdW κ Wx fun ρ S => ((ma ρ S).bind fun d S1 => (R.ok (α := List W) [] S1).bind fun ds S2 => .ok (d :: ds) S2).bind fun ws S1 => (bltD .minO (ws.map (W.vw S1)) S1).w) := by
  refine PE.imp (pe_callB (id := "min") (cr_minD ok.hκ ok.calm ok.un) (ok.gl hg) (ok.blt "min" (by decide)) (by decide +kernel) (pa_cons ha pa_nil (star_cons hs)) (by decide +kernel) (by decide +kernel) (star_cons hs) rfl) fun σ H Q ⟨as, H0, ρ, S, rs, hS, w⟩ => ?_
  refine rdW.mk rs hS w.of_bind.of_bind fun x S1 as1 H1 v w1 st1 r1 hS1 => ?_
  have w2 : Out (blt1 .minO (x.vw S1) S1) (fun d S => kW κ as H Q (.d d) S) (kX κ as H σ Wx) := Out.of_w w1
  have rv := r1.vw hS1
  obtain ⟨d, e, k⟩ := Out.of_of w2
  obtain ⟨xs, e1, e2⟩ := Option.bind_eq_some_iff.mp e
  split at e2
  · rename_i o
    obtain ⟨p, vs, rfl, hq, hd⟩ := list_of ok.hκ rv e1
    rw [← ok.hκ] at hq
    exact ⟨as1, p, xs, vs, d, rfl, hq, hd, o, e2, fun v hv => kW.here (w := .d d) (kW.on st1 k) hv hS1⟩
  · cases e2
end
end Ev
set_option maxHeartbeats 4000000
/-! Ev, part 68: a list of a range. -/
namespace Ev
open PySem PySem.Spec PyProof.Rows L2
section
variable {X : Cx} {sc : SC} {κ : Kx} {Φ : Fn} {Wx : L2.WX} {a : Expr} {ma : MW} {pos : Pos}
theorem evN_range1 {ρ : Env} {S : Sto} {e : Ex} : evN Φ ρ (.range [e]) S = (evW Φ ρ e S).d.bind fun d S1 => (R.of S1 (srcD .range [.d d] S1)).bind fun xs S1 => .ok (.lst xs) S1 := by
  rw [evN, evEs]
  cases (evW Φ ρ e S).d with
  | ok d S1 =>
    show ((evEs Φ ρ [] S1).bind fun ds S2 => R.ok (d :: ds) S2).bind _ = _
    rw [evEs]
    rfl
  | exc e S1 => rfl
  | bad => rfl
theorem isDs_rg {as : List Addr} {H : Hp} : ∀ (k : Nat) (f : Nat → Int), IsDs κ as H ((List.range k).map fun i => D.int (f i)) ((List.range k).map fun i => V.int (f i))
  | 0, _ => True.intro
  | k + 1, f => by
    rw [List.range_succ_eq_map, List.map_cons, List.map_cons, List.map_map, List.map_map]
    exact ⟨rfl, isDs_rg k fun i => f (i + 1)⟩
theorem pn_range (ok : CxOk X sc κ Φ) {p p2 pos2 : Pos} (hg : glB sc "list" = true) (hg2 : glB sc "range" = true) (hs : nostar a = true) (ha : PE X a (rdW κ Wx ma)) :
    PE X (.Call (.Name "list" p) [.Call (.Name "range" p2) [a] [] pos2] [] pos) (rdN κ Wx fun ρ S => (ma ρ S).d.bind fun d S1 => (R.of S1 (srcD .range [.d d] S1)).bind fun xs S1 => .ok (.lst xs) S1) := by
  refine PE.imp (pe_listRg ok.calm (ok.gl hg) (ok.blt "list" (by decide)) (prg_1 (ok.gl hg2) (ok.blt "range" (by decide)) ha (star_cons hs)) (star_cons rfl)) fun σ H Q ⟨as, H0, ρ, S, rs, hS, w⟩ => ?_
  refine rdW.mk rs hS w.of_bind.of_d fun x S1 as1 H1 v ⟨d, ed, w1⟩ st1 r1 hS1 => ?_
  subst ed
  obtain ⟨xs, e, k⟩ := Out.of_of w1.of_bind
  cases d with
  | int n =>
    obtain rfl : v = .int n := r1
    have e : (if rngOk 0 n = true then some (rngD 0 n) else none) = some xs := e
    split at e
    · rename_i c
      injection e with e
      subst e
      unfold rngOk at c
      simp only [Bool.and_eq_true, decide_eq_true_eq] at c
      refine ⟨n, rfl, ⟨by decide, by decide, by omega, by omega, by omega⟩, ?_⟩
      have hd : IsDs κ as1 H1 (rngD 0 n) (rgV 0 n) := isDs_rg (n - 0).toNat fun i => 0 + (i : Int)
      exact kN.lst (kN.on st1 k) hS1 hd
    · cases e
  | _ => cases e
end
end Ev
set_option maxHeartbeats 4000000
/-! Ev, part 15d: sorted by a function of the program's own; its calls may make new things. -/
namespace Ev
open PySem PySem.Spec PyProof.Rows L2 PySem.W PySem.Calls
def nilH : Hp := fun _ => none
/-- all stays but ex (of frames: all but the slots) -/
def Keep (fs ex : List Addr) (s t : Shared) : Prop := t.os = s.os ∧ AllBare t.gens ∧ Un fs ex nilH nilH s.heap t.heap
def KeyEnd (fs : List Addr) (k : Int) (s : Shared) (v : Value) (t : Shared) : Prop := Keep fs [] s t ∧ ∃ tk, v = .int k tk
def cutH (h : Heap) (n : Nat) : Heap := { h with objs := h.objs.extract 0 n }
theorem cut_lt {h : Heap} {n b : Nat} (hb : b < n) : (cutH h n).get? b = h.get? b := by
  unfold cutH Heap.get?
  have e : (h.objs.extract 0 n)[b]? = h.objs[b]? := by
    rw [Array.getElem?_extract]
    simp only [Nat.zero_add, Nat.sub_zero]
    by_cases q : b < min n h.objs.size
    · rw [if_pos q]
    · rw [if_neg q, Array.getElem?_eq_none (by omega)]
  simp only [e]
theorem cut_ge {h : Heap} {n b : Nat} (hb : n ≤ b) : (cutH h n).get? b = none := by
  unfold cutH Heap.get?
  have e : (h.objs.extract 0 n)[b]? = none := by
    rw [Array.getElem?_extract]
    simp only [Nat.zero_add, Nat.sub_zero]
    rw [if_neg (by omega)]
  simp only [e]
section
variable {prog : Program} {w : World} {A : Around} {E : Value → Shared → Prop} {s : Shared} {a kS : Addr} {vs : List Value} {ks : List Int} {e1 : Nat} {P : PySem.Fin → Shared → Prop} {f : Value} {fs : List Addr}
theorem Keep.one {ex : List Addr} {s t : Shared} (k : Keep fs ex s t) {b : Addr} {o : Obj} (e : s.heap.get? b = some o) (h1 : b ∉ fs) (h2 : b ∉ ex) : t.heap.get? b = some o := k.2.2.keep b o e rfl h1 h2
theorem Keep.app {ex : List Addr} {s t u : Shared} (k1 : Keep fs ex s t) (k2 : Keep fs [] t u) : Keep fs ex s u :=
  ⟨k2.1.trans k1.1, k2.2.1, k1.2.2.trans (k2.2.2.mono (fun _ h => h) fun _ h => nomatch h)⟩
theorem alike_is (l : List Int) : AllAlike (l.map PyData.int) := AllAlike.of fun _ _ => by simp [alike]
theorem sortb_is (l : List Int) : Sortable (l.map PyData.int) := Sortable.others fun _ => ⟨by simp, by simp⟩
theorem keyed_rest (hk : kS ∉ fs) (ha : a ∉ fs) (nk : s.heap.get? kS = some (seqObj "list" #[] 0)) (na : s.heap.get? a = some (seqObj "list" #[] e1)) (hak : a < kS) (hl : ks.length = vs.length) (hZ : vs.length ≤ sizeLine) (hb : AllBare s.gens) (hu : A.units < cLine)
    (turn : ∀ (i : Nat) (v : Value) (k : Int), vs[i]? = some v → ks[i]? = some k → ∀ t, Keep fs [kS] s t → wpAny (model prog w) A (PySem.call f [v]) (KeyEnd fs k t) (fun _ _ => False) t)
    (fin : ∀ t out c, t.os = s.os → AllBare t.gens → (∀ b o, b < kS → b ≠ a → s.heap.get? b = some o → ∃ sl, t.heap.get? b = some { o with slots := sl }) → (∀ b o, b < kS → b ≠ a → b ∉ fs → s.heap.get? b = some o → t.heap.get? b = some o) →
      t.heap.get? a = some (seqObj "list" (List.toArray out) c) → KeyedOut false (ks.map PyData.int) vs out → P (.done (.ret .none)) t) :
    wpAny (model prog w) A (ksk_rest a f false vs.toArray e1 (.ref kS)) P E s := by
  unfold ksk_rest
  refine wpAny_bind (wpAny_rule ?_)
  first
    | rw [List.forIn_toArray]
    | (rw [← Array.forIn_toList]; simp only [List.toList_toArray])
    | rw [← Array.forIn_toList]
  have ne : kS ≠ a := Nat.ne_of_gt hak
  refine wpAny_bind (ksk_fold (fun i t => ∃ (kA : Array Value) (n : Nat), Keep fs [kS] s t ∧ t.heap.get? kS = some (seqObj "list" kA n) ∧ t.heap.get? a = some (seqObj "list" #[] e1) ∧ EachIs (fun v k => ∃ tk, v = Value.int k tk) kA.toList (ks.take i)) vs 0 s
    ⟨#[], 0, ⟨rfl, hb, Un.refl⟩, nk, na, by rw [List.take_zero]; exact .nil⟩ ?one ?all)
  case one =>
    rintro j x t hx ⟨kA, n, kp, nk', na', each⟩
    simp only [Nat.zero_add] at each ⊢
    have hj : j < vs.length := (List.getElem?_eq_some_iff.mp hx).1
    obtain ⟨k, hkj⟩ : ∃ k, ks[j]? = some k := ⟨_, List.getElem?_eq_getElem (by omega)⟩
    have z : kA.size ≤ vs.length := by
      have := each.length
      rw [Array.length_toList, List.length_take] at this
      omega
    refine wpAny_bind (wpAny_attempt (wpAny_mono (turn j x k hx hkj t kp) (fun v t2 he => ?_) fun _ _ no => False.elim no))
    obtain ⟨kp2, tk, rfl⟩ := he
    try dsimp only
    have nk2 := kp2.one nk' hk (List.not_mem_nil)
    have na2 := kp2.one na' ha (List.not_mem_nil)
    have up := Heap.SameBut.update t2.heap kS (Obj.mapSeq (·.push (Value.int k tk)))
    obtain ⟨c, hc⟩ : ∃ c, (t2.heap.update kS (Obj.mapSeq (·.push (Value.int k tk)))).get? kS = some (seqObj "list" (kA.push (Value.int k tk)) c) := ⟨_, get?_update_seq nk2 (·.push (Value.int k tk))⟩
    refine wpAny_bind (listUpdate_at nk2 rfl ?_ (Nat.le_trans z hZ) (by rw [Array.size_push]; exact Nat.succ_le_succ (Nat.le_trans z hZ)))
    have kp3 := kp.app kp2
    refine wpAny_pure ⟨rfl, kA.push (.int k tk), c, ⟨kp3.1, kp3.2.1, kp3.2.2.trans ?_⟩, hc, (up.2 a ne.symm).trans na2, ?_⟩
    · refine ⟨fun b o e _ _ h => ?_, fun b o e _ _ h => ?_, fun b o e n _ => n, fun b o e h => ?_, fun b xs e => (nomatch e), fun b o u e => (nomatch e), fun b ps e => (nomatch e)⟩
      · exact (up.2 b fun z => h (by rw [z]; exact List.mem_cons_self)).trans e
      · exact ⟨o.slots, (up.2 b fun z => h (by rw [z]; exact List.mem_cons_self)).trans e⟩
      · exact ⟨o, (up.2 b fun z => h (by rw [z]; exact List.mem_cons_self)).trans e⟩
    · rw [show (kA.push (Value.int k tk)).toList = kA.toList ++ [Value.int k tk] by simp, show ks.take (j + 1) = ks.take j ++ [k] by rw [List.take_add_one, hkj]; simp]
      exact each_snoc (R := fun (v : Value) (k : Int) => ∃ tk, v = Value.int k tk) ⟨tk, rfl⟩ each
  case all =>
    rintro t ⟨kA, n, kp, nk', na', each⟩
    rw [List.take_of_length_le (show ks.length ≤ 0 + vs.length by omega)] at each
    have er : EachIs (fun v d => ∃ as, Reads t.heap v d as) kA.toList (ks.map PyData.int) := each_map (R := fun v d => ∃ as, Reads t.heap v d as) PyData.int (each.mono fun v k ⟨tk, e⟩ => by rw [e]; exact ⟨[], .int k tk⟩)
    have sz : kA.size = vs.length := by
      have := each.length
      rw [Array.length_toList] at this
      omega
    try dsimp only
    refine wpAny_bind (listItems_at nk' rfl ?_)
    refine keyH_end (κ := dataKind t.heap (ks.map PyData.int)) (h₁ := cutH t.heap kS) (fun b o hb e => ?_) (cut_ge (Nat.le_refl _)) nk' na' ne (SortsAt.data (s := t) er (alike_is ks) (sortb_is ks) fun d hd => ?_) sz hZ fun h3 tk3 c k3 n3 =>
      fin _ _ c kp.1 kp.2.1 (fun b o hb hne e => ?_) (fun b o hb hne hf e => ?_) n3 ⟨t.heap, kA.toList, alike_is ks, rfl, er⟩
    · by_cases q : b < kS
      · rwa [cut_lt q] at e
      · rw [cut_ge (Nat.le_of_not_lt q)] at e
        cases e
    · obtain ⟨i, _, rfl⟩ := List.mem_map.mp hd
      exact hu
    · obtain ⟨sl, q⟩ := kp.2.2.any e rfl fun z => by rw [List.mem_singleton.mp z] at hb; exact absurd hb (Nat.lt_irrefl _)
      exact ⟨sl, k3 b _ hne (by rw [cut_lt hb]; exact q)⟩
    · exact k3 b _ hne (by rw [cut_lt hb]; exact kp.one e hf fun z => by rw [List.mem_singleton.mp z] at hb; exact absurd hb (Nat.lt_irrefl _))
theorem keyed_tree {n : Nat} (ho : s.heap.get? a = some (seqObj "list" vs.toArray n)) (hf : ∀ b ∈ fs, b < a) (hl : ks.length = vs.length) (hZ : vs.length ≤ sizeLine) (hb : AllBare s.gens) (hu : A.units < cLine)
    (turn : ∀ (i : Nat) (v : Value) (k : Int), vs[i]? = some v → ks[i]? = some k → ∀ t, t.os = s.os → AllBare t.gens → (∀ b o, b < a → s.heap.get? b = some o → ∃ sl, t.heap.get? b = some { o with slots := sl }) → (∀ b o, b < a → b ∉ fs → s.heap.get? b = some o → t.heap.get? b = some o) →
      wpAny (model prog w) A (PySem.call f [v]) (KeyEnd fs k t) (fun _ _ => False) t)
    (fin : ∀ t out c, t.os = s.os → AllBare t.gens → (∀ b o, b < a → s.heap.get? b = some o → ∃ sl, t.heap.get? b = some { o with slots := sl }) → (∀ b o, b < a → b ∉ fs → s.heap.get? b = some o → t.heap.get? b = some o) →
      t.heap.get? a = some (seqObj "list" (List.toArray out) c) → KeyedOut false (ks.map PyData.int) vs out → P (.done (.ret .none)) t) :
    wpAny (model prog w) A (ksk_tree a f false) P E s := by
  have hlt : a < s.heap.objs.size := Heap.lt_size ho
  obtain ⟨e1, ho1⟩ : ∃ e1, (s.heap.update a (Obj.mapSeq fun _ => (#[] : Array Value))).get? a = some (seqObj "list" #[] e1) := ⟨_, get?_update_seq ho fun _ => #[]⟩
  have up := Heap.SameBut.update s.heap a (Obj.mapSeq fun _ => (#[] : Array Value))
  have hkS : ((s.heap.update a (Obj.mapSeq fun _ => (#[] : Array Value))).push (seqObj "tuple" vs.toArray 0)).objs.size = s.heap.objs.size + 1 := by rw [size_push', Heap.size_update]
  have old : ∀ b o, b < a → s.heap.get? b = some o → (((s.heap.update a (Obj.mapSeq fun _ => (#[] : Array Value))).push (seqObj "tuple" vs.toArray 0)).push (seqObj "list" #[] 0)).get? b = some o := fun b o hb e =>
    Heap.get?_push_of_some _ (Heap.get?_push_of_some _ ((up.2 b (Nat.ne_of_lt hb)).trans e))
  unfold ksk_tree
  refine wpAny_bind (listItems_at ho rfl ?_)
  refine wpAny_bind (listUpdate_at ho rfl ?_ (by rw [List.size_toArray]; exact hZ) (Nat.zero_le _))
  refine wpAny_bind (seqEpoch_at ho1 rfl ?_)
  refine wpAny_bind (wpAny_newTuple ?_ (by show vs.length ≤ _; exact hZ))
  refine wpAny_bind (wpAny_newList ?_ (Nat.zero_le _))
  refine wpAny_holding ?_
  refine keyed_rest (ks := ks) (fs := fs) (s := { s with heap := ((s.heap.update a (Obj.mapSeq fun _ => (#[] : Array Value))).push (seqObj "tuple" vs.toArray 0)).push (seqObj "list" #[] 0) }) (kS := ((s.heap.update a (Obj.mapSeq fun _ => (#[] : Array Value))).push (seqObj "tuple" vs.toArray 0)).objs.size)
    (fun z => ?_) (fun z => Nat.lt_irrefl _ (hf a z)) (Heap.get?_push_size _ rfl) (Heap.get?_push_of_some _ (Heap.get?_push_of_some _ ho1)) (by rw [hkS]; exact Nat.lt_succ_of_lt hlt) hl hZ hb hu (fun i v k h1 h2 t kp => ?_) fun t out c h1 h2 h3 h4 h5 h6 => ?_
  · have := hf _ z
    rw [hkS] at this
    exact Nat.lt_irrefl _ (Nat.lt_trans this (Nat.lt_succ_of_lt hlt))
  · have ni : ∀ b, b < a → b ∉ [((s.heap.update a (Obj.mapSeq fun _ => (#[] : Array Value))).push (seqObj "tuple" vs.toArray 0)).objs.size] := fun b hb z => by
      rw [List.mem_singleton.mp z, hkS] at hb
      exact Nat.lt_irrefl _ (Nat.lt_trans hb (Nat.lt_succ_of_lt hlt))
    exact turn i v k h1 h2 t kp.1 kp.2.1 (fun b o hb e => kp.2.2.any (old b o hb e) rfl (ni b hb)) fun b o hb hn e => kp.one (old b o hb e) hn (ni b hb)
  · exact fin t out c h1 h2 (fun b o hb e => h3 b o (by rw [hkS]; exact Nat.lt_trans hb (Nat.lt_succ_of_lt hlt)) (Nat.ne_of_lt hb) (old b o hb e)) (fun b o hb hn e => h4 b o (by rw [hkS]; exact Nat.lt_trans hb (Nat.lt_succ_of_lt hlt)) (Nat.ne_of_lt hb) hn (old b o hb e)) h5 h6
end
end Ev
set_option maxHeartbeats 4000000
/-! Ev, part 15e: sorted(xs, key=f) beside the text. -/
namespace Ev
open PySem PySem.Spec PyProof.Rows L2 PySem.W PySem.Calls
/-- the tuples and the frozen lists, each known to its object; nothing else -/
def frzH (h : Heap) (H : Hp) : Hp := fun a => match H a with
  | some (.tup xs) => (h.get? a).map fun o => .frz o (.tup xs)
  | some (.frz o (.lst xs)) => some (.frz o (.lst xs))
  | some (.frz o (.tup xs)) => some (.frz o (.tup xs))
  | _ => none
theorem frzH_none {h : Heap} {H : Hp} {a : Addr} (e : H a = none) : frzH h H a = none := by unfold frzH; rw [e]
theorem frzH_is {h : Heap} {H : Hp} {a : Addr} {u : HO} (e : frzH h H a = some u) : ∃ o v, u = .frz o v := by
  unfold frzH at e
  split at e
  · obtain ⟨o, _, rfl⟩ := Option.map_eq_some_iff.mp e
    exact ⟨o, _, rfl⟩
  · cases e; exact ⟨_, _, rfl⟩
  · cases e; exact ⟨_, _, rfl⟩
  · cases e
theorem frzH_ok {P : Program} {w : World} {h : Heap} {H : Hp} (ok : HOk P w H h) : HOk P w (frzH h H) h := fun a u e => by
  unfold frzH at e
  split at e
  · rename_i xs q
    obtain ⟨o, ho, rfl⟩ := Option.map_eq_some_iff.mp e
    exact ⟨ho, ok a _ q⟩
  · rename_i o xs q
    cases e
    obtain ⟨h1, h2⟩ := ok a _ q
    exact ⟨h1, h2⟩
  · rename_i o xs q
    cases e
    obtain ⟨h1, h2⟩ := ok a _ q
    exact ⟨h1, h2⟩
  · cases e
section
variable {P : Program} {w : World} {κ : Kx} {as : List Addr} {h : Heap} {H : Hp}
theorem frzH_t (ok : HOk P w H h) {a : Addr} {vs : List V} (r : SqT κ.K H a vs) : SqT κ.K (frzH h H) a vs := by
  rcases r with (r | ⟨o, r⟩) | r
  · obtain ⟨_, its, _, o, ho, _⟩ := ok a _ r
    refine .inl (.inr ⟨o, ?_⟩)
    unfold frzH
    rw [r]
    show Option.map _ (h.get? a) = _
    rw [ho]; rfl
  · refine .inl (.inr ⟨o, ?_⟩)
    unfold frzH
    rw [r]
  · exact .inr r
theorem frzH_p (ok : HOk P w H h) {a : Addr} {vs : List V} (r : SqP κ.K H a vs) : SqP κ.K (frzH h H) a vs := by
  refine ⟨frzH_t ok r.sq, ?_⟩
  rcases r.pl with ⟨o, u, e, d⟩ | z
  · exact .inl ⟨o, u, by unfold frzH; rw [e], d⟩
  · exact .inr z
mutual
theorem frzH_d (ok : HOk P w H h) : ∀ {d : D} {n : Nat} {v : V}, okD d n = true → IsD κ as H d v → IsD κ [] (frzH h H) d v
  | .non, _, _, _, r => r
  | .bl _, _, _, _, r => r
  | .int _, _, _, _, r => r
  | .str _, _, _, _, r => r
  | .tup ds, n, v, o, r => by
    have o' : (decide (0 < n) && okDs ds (n - 1)) = true := by rw [okD] at o; exact o
    obtain ⟨a, vs, rfl, hs, hd⟩ := r
    exact ⟨a, vs, rfl, frzH_p ok hs, frzH_ds ok (Bool.and_eq_true_iff.mp o').2 hd⟩
  | .lst ds, n, v, o, r => by
    have o' : (decide (0 < n) && okDs ds (n - 1)) = true := by rw [okD] at o; exact o
    obtain ⟨a, vs, rfl, ⟨ob, hs⟩, hd⟩ := r
    exact ⟨a, vs, rfl, ⟨ob, by unfold frzH; rw [hs]⟩, frzH_ds ok (Bool.and_eq_true_iff.mp o').2 hd⟩
  | .ref _, _, _, o, _ => by simp [okD] at o
  | .scr _, _, _, o, _ => by simp [okD] at o
  | .dic _, _, _, o, _ => by simp [okD] at o
  | .kdic _, _, _, o, _ => by simp [okD] at o
  | .exc _ _, _, _, o, _ => by simp [okD] at o
  | .obj _ _, _, _, o, _ => by simp [okD] at o
  | .fn _, _, _, o, _ => by simp [okD] at o
theorem frzH_ds (ok : HOk P w H h) : ∀ {ds : List D} {n : Nat} {vs : List V}, okDs ds n = true → IsDs κ as H ds vs → IsDs κ [] (frzH h H) ds vs
  | [], _, [], _, _ => True.intro
  | d :: ds, n, v :: vs, o, r => by
    have o' : (okD d n && okDs ds n) = true := by rw [okDs] at o; exact o
    obtain ⟨h1, h2⟩ := Bool.and_eq_true_iff.mp o'
    exact ⟨frzH_d ok h1 r.1, frzH_ds ok h2 r.2⟩
  | [], _, _ :: _, _, r => r.elim
  | _ :: _, _, [], _, r => r.elim
end
end
theorem keysP_at {f : D → R W} : ∀ {xs : List D} {ns : List Int}, keysP f xs = some ns → ns.length = xs.length ∧ ∀ (i : Nat) (d : D) (k : Int), xs[i]? = some d → ns[i]? = some k → ∃ S, f d = .ok (.d (.int k)) S
  | [], ns, h => by cases h; exact ⟨rfl, fun i d k e => by simp at e⟩
  | x :: xs, ns, h => by
    rw [keysP] at h
    split at h
    · rename_i i S q
      obtain ⟨l, hl, rfl⟩ := Option.map_eq_some_iff.mp h
      obtain ⟨h1, h2⟩ := keysP_at hl
      refine ⟨by simp [h1], fun j d k e1 e2 => ?_⟩
      cases j with
      | zero => cases e1; cases e2; exact ⟨S, q⟩
      | succ j => exact h2 j d k e1 e2
    · cases h
section
variable {X : Cx} {κ : Kx} {as : List Addr} {pins : List (Addr × Obj)} {σ : L2.St} {H : Hp} {s : Shared}
def rSortF (κ : Kx) (φ : D → R W) (f : Addr) : List V → List V → Hp → VK → Prop := fun vs zs H Q => ∃ as a xs ws ns, vs = [V.ref a] ∧ zs = [V.ref f] ∧ SqL κ.K H a ws ∧ IsDs κ as H xs ws ∧ okDs xs 60 = true ∧ keysP φ xs = some ns ∧
  ∀ p zs, H p = none → IsDs κ as H (sortK (ns.zip xs)) zs → Q (.ref p) (upd H p (.lst zs))
theorem each_snd {β : Type} {R : Value → D → Prop} : ∀ {vs : List Value} {bs : List (β × D)}, EachIs (fun v p => R v p.2) vs bs → EachIs R vs (bs.map (·.2))
  | _, _, .nil => .nil
  | _, _, .cons h1 t => .cons h1 (each_snd t)
theorem each_of_zip {β : Type} {R : Value → D → Prop} : ∀ {vs : List Value} {xs : List D} {ns : List β}, ns.length = xs.length → EachIs R vs xs → EachIs (fun v p => R v p.2) vs (ns.zip xs)
  | _, _, [], h, .nil => .nil
  | _, _, n :: ns, h, .cons h1 t => .cons h1 (each_of_zip (by simpa using h) t)
theorem Inv.st_lt (I : Inv X pins σ H s) : ∀ b ∈ frs X.stack, b < s.heap.objs.size := fun b hb => by
  rcases List.mem_cons.mp (I.stkSub b hb) with rfl | h
  · exact I.lt
  · exact Nat.lt_of_not_le fun z => I.nofs z h
theorem cr_sortF {φ : List D → Sto → R W} {f : Addr} {fd : FuncData} {ps : List Str} {k : Nat} (hκ : κ.K = X.K) (hu : X.A.units + 64 < cLine) (hb : Binds X.K fd ps []) (F : FnOk X.prog X.w X.K X.mg X.base (L2.CX X.prog X.w) k f fd ps (spOf κ φ)) (hr : Room (k + 2) X.A) :
    CallRK X (.builtin "sorted") [Str.ofString "key"] (rSortF κ (fun d => φ [d] []) f) := by
  intro pins s σ H vs zs us ws Q I r rz h
  obtain ⟨as, a, xs, wv, ns, rfl, rfl, hs, hd, ok, hks, q⟩ := h
  obtain rfl := Vals.ref1 r
  obtain ⟨w1, rfl, e1⟩ := vals1 rz
  obtain rfl : w1 = Value.ref f := e1
  rw [hκ] at hs
  obtain ⟨its, rv, hl, hz⟩ := I.list hs
  obtain ⟨nl, nk⟩ := keysP_at hks
  have hlen : its.length = xs.length := by rw [hd.length, rv.length]
  have hZ : its.length ≤ sizeLine := by rw [← rv.length]; exact hz
  have ein : EachIs (fun u d => ∃ x, RelV x u ∧ IsD κ as H d x) its xs := each_in hd rv
  /- all that was there ahead stands -/
  have stays : ∀ {t : Shared} {H' : Hp}, t.os = s.os → AllBare t.gens → (∀ b o, b < s.heap.objs.size + 1 → (copyHeap s.heap its).get? b = some o → ∃ sl, t.heap.get? b = some { o with slots := sl }) →
      (∀ b o, b < s.heap.objs.size + 1 → b ∉ frs X.stack → (copyHeap s.heap its).get? b = some o → t.heap.get? b = some o) → (∀ b, H b ≠ none → H' b = H b) → (∀ b, b < s.heap.objs.size → H b = none → H' b = none) → HOk X.prog X.w H' t.heap → Inv X pins σ H' t := fun {t H'} h1 h2 h3 h4 h5 h6 h7 => by
    refine I.call' (ch := []) h1 ⟨fun b o e n nf _ => h4 b o (Nat.lt_succ_of_lt (Heap.lt_size e)) nf (copyHeap_old e), fun b o e n hf _ => h3 b o (Nat.lt_succ_of_lt (Heap.lt_size e)) (copyHeap_old e), fun b o e n _ => h6 b (Heap.lt_size e) n, fun b o e _ => ?_, fun b xs e => (h5 b (by rw [e]; simp)).trans e, fun b o u e => (h5 b (by rw [e]; simp)).trans e, fun b ps e => ⟨#[], ?_⟩⟩ h7 h2 fun b z => (nomatch z)
    · obtain ⟨sl, e2⟩ := h3 b o (Nat.lt_succ_of_lt (Heap.lt_size e)) (copyHeap_old e)
      exact ⟨_, e2⟩
    · rw [Array.append_empty]; exact (h5 b (by rw [e]; simp)).trans e
  have sees : ∀ {t : Shared}, (∀ b o, b < s.heap.objs.size + 1 → b ∉ frs X.stack → (copyHeap s.heap its).get? b = some o → t.heap.get? b = some o) → ∀ b o, H b ≠ none → s.heap.get? b = some o → t.heap.get? b = some o := fun {t} h4 b o hn e =>
    h4 b o (Nat.lt_succ_of_lt (Heap.lt_size e)) (fun z => hn (I.stkFree b z)) (copyHeap_old e)
  refine sorted_of_sort hl.isList hZ (ksk_s1 _ _) (fun _ => ksk_l1 _ _) fun E' => ?_
  show wpAny _ _ (Builtin.«list.sort» ⟨[.ref (s.heap.objs.size + 1)], [(Str.ofString "key", .ref f)]⟩) _ _ _
  rw [ksk_t1]
  refine keyed_tree (ks := ns) (vs := its) (fs := frs X.stack) (s := { s with heap := copyHeap s.heap its }) (copyHeap_at s.heap its) (fun b hb => Nat.lt_succ_of_lt (Inv.st_lt I b hb)) (by omega) hZ I.bare (by show X.A.units + 1 + 1 < cLine; omega) (fun i v n hv hn t h1 h2 h3 h4 => ?_) fun t out c h1 h2 h3 h4 h5 h6 => ?_
  · have hokT : HOk X.prog X.w H t.heap := fun b o e => (I.hok b o e).stay (fun c u hc e2 => sees h4 c u (by
      rcases hc with rfl | hc
      · rw [e]; simp
      · rw [hc]; simp) e2) (fun _ z => z) fun _ _ z => z
    have It : Inv X pins σ H t := stays h1 h2 h3 h4 (fun _ _ => rfl) (fun _ _ z => z) hokT
    have hi : i < xs.length := by rw [← nl]; exact (List.getElem?_eq_some_iff.mp hn).1
    obtain ⟨S', hk⟩ := nk i xs[i] n (List.getElem?_eq_getElem hi) hn
    obtain ⟨xv, rx, dx⟩ := ein.zip (v, xs[i]) (List.mem_of_getElem? (i := i) (by rw [List.getElem?_zip_eq_some]; exact ⟨hv, List.getElem?_eq_getElem hi⟩))
    have dF : IsDs κ [] (frzH t.heap H) [xs[i]] [xv] := ⟨frzH_d hokT (okDs_mem ok _ (List.getElem_mem hi)) dx, True.intro⟩
    have e0 := It.env0.in1.in1
    have eF : Env0 X.prog X.w X.K X.mg X.base X.A.in1.in1 X.stack t (frzH t.heap H) := ⟨e0.frames, e0.mod, fun b o e => ⟨(e0.bs b o e).1, frzH_none (e0.bs b o e).2⟩, e0.bsz, e0.funs, fun b hb => frzH_none (e0.frf b hb), frzH_ok hokT, e0.bare⟩
    have sp : spOf κ φ [xv] (frzH t.heap H) (fun v _ => v = V.int n) (fun _ _ _ => False) := by
      refine ⟨[], [xs[i]], [], dF, ⟨rfl, List.nodup_nil, fun i a c e => by simp at e⟩, ?_⟩
      rw [hk]
      exact fun as' H' v st hv hS' => hv
    have hr1 : Room k X.A.in1.in1 := (Room.in1 (k := k) (Room.in1 (k := k + 1) hr))
    have hl1 : ([v] ++ ([] : List Value)).length = ps.length := by
      have := F.len _ _ _ _ sp
      simpa using this
    refine wpAny_call (codeAny_mono (F.run X.A.in1.in1 X.stack t (frzH t.heap H) ⟨[v], []⟩ ([v] ++ []) [xv] _ _ hr1 eF (hb t [v] It.kIn hl1) (.cons rx .nil) sp) fun r s' hq => ?_)
    cases r with
    | error e =>
      obtain ⟨_, _, _, _, _, _, _, _, _, _, _, _, z⟩ := hq
      exact z.elim
    | ok fl =>
      cases fl with
      | ret u =>
        obtain ⟨v', H', os, bare, un, hok', ru, rfl⟩ := hq
        obtain ⟨tk, rfl⟩ := ru
        refine ⟨⟨os, bare, ⟨fun b o e _ nf _ => ?_, fun b o e _ hf _ => un.slot b o e (frzH_none (It.stkFree b hf)) hf (List.not_mem_nil), fun b o e n _ => n, fun b o e _ => un.there b o e (List.not_mem_nil), fun b xs e => (nomatch e), fun b o u e => (nomatch e), fun b ps e => (nomatch e)⟩⟩, tk, rfl⟩
        cases qb : frzH t.heap H b with
        | none => exact un.keep b o e qb nf (List.not_mem_nil)
        | some u =>
          obtain ⟨ob, u', rfl⟩ := frzH_is qb
          have e1 : t.heap.get? b = some ob := (frzH_ok hokT b _ qb).1
          have e2 : s'.heap.get? b = some ob := (hok' b _ (un.frzs b ob u' qb)).1
          rw [e] at e1
          rw [e2, e1]
      | next => exact False.elim hq
      | brk => exact False.elim hq
      | cont => exact False.elim hq
  · have hmap : ns.map PyData.int = (ns.zip xs).map fun p => PyData.int p.1 := by
      rw [show (fun p : Int × D => PyData.int p.1) = PyData.int ∘ Prod.fst from rfl, ← List.map_map, List.map_fst_zip (by omega)]
    rw [hmap] at h6
    have eo := keyedOut_each (fun p : Int × D => PyData.int p.1) h6 (each_of_zip nl ein)
    rw [dataLe_int (β := Int × D) (fun p => p.1)] at eo
    obtain ⟨zs, z1, z2⟩ := each_out (each_snd (R := fun u d => ∃ x, RelV x u ∧ IsD κ as H d x) eo)
    have hp : H (s.heap.objs.size + 1) = none := I.hok.fresh (Nat.le_succ _)
    have hlz : zs.length ≤ sizeLine := by
      rw [z1.length, eo.length, List.length_mergeSort, List.length_zip]
      omega
    refine ⟨rfl, .ref (s.heap.objs.size + 1), upd H (s.heap.objs.size + 1) (.lst zs), stays h1 h2 h3 h4 (fun b hb => upd_ne fun z => hb (z ▸ hp)) (fun b hb hn => (upd_ne (Nat.ne_of_lt (Nat.lt_succ_of_lt hb))).trans hn) fun b o e => ?_, rfl, q _ zs hp z2⟩
    by_cases hbe : b = s.heap.objs.size + 1
    · subst hbe
      rw [upd_same] at e
      cases e
      exact ⟨hlz, out, c, z1, h5⟩
    · rw [upd_ne hbe] at e
      exact (I.hok b o e).stay (fun c u hc e2 => sees h4 c u (by
        rcases hc with rfl | hc
        · rw [e]; simp
        · rw [hc]; simp) e2) (fun c z => by rw [upd_ne (ne_of_none z hp)]; exact z) fun c xs z => by rw [upd_ne (ne_of_none z hp)]; exact z
end
section
variable {X : Cx} {sc : SC} {κ : Kx} {Φ : Fn} {Wx : L2.WX} {a : Expr} {ma : MW} {pos : Pos}
theorem pn_sortBy (ok : CxOk X sc κ Φ) {p fp kp : Pos} {f : Nat} {x : Str} (hg : glB sc "sorted" = true) (hs : nostar a = true) (hf : sc.fns.lookup f = some x) (hgf : glB sc x = true) (ho : odd x = false) (ha : PE X a (rdW κ Wx ma)) :
    PE X (.Call (.Name "sorted" p) [a] [⟨some (Str.ofString "key"), .Name x fp, kp⟩] pos) (rdN κ Wx fun ρ S => (ma ρ S).bind fun x S1 => (R.of S1 (listD (x.vw S1))).bind fun xs S1 => (R.of S1 (if okDs xs 60 = true then keysP (fun d => Φ f [d] []) xs else none)).bind fun ns S1 => .ok (.lst (sortK (ns.zip xs))) S1) := by
  obtain ⟨fa, fd, ps, k, hm, hk, hb, F, hr⟩ := (ok.fns f x hf).ex
  refine PE.imp (pe_callBK (id := "sorted") (cr_sortF ok.hκ ok.un hb F hr) (ok.gl hg) (ok.blt "sorted" (by decide)) (by decide +kernel) (pa_cons ha pa_nil (star_cons hs)) (pk_cons (pe_glob (v := .ref fa) (ok.gl hgf) hm rfl (odd_db ho)) pk_nil) (by decide +kernel) (by decide +kernel) (by first | rfl | (rw [star_cons hs]; rfl)) (by first | rfl | (rw [star_cons hs]; rfl))) fun σ H Q ⟨as, H0, ρ, S, rs, hS, w⟩ => ?_
  refine rdW.mk rs hS w.of_bind fun x S1 as1 H1 v w1 st1 r1 hS1 => ?_
  obtain ⟨xs, e, k⟩ := Out.of_of w1.of_bind
  obtain ⟨ns, e2, k⟩ := Out.of_of k.of_bind
  have hok : okDs xs 60 = true ∧ keysP (fun d => Φ f [d] []) xs = some ns := by
    by_cases q : okDs xs 60 = true
    · rw [if_pos q] at e2; exact ⟨q, e2⟩
    · rw [if_neg q] at e2; cases e2
  have rv := r1.vw hS1
  cases q : x.vw S1 with
  | lst ys =>
    rw [q] at rv e
    cases e
    obtain ⟨p, vs, rfl, hq, hd⟩ := rv
    exact ⟨as1, p, _, vs, ns, rfl, rfl, .inl hq, hd, hok.1, hok.2, fun p' zs hp z => kN.lst (kN.on st1 k) hS1 z p' hp⟩
  | scr ms =>
    rw [q] at rv e
    cases e
    obtain ⟨p, rfl, hq⟩ := rv
    exact ⟨as1, p, _, _, ns, rfl, rfl, hq, IsDs.of_ints, hok.1, hok.2, fun p' zs hp z => kN.lst (kN.on st1 k) hS1 z p' hp⟩
  | _ => rw [q] at e; cases e
end
end Ev
set_option maxHeartbeats 8000000
/-! Ev, part 15f: sorted(set(xs)) of whole numbers. -/
namespace Ev
open PySem PySem.Spec PyProof.Rows L2 PySem.W PySem.Calls
/-- an empty set -/
abbrev emS (w : World) : Obj := { cls := .type "set", dict := none, data := .set #[] 0 (.fresh 0 0 (!w.params.followText "set-order")) }
section
variable {P : Program} {w : World} {A : Around} {E : Value → Shared → Prop} {s : Shared}
theorem ints_at {us : List Value} {ns : List Int} (h : IntsAre us ns) {i : Nat} {v : Value} (e : us[i]? = some v) : ∃ k t, ns[i]? = some k ∧ v = .int k t := by
  induction h generalizing i with
  | nil => simp at e
  | cons n t h ih => cases i with
    | zero => cases e; exact ⟨n, t, rfl, rfl⟩
    | succ i => exact ih (i := i) (by simpa using e)
/-- what set(xs) comes to -/
def SetDone (w : World) (s : Shared) (ns : List Int) (h' : Heap) : Prop := ∃ c, SetR w h' s.heap.objs.size (fun j => decide (j ∈ ns)) c ∧ c ≤ ns.length ∧ ∀ b o, s.heap.get? b = some o → h'.get? b = some o
theorem set_of_lst {l : Addr} {us : List Value} {ns : List Int} {Q : Value → Shared → Prop} (hh : A.handled = none) (hl : s.heap.IsList l us.toArray) (hi : IntsAre us ns) (hb : ns.length + 1 < scanBound)
    (fin : ∀ h' tk, SetDone w s ns h' → Q (.ref s.heap.objs.size) { s with heap := h', toks := tk }) : wpAny (model P w) A (PySem.call (.type "set") [.ref l]) Q E s := by
  have len : us.toArray.size = ns.length := by rw [List.size_toArray, IntsAre.length hi]
  obtain ⟨cl, tl, mro⟩ := PySem.F.called_set.mro
  have made := PySem.F.called_set.made; have sub1 := PySem.F.called_set.sub
  refine wpAny_call (codeAny_of_tree ?_); show wpAny _ _ (callAny (.type "set") _) _ _ _
  refine wpAny_pure ⟨Code.quiet_builtin _ (by decide +kernel), codeAny_builtin PySem.F.entry_type_call ?_⟩; rw [Around.under_plain (PySem.weight_type_call_type "set" [.ref l] []) rfl]
  have k1 := PySem.F.called_set.notType; have k2 := PySem.F.called_set.canCreate; have k3 := PySem.F.typeCall_set_1 (.ref l)
  repeat (any_goals (first | assumption | wp_step))
  refine codeAny_mono (code_set_led1 (.ref l) (E := E) (Q₁ := fun ob s1 => ob = .ref s.heap.objs.size ∧ s1 = { s with heap := s.heap.push (emS w) }) ⟨rfl, rfl⟩) fun r s1 hr => ?_
  cases r with
  | error e => exact hr
  | ok fl =>
    cases fl with
    | ret ob =>
      obtain ⟨rfl, rfl⟩ := hr
      have g0 : (s.heap.push (emS w)).get? s.heap.objs.size = some (emS w) := Heap.get?_push_size _ rfl
      have t0 : Shared.TypeIs { s with heap := s.heap.push (emS w) } (.ref s.heap.objs.size) "set" := ⟨_, g0, rfl⟩
      have i1 := PySem.F.called_set.init.lookup; have i2 := PySem.F.called_set.init.bind (.ref s.heap.objs.size)
      repeat (any_goals (first | assumption | wp_step))
      refine codeAny_mono (codeAny_call_builtin (R := wants (fun r s2 => r = .none ∧ ∃ h' tk, s2 = { s with heap := h', toks := tk } ∧ SetDone w s ns h') E) PySem.F.called_set.init.plain PySem.F.entry_set_init (PySem.check_set_init_1 t0 ?_)) fun r2 s2 h2 => ?_
      · obtain ⟨⟨oc, od, dt, sl⟩, hol, hcl, nl, hdl⟩ := id hl
        simp only at hcl hdl
        subst hcl hdl
        have gl : (s.heap.push (emS w)).get? l = some { cls := .type "list", dict := od, data := .seq us.toArray nl, slots := sl } := Heap.get?_push_of_some _ hol
        have l1 : (s.heap.push (emS w)).IsList l us.toArray := ⟨_, gl, rfl, nl, rfl⟩
        have u1 := PySem.F.sub_list_set; have u2 := PySem.F.sub_list_frozenset
        have u3 : (Value.type "list" == Value.type "dict") = false := by decide
        unfold Builtin.«set.__init__» noKeywords Builtin.Frozenset.updateFrom
        generalize hIt : pyIter = It
        wp_walk
        subst hIt
        refine wpAny_pyIter_list l1 ?_
        refine wpAny_bind (wpAny_runValue ?_)
        have lt : l < s.heap.objs.size := Heap.lt_size hol
        have hh3 : A.in1.in1.in1.handled = none := by simp [hh]
        have ne : l ≠ (s.heap.push (emS w)).objs.size := by rw [Heap.size_push]; exact Nat.ne_of_lt (Nat.lt_succ_of_lt lt)
        have off : s.heap.objs.size ∉ [(s.heap.push (emS w)).objs.size, l] := by
          rw [Heap.size_push]; simp only [List.mem_cons, List.mem_singleton, List.not_mem_nil, or_false, not_or]; exact ⟨Nat.ne_of_lt (Nat.lt_succ_self _), Nat.ne_of_gt lt⟩
        have val : ∀ (i : Nat) (v : Value), us.toArray[i]? = some v → ∃ k t, ns[i]? = some k ∧ v = .int k t := fun i v e => ints_at hi (by simpa using e)
        refine set_update_ints ((Walks.list hh3 _ l ne us.toArray).toS) s.heap.objs.size off ns len hb val (us.toArray.size - 0) 0 _ (by omega) (Nat.zero_le _) ⟨⟨_, Heap.get?_push_size _ rfl, rfl, rfl⟩, l1.push _⟩ ?first ?last
        case first => exact ⟨0, Nat.le_refl 0, setR_new_at (Heap.get?_push_of_some _ g0)⟩
        case last =>
          intro s' c hm hc hS
          obtain ⟨h', g2, d2, tk, o2⟩ := s'
          obtain rfl : g2 = s.gens := hm.gens
          obtain rfl : d2 = s.drawn := hm.drawn
          obtain rfl : o2 = s.os := hm.os
          show wpAny _ _ _ _ _ _
          refine wpAny_pure ?_; show wpAny _ _ (ret Value.none) _ _ _
          rw [len] at hc
          refine wpAny_pure ⟨rfl, h', tk, rfl, c, hS, hc, fun b o e => ?_⟩
          have b0 : b < s.heap.objs.size := Heap.lt_size e
          refine hm.heap b o ?_ (Heap.get?_push_of_some _ (Heap.get?_push_of_some _ e))
          simp only [List.mem_cons, List.mem_singleton, List.not_mem_nil, or_false, not_or]
          exact ⟨Nat.ne_of_lt b0, by rw [Heap.size_push]; exact Nat.ne_of_lt (Nat.lt_succ_of_lt b0)⟩
      · cases r2 with
        | error e => exact h2
        | ok f2 =>
          cases f2 with
          | ret r =>
            obtain ⟨rfl, h', tk, rfl, dn⟩ := h2
            repeat (any_goals (first | assumption | wp_step))
            exact fin h' tk dn
          | _ => exact h2.elim
    | _ => exact hr.elim
end
end Ev
set_option maxHeartbeats 8000000
/-! Ev, part 15g: sorted(set(xs)) of whole numbers beside the text. -/
namespace Ev
open PySem PySem.Spec PyProof.Rows L2 PySem.W PySem.Calls
theorem ints_vals : ∀ {ns : List Int} {us : List Value}, Vals (ns.map V.int) us → IntsAre us ns
  | [], _, h => by cases h; exact .nil
  | n :: ns, _, h => by
    cases h with
    | cons r rs =>
      obtain ⟨t, rfl⟩ := r
      exact .cons n t (ints_vals rs)
theorem vals_ints : ∀ {us : List Value} {ns : List Int}, IntsAre us ns → Vals (ns.map V.int) us
  | _, _, .nil => .nil
  | _, _, .cons n t h => .cons ⟨t, rfl⟩ (vals_ints h)
theorem rdvs_ints {h : Heap} : ∀ {us : List Value} {ns : List Int}, IntsAre us ns → RdVs h (ns.map D.int) us
  | _, _, .nil => True.intro
  | _, _, .cons n t h => ⟨⟨t, rfl⟩, rdvs_ints h⟩
section
variable {X : Cx} {κ : Kx} {as : List Addr} {pins : List (Addr × Obj)} {σ : L2.St} {H : Hp} {s : Shared}
/-- set(xs) -/
def rSetI (K : PySem.W.Frag) (w : World) : List V → Hp → VK → Prop := fun vs H Q => ∃ (a : Addr) (ns : List Int), vs = [.ref a] ∧ (SqL K H a (ns.map V.int) ∨ SqT K H a (ns.map V.int)) ∧ ns.length + 1 < scanBound ∧
  ∀ (p : Addr) (c : Nat), H p = none → Q (.ref p) (upd H p (SetO w p (fun j => decide (j ∈ ns)) c))
theorem cr_setI (hc : X.calm = true) : CallR X (.type "set") (rSetI X.K X.w) := by
  intro pins s σ H vs us Q I r h
  obtain ⟨a, ns, rfl, hs, hb, q⟩ := h
  obtain ⟨u, rfl, ru⟩ := vals1 r
  obtain rfl : u = Value.ref a := ru
  have fin : ∀ h' tk c, SetR X.w h' s.heap.objs.size (fun j => decide (j ∈ ns)) c → (∀ b o, s.heap.get? b = some o → h'.get? b = some o) → EP X pins σ Q (.ref s.heap.objs.size) { s with heap := h', toks := tk } := fun h' tk c hS hk =>
    ⟨.ref _, _, I.laid (t' := tk) hk (Nat.le_refl _) (setO_new hS), rfl, q _ c (I.hok.fresh (Nat.le_refl _))⟩
  rcases hs with hs | hs
  · obtain ⟨its, rv, pl, _⟩ := I.list hs
    exact set_of_lst (I.ok.hd hc) pl.isList (ints_vals rv) hb fun h' tk ⟨c, hS, _, hk⟩ => fin h' tk c hS hk
  · obtain ⟨its, rv, pl, _⟩ := I.tuple hs
    exact call_set_tupI ns (I.ok.hd hc) pl (by simpa using ints_vals rv) hb fun h' tk c hS _ hk => fin h' tk c hS hk
/-- sorted of a set -/
def rSortS (κ : Kx) : List V → Hp → VK → Prop := fun vs H Q => ∃ (as : List Addr) (a : Addr) (S : Int → Bool) (n : Nat), vs = [V.ref a] ∧ H a = some (SetO κ.w a S n) ∧
  ∀ (p : Addr) (ks : List Int) (zs : List V), ks.Nodup → (∀ k, k ∈ ks ↔ S k = true) → H p = none → IsDs κ as H (sortD (ks.map D.int)) zs → Q (.ref p) (upd H p (.lst zs))
theorem okDs_is {n : Nat} : ∀ ns : List Int, okDs (ns.map D.int) n = true
  | [] => rfl
  | _ :: ns => okDs_is ns
theorem ordOk_is (ns : List Int) : ordOk (ns.map D.int) = true := by
  have e1 := okDs_is (n := 60) ns
  have e2 : (ns.map D.int).all isI = true := by rw [List.all_map]; exact List.all_eq_true.mpr fun _ _ => rfl
  have e3 : ((ns.map D.int).all fun x => (ns.map D.int).all fun y => PySem.W.alike (pdD x) (pdD y)) = true := by
    rw [List.all_map]
    refine List.all_eq_true.mpr fun a _ => ?_
    show ((ns.map D.int).all fun y => PySem.W.alike (pdD (.int a)) (pdD y)) = true
    rw [List.all_map]
    refine List.all_eq_true.mpr fun b _ => ?_
    show PySem.W.alike (.int a) (.int b) = true
    simp [alike]
  unfold ordOk
  rw [e1, e2, e3]; rfl
theorem cr_sortS (hw : κ.w = X.w) (hc : X.calm = true) (hu : X.A.units + 64 < cLine) : CallR X (.builtin "sorted") (rSortS κ) := by
  intro pins s σ H vs us Q I r h
  obtain ⟨as, a, S, n, rfl, hS, q⟩ := h
  rw [hw] at hS
  obtain ⟨u, rfl, ru⟩ := vals1 r
  obtain rfl : u = Value.ref a := ru
  obtain ⟨o, es, ep, t, ho, hex, hd, g, nd, hm, hb, hf, hn, hr, hl⟩ := setO_get I hS
  refine Calls.call_function_entry PyProof.Rows.kind_sorted PyProof.Rows.plain_sorted PyProof.Rows.entry_sorted (PyProof.Rows.args_sorted1 _) ?_
  unfold Builtin.«sorted»
  refine wpAny_bind (m := checkCount "sorted" 1 1 _) (wpAny_pure ?_)
  refine wpAny_bind (collect_set (A := X.A.in1) (I.ok.hd hc) ⟨o, ho, hex.1, hd⟩ hf hb hr hl fun s1 vs k1 hz g1 o1 pm => ?_)
  have hvl : vs.length = n := by rw [pm.length_eq, List.length_map, Array.length_toList]; exact hn
  have hI : IntsAre vs (vs.map Builtin.Re.reRawOf) := L2.ints_of vs fun v hv => by
    obtain ⟨e, he, q⟩ := List.mem_map.mp (pm.mem_iff.mp hv)
    obtain ⟨k, tk, h1, _⟩ := g e he
    exact ⟨k, tk, by rw [← q]; exact h1⟩
  generalize ek : vs.map Builtin.Re.reRawOf = ks at hI
  have pk : ks.Perm (es.toList.map keyOf) := by
    have q := pm.map Builtin.Re.reRawOf
    rw [List.map_map, ek] at q
    exact q
  have hlen : vs.length = ks.length := IntsAre.length hI
  have hz16 : vs.length ≤ sizeLine := by
    rw [hvl, ← hn, sizeLine_eq]
    have : es.size < 4096 := hb
    omega
  refine wpAny_bind (wpAny_newList ?_ hz16)
  have hoL : (s1.heap.push (seqObj "list" vs.toArray 0)).get? s1.heap.objs.size = some (seqObj "list" vs.toArray 0) := Heap.get?_push_size _ rfl
  show wpAny _ _ _ _ _ { s1 with heap := s1.heap.push (seqObj "list" vs.toArray 0) }
  obtain ⟨x1, x2, x3⟩ := ordOk_alike (ordOk_is ks)
  have er := (each_reads x1 (rdvs_ints (h := s1.heap) hI)).mono (R' := fun u d => ∃ as, Reads (sortingHeap (s1.heap.push (seqObj "list" vs.toArray 0)) s1.heap.objs.size vs) u (pdD d) as) fun _ _ ⟨as, r⟩ => ⟨as, PyProof.Rows.Reads.keeps (fun b o e => sortingHeap_old (Nat.ne_of_lt (Heap.lt_size e)) (Heap.get?_push_of_some _ e)) r⟩
  refine wpAny_bind (wpAny_holding (wpAny_call_entry PyProof.Rows.slot_list_sort ⟨_, hoL, rfl⟩ PyProof.Rows.entry_list_sort
    (list_sort_vals (s := { s1 with heap := s1.heap.push (seqObj "list" vs.toArray 0) }) (A := X.A.in1.in1) hoL (SortsAt.data (s := { s1 with heap := sortingHeap (s1.heap.push (seqObj "list" vs.toArray 0)) s1.heap.objs.size vs }) (each_map (R := fun v d => ∃ as, Reads (sortingHeap (s1.heap.push (seqObj "list" vs.toArray 0)) s1.heap.objs.size vs) v d as) pdD er) x2 x3 fun d hd' => ?_) hz16 ⟨_, rfl, ?_⟩)
    (PyProof.Rows.args_list_sort _)))
  · obtain ⟨x, hx, rfl⟩ := List.mem_map.mp hd'
    have := depth_of (okDs_mem x1 x hx)
    show X.A.units + 1 + 1 + _ < cLine
    omega
  · have eo := sortVals_data (R := fun u d => ∃ x, RelV x u ∧ IsD κ as H d x) (enc := pdD) false (each_in (IsDs.of_ints (ns := ks)) (vals_ints hI)) er x2
    obtain ⟨zs, z1, z2⟩ := each_out eo
    obtain ⟨e', he'⟩ := PyProof.Rows.sortedHeap_at (vs := vs) (out := (sortVals (dataKind (sortingHeap (s1.heap.push (seqObj "list" vs.toArray 0)) s1.heap.objs.size vs) ((ks.map D.int).map pdD)) false vs vs).toArray) hoL
    have keep : ∀ b u, s.heap.get? b = some u → (sortedHeap (s1.heap.push (seqObj "list" vs.toArray 0)) s1.heap.objs.size vs (sortVals (dataKind (sortingHeap (s1.heap.push (seqObj "list" vs.toArray 0)) s1.heap.objs.size vs) ((ks.map D.int).map pdD)) false vs vs).toArray).get? b = some u := fun b u e => by
      have hb := Heap.lt_size (k1 b u e)
      rw [PyProof.Rows.sortedHeap_old (Nat.ne_of_lt hb) (by rw [size_push']; exact Nat.lt_succ_of_lt hb)]
      exact Heap.get?_push_of_some _ (k1 b u e)
    have hn' : H s1.heap.objs.size = none := I.hok.fresh hz
    have hlz : zs.length ≤ sizeLine := by rw [z1.length, sortVals_length false rfl]; exact hz16
    have nd' : ks.Nodup := (pk.nodup_iff).mpr nd
    have mem' : ∀ k, k ∈ ks ↔ S k = true := fun k => by rw [pk.mem_iff, ← hm k]
    refine wpAny_pure ⟨_, rfl, .ref s1.heap.objs.size, upd H s1.heap.objs.size (.lst zs), ?_, rfl, q _ ks zs nd' mem' hn' z2⟩
    obtain ⟨hp1, gn1, dr1, tk1, os1⟩ := s1
    obtain rfl : gn1 = s.gens := g1
    obtain rfl : os1 = s.os := o1
    generalize hHP : sortedHeap _ _ vs _ = HP at keep he'
    have J : L2.Inv X pins σ (upd H hp1.objs.size (.lst zs)) { s with heap := HP, gens := s.gens, drawn := dr1, toks := tk1 } := I.call (ch := []) (Un.laid keep hz hn') (I.hok.laid keep hz (show ObjOk X.prog X.w _ _ _ (.lst zs) from ⟨hlz, _, e', z1, he'⟩)) I.bare fun _ z => nomatch z
    subst hHP
    exact J
end
/-! numbers each once, in order -/
theorem sle_int {a b : Int} : dataLe false pdD (.int a) (.int b) = !decide (b < a) := by
  show (!(PyProof.Rows.lexLt itemOrd [.inl b] [.inl a])) = _
  rw [PyProof.Rows.lex_cons]
  show (!(decide (b < a) || (!decide (a < b) && false))) = _
  rw [Bool.and_false, Bool.or_false]
theorem tot' (a b : D) : dataLe false pdD a b = true ∨ dataLe false pdD b a = true := (sortLe_total (listOrd itemOrd) false fun b => keyToks (pdD b)).total a b
theorem tra' (a b c : D) (h1 : dataLe false pdD a b = true) (h2 : dataLe false pdD b c = true) : dataLe false pdD a c = true := (sortLe_total (listOrd itemOrd) false fun b => keyToks (pdD b)).trans a b c h1 h2
theorem sorted_is (ns : List Int) : ∃ zs : List Int, sortD (ns.map D.int) = zs.map D.int ∧ zs.Perm ns ∧ zs.Pairwise fun a b => a ≤ b := by
  refine ⟨ns.mergeSort fun a b => dataLe false pdD (.int a) (.int b), (List.map_mergeSort (f := D.int) (s := dataLe false pdD) (r := fun a b => dataLe false pdD (.int a) (.int b)) (l := ns) fun _ _ _ _ => rfl).symm, List.mergeSort_perm .., ?_⟩
  have := List.pairwise_mergeSort (le := fun a b : Int => dataLe false pdD (.int a) (.int b)) (fun a b c h1 h2 => tra' _ _ _ h1 h2) (fun a b => by simpa using tot' (.int a) (.int b)) ns
  refine this.imp fun {a b} h => ?_
  rw [sle_int] at h
  have h : ¬ b < a := by simpa using h
  omega
theorem sorted_eq {ks ms : List Int} (h1 : ks.Nodup) (h2 : ms.Nodup) (h : ∀ k, k ∈ ks ↔ k ∈ ms) : sortD (ks.map D.int) = sortD (ms.map D.int) := by
  obtain ⟨a, e1, p1, o1⟩ := sorted_is ks
  obtain ⟨b, e2, p2, o2⟩ := sorted_is ms
  have p : a.Perm b := p1.trans (((List.perm_ext_iff_of_nodup h1 h2).mpr h).trans p2.symm)
  rw [e1, e2, p.eq_of_pairwise (fun x y _ _ h1 h2 => Int.le_antisymm h1 h2) o1 o2]
def dedupI : List Int → List Int
  | [] => []
  | x :: r => if r.any (fun y => y == x) = true then dedupI r else x :: dedupI r
theorem dedup_is : ∀ ns : List Int, dedup (ns.map D.int) = (dedupI ns).map D.int
  | [] => rfl
  | n :: ns => by
    have e : ((ns.map D.int).any fun y => eqv y (D.int n)) = ns.any fun y => y == n := by rw [List.any_map]; rfl
    show (if ((ns.map D.int).any fun y => eqv y (D.int n)) = true then dedup (ns.map D.int) else D.int n :: dedup (ns.map D.int)) = _
    rw [e, dedup_is ns, dedupI]
    split <;> rfl
theorem dedupI_mem : ∀ {ns : List Int} {k : Int}, k ∈ dedupI ns ↔ k ∈ ns
  | [], k => Iff.rfl
  | n :: ns, k => by
    have ih := dedupI_mem (ns := ns) (k := k)
    rw [dedupI]
    split
    · rename_i q
      obtain ⟨y, hy, e⟩ := List.any_eq_true.mp q
      have e := eq_of_beq e
      subst e
      rw [ih, List.mem_cons]
      exact ⟨.inr, fun h => h.elim (fun e => by rw [e]; exact hy) id⟩
    · rw [List.mem_cons, List.mem_cons, ih]
theorem dedupI_nd : ∀ ns : List Int, (dedupI ns).Nodup
  | [] => List.nodup_nil
  | n :: ns => by
    rw [dedupI]
    split
    · exact dedupI_nd ns
    · rename_i q
      refine List.nodup_cons.mpr ⟨fun h => q (List.any_eq_true.mpr ⟨n, dedupI_mem.mp h, by simp⟩), dedupI_nd ns⟩
theorem all_is : ∀ {xs : List D}, xs.all isI = true → ∃ ns : List Int, xs = ns.map D.int
  | [], _ => ⟨[], rfl⟩
  | x :: xs, h => by
    rw [List.all_cons, Bool.and_eq_true] at h
    obtain ⟨ns, rfl⟩ := all_is h.2
    cases x with
    | int i => exact ⟨i :: ns, rfl⟩
    | _ => exact absurd h.1 (by simp [isI])
theorem isds_ints {κ : Kx} {as : List Addr} {H : Hp} : ∀ {ns : List Int} {vs : List V}, IsDs κ as H (ns.map D.int) vs → vs = ns.map V.int
  | [], [], _ => rfl
  | n :: ns, v :: vs, h => by
    rw [isds_ints (ns := ns) (vs := vs) h.2]
    have e : v = .int n := h.1
    rw [e]; rfl
  | [], _ :: _, h => h.elim
  | _ :: _, [], h => h.elim
end Ev
set_option maxHeartbeats 8000000
/-! Ev, part 15h: set(xs) of texts. -/
namespace Ev
open PySem PySem.Spec PyProof.Rows L2 PySem.W PySem.Calls
/-- the text of an entry -/
def txK (e : Int × Value) : Str := match e.2 with | .str k _ => k | _ => ⟨#[]⟩
/-- what else is so of a set of texts: its entries are texts, told once; it can be walked -/
structure TxF (w : World) (D : PySem.Froz.SD) : Prop where
  txt : ∀ e ∈ D.1.toList, ∃ k u, e.2 = Value.str k u
  once : (D.1.toList.map txK).Nodup
  rises : Ris D.2.2.place.toList
  ledger : w.params.followText "set-order" = true ∨ D.2.2.led = true
theorem txK_is {P : Program} {w : World} {e : Int × Value} (g : ∃ k u, e.2 = Value.str k u) (k : Str) : (strKind P w).is k e.2 = true ↔ txK e = k := by
  obtain ⟨k0, u, q⟩ := g
  unfold txK
  rw [q]
  show Value.isStrOf k (.str k0 u) = true ↔ k0 = k
  unfold Value.isStrOf
  rw [beq_iff_eq]
theorem TxF.tail {w : World} {ep : Nat} {xs : Array (Int × Value)} {tb : SetTable} {b : Bool} (f : TxF w (xs, ep, tb)) : TxF w (PySem.Froz.tailTx ep xs tb b) := by
  unfold PySem.Froz.tailTx
  split
  · have p := relayAll_perm tb xs (SetTable.grown xs.size)
    have r := relayAll_ris tb xs (SetTable.grown xs.size)
    have l := relayAll_led tb xs (SetTable.grown xs.size)
    exact ⟨fun e he => f.txt e (p.mem_iff.mp he), (p.map txK).nodup_iff.mpr f.once, r, f.ledger.imp id fun z => l.trans z⟩
  · exact ⟨f.txt, f.once, f.rises, f.ledger⟩
theorem TxF.add {w : World} {D : PySem.Froz.SD} {k : Str} {u : Tok} (hk : k ∉ D.1.toList.map txK) (f : TxF w D) : TxF w (PySem.Froz.addTx (hashStr w k) (.str k u) D) := by
  obtain ⟨xs, ep, tb⟩ := D
  have p := layNew_perm tb xs (hashStr w k) (.str k u)
  have r := layNew_ris tb xs (hashStr w k) (.str k u) f.rises
  have l := layNew_led tb xs (hashStr w k) (.str k u)
  rw [Array.toList_push] at p
  have p2 := p.trans (List.perm_append_singleton _ _)
  have base : ∀ tb2 : SetTable, tb2.place = (layNew tb xs (hashStr w k) (.str k u)).2.1.place → tb2.led = (layNew tb xs (hashStr w k) (.str k u)).2.1.led → TxF w ((layNew tb xs (hashStr w k) (.str k u)).1, ep, tb2) := fun tb2 e1 e2 => by
    refine ⟨fun e he => ?_, ?_, ?_, ?_⟩
    · rcases List.mem_cons.mp (p2.mem_iff.mp he) with z | z
      · exact ⟨k, u, by rw [z]⟩
      · exact f.txt e z
    · refine ((p2.map txK).nodup_iff).mpr ?_
      rw [List.map_cons, List.nodup_cons]
      exact ⟨hk, f.once⟩
    · show Ris tb2.place.toList
      rw [e1]; exact r
    · show _ ∨ tb2.led = true
      rw [e2, l]; exact f.ledger
  unfold PySem.Froz.addTx
  refine TxF.tail ?_
  split
  · exact base _ rfl rfl
  · exact base _ rfl rfl
/-- a set of the texts l at a -/
def SetS (P : Program) (w : World) (h : Heap) (a : Addr) (l : List Str) : Prop := ∃ D, h.get? a = some (PySem.Froz.sObj "set" D) ∧ PySem.Froz.TxOk P w D l ∧ TxF w D
theorem SetS.keys {P : Program} {w : World} {D : PySem.Froz.SD} {l : List Str} (o : PySem.Froz.TxOk P w D l) (f : TxF w D) (k : Str) : k ∈ D.1.toList.map txK ↔ k ∈ l := by
  rw [List.mem_map, o.mem k]
  exact ⟨fun ⟨e, h1, h2⟩ => ⟨e, h1, (txK_is (f.txt e h1) k).mpr h2⟩, fun ⟨e, h1, h2⟩ => ⟨e, h1, (txK_is (P := P) (w := w) (f.txt e h1) k).mp h2⟩⟩
section
variable {P : Program} {w : World} {A : Around} {E : Value → Shared → Prop} {s : Shared}
theorem SetS.keep {h h' : Heap} {a : Addr} {l : List Str} (R : SetS P w h a l) (k : ∀ o, h.get? a = some o → h'.get? a = some o) : SetS P w h' a l := by
  obtain ⟨D, h1, h2, h3⟩ := R
  exact ⟨D, k _ h1, h2, h3⟩
/-- one text more, or one that is in it -/
def insT (l : List Str) (k : Str) : List Str := if k ∈ l then l else k :: l
theorem setS_add {a : Addr} {l : List Str} {k : Str} {u : Tok} {Q : Bool → Shared → Prop} (R : SetS P w s.heap a l) (room : l.length + 1 < scanBound)
    (done : ∀ (h' : Heap) (b : Bool), Heap.SameBut a s.heap h' → SetS P w h' a (insT l k) → Q b { s with heap := h' }) : wpAny (model P w) A (setAddHashed a (.str k u) (hashStr w k)) Q E s := by
  obtain ⟨D, hA, ok, f⟩ := R
  by_cases hin : k ∈ l
  · have il : insT l k = l := if_pos hin
    rw [il] at done
    obtain ⟨xs, ep, tb⟩ := D
    have hD : (PySem.Froz.sObj "set" (xs, ep, tb)).data = .set xs ep tb := rfl
    have sz : xs.size = l.length := ok.sz
    have el : ElemsOf (strKind P w) xs.toList := ok.el
    have lt : xs.size < scanBound := by omega
    obtain ⟨e0, he0, is0⟩ := (ok.mem k).mp hin
    unfold setAddHashed setAddHashedIn
    refine wpAny_holding (wpAny_bind (wpAny_setState_of hA hD ok.fit ?_))
    dsimp only
    rw [byScan_of rfl lt el]
    simp only [↓reduceIte]
    unfold setAddByScan
    refine wpAny_bind (wpAny_bind (wpAny_rule (wpAny_bind ?_)))
    refine wpAny_setScan_of (knd := strKind P w) (k := k) (PySem.Froz.is_str k u) hA hD ok.fit el ?_
    cases q : List.findIdx? (fun e => (strKind P w).is k e.2) xs.toList with
    | none =>
      have := List.findIdx?_eq_none_iff.mp q e0 he0
      rw [is0] at this
      cases this
    | some j =>
      dsimp only
      exact wpAny_pure (wpAny_pure (done _ _ (Heap.SameBut.refl a s.heap) ⟨_, hA, ok, f⟩))
  · have il : insT l k = k :: l := if_neg hin
    rw [il] at done
    have nk : k ∉ D.1.toList.map txK := fun z => hin ((SetS.keys ok f k).mp z)
    refine PySem.Froz.add_x hA ok hin room (done _ _ (Heap.SameBut.update s.heap a _) ⟨_, PySem.Froz.get_upd _ hA rfl, PySem.Froz.add_ok u ok, f.add nk⟩)
/-- the texts of a list, each once -/
def accT : List Str → List Str → List Str
  | l, [] => l
  | l, k :: ks => accT (insT l k) ks
theorem insT_len {l : List Str} {k : Str} : (insT l k).length ≤ l.length + 1 := by unfold insT; split <;> simp
theorem insT_mem {l : List Str} {k x : Str} : x ∈ insT l k ↔ x ∈ l ∨ x = k := by
  unfold insT
  split
  · rename_i h
    exact ⟨.inl, fun z => z.elim id fun e => by rw [e]; exact h⟩
  · rw [List.mem_cons]; exact Or.comm
theorem accT_mem : ∀ {ks l : List Str} {x : Str}, x ∈ accT l ks ↔ x ∈ l ∨ x ∈ ks
  | [], l, x => by simp [accT]
  | k :: ks, l, x => by
    rw [accT, accT_mem, insT_mem, List.mem_cons, or_assoc]
theorem accT_len : ∀ {ks l : List Str}, (accT l ks).length ≤ l.length + ks.length
  | [], l => by simp [accT]
  | k :: ks, l => by
    have := accT_len (ks := ks) (l := insT l k)
    have := insT_len (l := l) (k := k)
    rw [accT, List.length_cons]
    omega
theorem setS_loop {I : Addr} {fp wr : List Addr} {G : Array GenState → Array GenState → Prop} {n : Nat} {Pv : Nat → Value → Prop} {St : Nat → Shared → Prop} {R : Result → Shared → Prop}
    (W : WalksS P w A.in1 I fp wr G n Pv St) (a : Addr) (off : a ∉ fp) (ks : List Str) (hn : n = ks.length) (room : ks.length + 1 < scanBound) (val : ∀ i v, Pv i v → ∃ k u, ks[i]? = some k ∧ v = .str k u) :
    ∀ (r i : Nat) (s : Shared), n - i = r → i ≤ n → St i s → SetS P w s.heap a (accT [] (ks.take i)) →
      (∀ s', Moved (a :: wr) G s s' → SetS P w s'.heap a (accT [] ks) → R (.ok (.ret .none)) s') → codeAny (model P w) A (.builtin "set.update.loop" ⟨[.ref a, .ref I], []⟩) R s := by
  have offw : a ∉ wr := fun z => off (W.sub _ z)
  have more : ∀ b ∈ wr, b ∈ a :: wr := fun b z => List.mem_cons_of_mem _ z
  have acc1 : ∀ {l ks : List Str} {k : Str}, accT l (ks ++ [k]) = insT (accT l ks) k := fun {l ks k} => by
    induction ks generalizing l with
    | nil => rfl
    | cons x ks ih => exact ih
  intro r
  induction r with
  | zero =>
    intro i s hr hi st hS done
    obtain rfl : i = n := by omega
    refine codeAny_builtin F.entry_set_update_loop ?_
    rw [Around.under_plainId F.plain_set_update_loop _]
    show wpAny _ A.in1 (pyNext (.ref I) >>= _) _ _ s
    refine wpAny_bind (W.done s _ _ st fun s' mv => ?_)
    show wpAny _ A.in1 (ret Value.none) _ _ s'
    rw [List.take_of_length_le (by omega)] at hS
    exact wpAny_pure (done s' (mv.mono more) (hS.keep fun o e => mv.heap a o offw e))
  | succ r ih =>
    intro i s hr hi st hS done
    have lt : i < n := by omega
    refine codeAny_builtin F.entry_set_update_loop ?_
    rw [Around.under_plainId F.plain_set_update_loop _]
    show wpAny _ A.in1 (pyNext (.ref I) >>= _) _ _ s
    refine wpAny_bind (W.item i s _ _ lt st fun v s' hv st' mv => ?_)
    obtain ⟨k, u, hk, rfl⟩ := val i v hv
    have hS' : SetS P w s'.heap a (accT [] (ks.take i)) := hS.keep fun o e => mv.heap a o offw e
    have len := accT_len (ks := ks.take i) (l := [])
    rw [List.length_take, List.length_nil] at len
    show wpAny _ A.in1 (holding [Value.str k u] (setAdd a (.str k u)) >>= _) _ _ s'
    refine wpAny_bind (wpAny_holding ?_)
    unfold setAdd
    refine wpAny_holding (wpAny_bind ((strKind P w).pyHash (k := k) (PySem.Froz.is_str k u) ?_))
    refine setS_add (s := { s' with toks := s'.toks + 1 }) hS' (by omega) fun h' b sb hS2 => ?_
    rw [← acc1] at hS2
    have tk : ks.take i ++ [k] = ks.take (i + 1) := by rw [List.take_add_one, hk]; rfl
    rw [tk] at hS2
    refine wpAny_pure ⟨plainId_quiet F.plain_set_update_loop _, ih (i + 1) _ (by omega) lt (W.frame _ s' _ _ st' (Nat.le_succ _) fun b hb o e => ?_) hS2 fun s'' mv2 hS3 => ?_⟩
    · rw [sb.2 b fun z : b = a => off (by rw [← z]; exact hb)]; exact e
    · refine done s'' (Moved.trans W.gtrans ((mv.mono more).then_heap (Nat.le_succ _) fun b o hb e => ?_) mv2) hS3
      rw [sb.2 b fun z : b = a => hb (by rw [z]; exact List.mem_cons_self)]; exact e
end
end Ev
set_option maxHeartbeats 8000000
/-! Ev, part 15i: sorted(set(xs)) of texts. -/
namespace Ev
open PySem PySem.Spec PyProof.Rows L2 PySem.W PySem.Calls
/-- values that are these texts -/
inductive TxtsAre : List Value → List Str → Prop
  | nil : TxtsAre [] []
  | cons (k : Str) (t : Tok) {us : List Value} {ks : List Str} : TxtsAre us ks → TxtsAre (Value.str k t :: us) (k :: ks)
theorem TxtsAre.len {us : List Value} {ks : List Str} (h : TxtsAre us ks) : us.length = ks.length := by
  induction h with
  | nil => rfl
  | cons k t h ih => rw [List.length_cons, List.length_cons, ih]
theorem TxtsAre.at {us : List Value} {ks : List Str} (h : TxtsAre us ks) {i : Nat} {v : Value} (e : us[i]? = some v) : ∃ k t, ks[i]? = some k ∧ v = .str k t := by
  induction h generalizing i with
  | nil => simp at e
  | cons k t h ih => cases i with
    | zero => cases e; exact ⟨k, t, rfl, rfl⟩
    | succ i => exact ih (i := i) (by simpa using e)
theorem vals_txts : ∀ {ks : List Str} {us : List Value}, Vals (ks.map V.str) us → TxtsAre us ks
  | [], _, h => by cases h; exact .nil
  | k :: ks, _, h => by
    cases h with
    | cons r rs =>
      obtain ⟨t, rfl⟩ := r
      exact .cons k t (vals_txts rs)
theorem txts_vals : ∀ {us : List Value} {ks : List Str}, TxtsAre us ks → Vals (ks.map V.str) us
  | _, _, .nil => .nil
  | _, _, .cons k t h => .cons ⟨t, rfl⟩ (txts_vals h)
/-- a text as a tree -/
def dS (k : Str) : D := .str k.cps.toList
theorem tx_cps {k : Str} : tx k.cps.toList = k := by
  show (⟨k.cps.toList.toArray⟩ : Str) = k
  rw [Array.toArray_toList]
theorem rdvs_txts {h : Heap} : ∀ {us : List Value} {ks : List Str}, TxtsAre us ks → RdVs h (ks.map dS) us
  | _, _, .nil => True.intro
  | _, _, .cons k t h => ⟨⟨t, by show Value.str k t = Value.str (tx k.cps.toList) t; rw [tx_cps]⟩, rdvs_txts h⟩
theorem isds_txts {κ : Kx} {as : List Addr} {H : Hp} : ∀ {ks : List Str}, (∀ k ∈ ks, szOk k.cps.toList.length = true) → IsDs κ as H (ks.map dS) (ks.map V.str)
  | [], _ => True.intro
  | k :: ks, h => ⟨⟨by show V.str k = V.str (tx k.cps.toList); rw [tx_cps], h k List.mem_cons_self⟩, isds_txts fun x hx => h x (List.mem_cons_of_mem _ hx)⟩
theorem okDs_dS {n : Nat} : ∀ ks : List Str, okDs (ks.map dS) n = true
  | [] => rfl
  | _ :: ks => okDs_dS ks
theorem ordOk_dS (ks : List Str) : ordOk (ks.map dS) = true := by
  have e1 := okDs_dS (n := 60) ks
  have e2 : (ks.map dS).all isS = true := by rw [List.all_map]; exact List.all_eq_true.mpr fun _ _ => rfl
  have e3 : ((ks.map dS).all fun x => (ks.map dS).all fun y => PySem.W.alike (pdD x) (pdD y)) = true := by
    rw [List.all_map]
    refine List.all_eq_true.mpr fun a _ => ?_
    show ((ks.map dS).all fun y => PySem.W.alike (pdD (dS a)) (pdD y)) = true
    rw [List.all_map]
    exact List.all_eq_true.mpr fun b _ => rfl
  unfold ordOk
  rw [e1, e2, e3, Bool.true_or, Bool.or_true]; rfl
section
variable {P : Program} {w : World} {A : Around} {E : Value → Shared → Prop} {s : Shared}
theorem setS_new {h : Heap} {a : Addr} (e : h.get? a = some (emS w)) : SetS P w h a [] := by
  refine ⟨(#[], 0, .fresh 0 0 (!w.params.followText "set-order")), e, PySem.Froz.TxOk.nil rfl, fun e he => by simp at he, by simp, List.Pairwise.nil, ?_⟩
  show _ ∨ (!w.params.followText "set-order") = true
  cases w.params.followText "set-order" <;> simp
/-- what set(xs) comes to -/
def TxtDone (P : Program) (w : World) (s : Shared) (ks : List Str) (h' : Heap) : Prop := SetS P w h' s.heap.objs.size (accT [] ks) ∧ ∀ b o, s.heap.get? b = some o → h'.get? b = some o
theorem set_of_txts {l : Addr} {us : List Value} {ks : List Str} {Q : Value → Shared → Prop} (hh : A.handled = none) (hl : s.heap.IsList l us.toArray) (hi : TxtsAre us ks) (room : ks.length + 1 < scanBound)
    (done : ∀ h' tk, TxtDone P w s ks h' → Q (.ref s.heap.objs.size) { s with heap := h', toks := tk }) : wpAny (model P w) A (PySem.call (.type "set") [.ref l]) Q E s := by
  have hz : us.toArray.size = ks.length := by rw [List.size_toArray, hi.len]
  obtain ⟨c0, t0, m0⟩ := PySem.F.called_set.mro
  have w1 := PySem.F.called_set.made; have w2 := PySem.F.called_set.sub
  refine wpAny_call (codeAny_of_tree ?_); show wpAny _ _ (callAny (.type "set") _) _ _ _
  refine wpAny_pure ⟨Code.quiet_builtin _ (by decide +kernel), codeAny_builtin PySem.F.entry_type_call ?_⟩; rw [Around.under_plain (PySem.weight_type_call_type "set" [.ref l] []) rfl]
  have w3 := PySem.F.called_set.notType; have w4 := PySem.F.called_set.canCreate; have w5 := PySem.F.typeCall_set_1 (.ref l)
  repeat (any_goals (first | assumption | wp_step))
  refine codeAny_mono (code_set_led1 (.ref l) (E := E) (Q₁ := fun v s1 => v = .ref s.heap.objs.size ∧ s1 = { s with heap := s.heap.push (emS w) }) ⟨rfl, rfl⟩) fun r s1 hr => ?_
  cases r with
  | error e => exact hr
  | ok fl =>
    cases fl with
    | ret v =>
      obtain ⟨rfl, rfl⟩ := hr
      have g0 : (s.heap.push (emS w)).get? s.heap.objs.size = some (emS w) := Heap.get?_push_size _ rfl
      have ty0 : Shared.TypeIs { s with heap := s.heap.push (emS w) } (.ref s.heap.objs.size) "set" := ⟨_, g0, rfl⟩
      have j1 := PySem.F.called_set.init.lookup; have j2 := PySem.F.called_set.init.bind (.ref s.heap.objs.size)
      repeat (any_goals (first | assumption | wp_step))
      refine codeAny_mono (codeAny_call_builtin (R := wants (fun r s2 => r = .none ∧ ∃ h' tk, s2 = { s with heap := h', toks := tk } ∧ TxtDone P w s ks h') E) PySem.F.called_set.init.plain PySem.F.entry_set_init (PySem.check_set_init_1 ty0 ?_)) fun r2 s2 h2 => ?_
      · obtain ⟨⟨oc, od, dt, sl⟩, hol, hcl, nl, hdl⟩ := id hl
        simp only at hcl hdl
        subst hcl hdl
        have gl : (s.heap.push (emS w)).get? l = some { cls := .type "list", dict := od, data := .seq us.toArray nl, slots := sl } := Heap.get?_push_of_some _ hol
        have l1 : (s.heap.push (emS w)).IsList l us.toArray := ⟨_, gl, rfl, nl, rfl⟩
        have v1 := PySem.F.sub_list_set; have v2 := PySem.F.sub_list_frozenset
        have v3 : (Value.type "list" == Value.type "dict") = false := by decide
        unfold Builtin.«set.__init__» noKeywords Builtin.Frozenset.updateFrom
        generalize hIt : pyIter = It
        wp_walk
        subst hIt
        refine wpAny_pyIter_list l1 ?_
        refine wpAny_bind (wpAny_runValue ?_)
        have lt : l < s.heap.objs.size := Heap.lt_size hol
        have hh3 : A.in1.in1.in1.handled = none := by simp [hh]
        have ne : l ≠ (s.heap.push (emS w)).objs.size := by rw [Heap.size_push]; exact Nat.ne_of_lt (Nat.lt_succ_of_lt lt)
        have off : s.heap.objs.size ∉ [(s.heap.push (emS w)).objs.size, l] := by
          rw [Heap.size_push]; simp only [List.mem_cons, List.mem_singleton, List.not_mem_nil, or_false, not_or]; exact ⟨Nat.ne_of_lt (Nat.lt_succ_self _), Nat.ne_of_gt lt⟩
        have val : ∀ (i : Nat) (v : Value), us.toArray[i]? = some v → ∃ k t, ks[i]? = some k ∧ v = .str k t := fun i v e => hi.at (by simpa using e)
        refine setS_loop ((Walks.list hh3 _ l ne us.toArray).toS) s.heap.objs.size off ks hz room val (us.toArray.size - 0) 0 _ (by omega) (Nat.zero_le _) ⟨⟨_, Heap.get?_push_size _ rfl, rfl, rfl⟩, l1.push _⟩ ?begin ?last
        case begin => exact setS_new (Heap.get?_push_of_some _ g0)
        case last =>
          intro s' mv hS
          obtain ⟨h', g2, d2, tk, o2⟩ := s'
          obtain rfl : g2 = s.gens := mv.gens
          obtain rfl : d2 = s.drawn := mv.drawn
          obtain rfl : o2 = s.os := mv.os
          show wpAny _ _ _ _ _ _
          refine wpAny_pure ?_; show wpAny _ _ (ret Value.none) _ _ _
          refine wpAny_pure ⟨rfl, h', tk, rfl, hS, fun b o e => ?_⟩
          have b0 : b < s.heap.objs.size := Heap.lt_size e
          refine mv.heap b o ?_ (Heap.get?_push_of_some _ (Heap.get?_push_of_some _ e))
          simp only [List.mem_cons, List.mem_singleton, List.not_mem_nil, or_false, not_or]
          exact ⟨Nat.ne_of_lt b0, by rw [Heap.size_push]; exact Nat.ne_of_lt (Nat.lt_succ_of_lt b0)⟩
      · cases r2 with
        | error e => exact h2
        | ok f2 =>
          cases f2 with
          | ret r =>
            obtain ⟨rfl, h', tk, rfl, dn⟩ := h2
            repeat (any_goals (first | assumption | wp_step))
            exact done h' tk dn
          | _ => exact h2.elim
    | _ => exact hr.elim
theorem set_of_txtsT {l : Addr} {us : List Value} {ks : List Str} {Q : Value → Shared → Prop} (hh : A.handled = none) (hl : s.heap.IsTuple l us.toArray) (hi : TxtsAre us ks) (room : ks.length + 1 < scanBound)
    (done : ∀ h' tk, TxtDone P w s ks h' → Q (.ref s.heap.objs.size) { s with heap := h', toks := tk }) : wpAny (model P w) A (PySem.call (.type "set") [.ref l]) Q E s := by
  have hz : us.toArray.size = ks.length := by rw [List.size_toArray, hi.len]
  obtain ⟨c0, t0, m0⟩ := PySem.F.called_set.mro
  have w1 := PySem.F.called_set.made; have w2 := PySem.F.called_set.sub
  refine wpAny_call (codeAny_of_tree ?_); show wpAny _ _ (callAny (.type "set") _) _ _ _
  refine wpAny_pure ⟨Code.quiet_builtin _ (by decide +kernel), codeAny_builtin PySem.F.entry_type_call ?_⟩; rw [Around.under_plain (PySem.weight_type_call_type "set" [.ref l] []) rfl]
  have w3 := PySem.F.called_set.notType; have w4 := PySem.F.called_set.canCreate; have w5 := PySem.F.typeCall_set_1 (.ref l)
  repeat (any_goals (first | assumption | wp_step))
  refine codeAny_mono (code_set_led1 (.ref l) (E := E) (Q₁ := fun v s1 => v = .ref s.heap.objs.size ∧ s1 = { s with heap := s.heap.push (emS w) }) ⟨rfl, rfl⟩) fun r s1 hr => ?_
  cases r with
  | error e => exact hr
  | ok fl =>
    cases fl with
    | ret v =>
      obtain ⟨rfl, rfl⟩ := hr
      have g0 : (s.heap.push (emS w)).get? s.heap.objs.size = some (emS w) := Heap.get?_push_size _ rfl
      have ty0 : Shared.TypeIs { s with heap := s.heap.push (emS w) } (.ref s.heap.objs.size) "set" := ⟨_, g0, rfl⟩
      have j1 := PySem.F.called_set.init.lookup; have j2 := PySem.F.called_set.init.bind (.ref s.heap.objs.size)
      repeat (any_goals (first | assumption | wp_step))
      refine codeAny_mono (codeAny_call_builtin (R := wants (fun r s2 => r = .none ∧ ∃ h' tk, s2 = { s with heap := h', toks := tk } ∧ TxtDone P w s ks h') E) PySem.F.called_set.init.plain PySem.F.entry_set_init (PySem.check_set_init_1 ty0 ?_)) fun r2 s2 h2 => ?_
      · obtain ⟨⟨oc, od, dt, sl⟩, hol, hcl, nl, hdl⟩ := id hl
        simp only at hcl hdl
        subst hcl hdl
        have gl : (s.heap.push (emS w)).get? l = some { cls := .type "tuple", dict := od, data := .seq us.toArray nl, slots := sl } := Heap.get?_push_of_some _ hol
        have l1 : (s.heap.push (emS w)).IsTuple l us.toArray := ⟨_, gl, rfl, nl, rfl⟩
        have v1 := PySem.F.sub_tuple_set; have v2 := PySem.F.sub_tuple_frozenset
        have v3 : (Value.type "tuple" == Value.type "dict") = false := by decide
        unfold Builtin.«set.__init__» noKeywords Builtin.Frozenset.updateFrom
        generalize hIt : pyIter = It
        wp_walk
        subst hIt
        refine wpAny_pyIter_tuple l1 ?_
        refine wpAny_bind (wpAny_runValue ?_)
        have lt : l < s.heap.objs.size := Heap.lt_size hol
        have hh3 : A.in1.in1.in1.handled = none := by simp [hh]
        have ne : l ≠ (s.heap.push (emS w)).objs.size := by rw [Heap.size_push]; exact Nat.ne_of_lt (Nat.lt_succ_of_lt lt)
        have off : s.heap.objs.size ∉ [(s.heap.push (emS w)).objs.size, l] := by
          rw [Heap.size_push]; simp only [List.mem_cons, List.mem_singleton, List.not_mem_nil, or_false, not_or]; exact ⟨Nat.ne_of_lt (Nat.lt_succ_self _), Nat.ne_of_gt lt⟩
        have val : ∀ (i : Nat) (v : Value), us.toArray[i]? = some v → ∃ k t, ks[i]? = some k ∧ v = .str k t := fun i v e => hi.at (by simpa using e)
        refine setS_loop ((Walks.tuple hh3 _ l ne us.toArray).toS) s.heap.objs.size off ks hz room val (us.toArray.size - 0) 0 _ (by omega) (Nat.zero_le _) ⟨⟨_, Heap.get?_push_size _ rfl, rfl, rfl⟩, l1.push _⟩ ?begin ?last
        case begin => exact setS_new (Heap.get?_push_of_some _ g0)
        case last =>
          intro s' mv hS
          obtain ⟨h', g2, d2, tk, o2⟩ := s'
          obtain rfl : g2 = s.gens := mv.gens
          obtain rfl : d2 = s.drawn := mv.drawn
          obtain rfl : o2 = s.os := mv.os
          show wpAny _ _ _ _ _ _
          refine wpAny_pure ?_; show wpAny _ _ (ret Value.none) _ _ _
          refine wpAny_pure ⟨rfl, h', tk, rfl, hS, fun b o e => ?_⟩
          have b0 : b < s.heap.objs.size := Heap.lt_size e
          refine mv.heap b o ?_ (Heap.get?_push_of_some _ (Heap.get?_push_of_some _ e))
          simp only [List.mem_cons, List.mem_singleton, List.not_mem_nil, or_false, not_or]
          exact ⟨Nat.ne_of_lt b0, by rw [Heap.size_push]; exact Nat.ne_of_lt (Nat.lt_succ_of_lt b0)⟩
      · cases r2 with
        | error e => exact h2
        | ok f2 =>
          cases f2 with
          | ret r =>
            obtain ⟨rfl, h', tk, rfl, dn⟩ := h2
            repeat (any_goals (first | assumption | wp_step))
            exact done h' tk dn
          | _ => exact h2.elim
    | _ => exact hr.elim
end
/-- a set of texts as a thing of the layer -/
def SetSO (P : Program) (w : World) (a : Addr) (l : List Str) : HO := .ext fun h => SetS P w h a l
theorem setSO_new {w : World} {P : Program} {H : Hp} {h : Heap} {a : Addr} {l : List Str} (R : SetS P w h a l) : ObjOk P w H h a (SetSO P w a l) := by
  have ⟨D, e, _⟩ := R
  exact ⟨R, ⟨_, e⟩, fun h1 h2 p k => SetS.keep p k⟩
section
variable {X : Cx} {κ : Kx} {as : List Addr} {pins : List (Addr × Obj)} {σ : L2.St} {H : Hp} {s : Shared}
/-- set(xs) -/
def rSetT (X : Cx) : List V → Hp → VK → Prop := fun vs H Q => ∃ (a : Addr) (ks : List Str), vs = [.ref a] ∧ (SqL X.K H a (ks.map V.str) ∨ SqT X.K H a (ks.map V.str)) ∧ ks.length + 1 < scanBound ∧ ∀ p : Addr, H p = none → Q (.ref p) (upd H p (SetSO X.prog X.w p (accT [] ks)))
theorem cr_setT (hc : X.calm = true) : CallR X (.type "set") (rSetT X) := by
  intro pins s σ H vs us Q I r h
  obtain ⟨a, ks, rfl, hs, hb, q⟩ := h
  obtain ⟨u, rfl, ru⟩ := vals1 r
  obtain rfl : u = Value.ref a := ru
  have fin : ∀ h' tk, TxtDone X.prog X.w s ks h' → EP X pins σ Q (.ref s.heap.objs.size) { s with heap := h', toks := tk } := fun h' tk ⟨hS, hk⟩ =>
    ⟨.ref _, _, I.laid (t' := tk) hk (Nat.le_refl _) (setSO_new hS), rfl, q _ (I.hok.fresh (Nat.le_refl _))⟩
  rcases hs with hs | hs
  · obtain ⟨its, rv, pl, _⟩ := I.list hs
    exact set_of_txts (I.ok.hd hc) pl.isList (vals_txts rv) hb fin
  · obtain ⟨its, rv, pl, _⟩ := I.tuple hs
    exact set_of_txtsT (I.ok.hd hc) pl (vals_txts rv) hb fin
/-- sorted of a set -/
def rSortT (X : Cx) (κ : Kx) : List V → Hp → VK → Prop := fun vs H Q => ∃ (as : List Addr) (a : Addr) (l : List Str), vs = [V.ref a] ∧ H a = some (SetSO X.prog X.w a l) ∧ l.length + 1 < scanBound ∧ (∀ k ∈ l, szOk k.cps.toList.length = true) ∧
  ∀ (p : Addr) (ks : List Str) (zs : List V), ks.Nodup → (∀ k, k ∈ ks ↔ k ∈ l) → H p = none → IsDs κ as H (sortD (ks.map dS)) zs → Q (.ref p) (upd H p (.lst zs))
theorem cr_sortT (hc : X.calm = true) (hu : X.A.units + 64 < cLine) : CallR X (.builtin "sorted") (rSortT X κ) := by
  intro pins s σ H vs us Q I r h
  obtain ⟨as, a, l, rfl, hS, room, hsz, q⟩ := h
  obtain ⟨u, rfl, ru⟩ := vals1 r
  obtain rfl : u = Value.ref a := ru
  obtain ⟨D, hA, ok, f⟩ := (I.hok a _ hS).1
  obtain ⟨es, ep, tb⟩ := D
  have hes : es.size = l.length := ok.sz
  have lt : es.size < scanBound := by omega
  refine Calls.call_function_entry PyProof.Rows.kind_sorted PyProof.Rows.plain_sorted PyProof.Rows.entry_sorted (PyProof.Rows.args_sorted1 _) ?_
  unfold Builtin.«sorted»
  refine wpAny_bind (m := checkCount "sorted" 1 1 _) (wpAny_pure ?_)
  refine wpAny_bind (collect_set (A := X.A.in1) (I.ok.hd hc) ⟨_, hA, rfl, rfl⟩ ok.fit lt f.rises f.ledger fun s1 vs old hz g1 o1 pm => ?_)
  have vlen : vs.length = l.length := by rw [pm.length_eq, List.length_map, Array.length_toList]; exact hes
  obtain ⟨ks, hT, pk⟩ : ∃ ks, TxtsAre vs ks ∧ ks.Perm (es.toList.map txK) := by
    have all : ∀ v ∈ vs, ∃ k t, v = Value.str k t := fun v hv => by
      obtain ⟨e, he, q⟩ := List.mem_map.mp (pm.mem_iff.mp hv)
      obtain ⟨k, t, z⟩ := f.txt e he
      exact ⟨k, t, by rw [← q]; exact z⟩
    have mk : ∀ {us : List Value}, (∀ v ∈ us, ∃ k t, v = Value.str k t) → TxtsAre us (us.map fun v => txK (0, v)) := by
      intro us
      induction us with
      | nil => exact fun _ => .nil
      | cons v us ih =>
        intro h
        obtain ⟨k, t, rfl⟩ := h v List.mem_cons_self
        exact .cons k t (ih fun x hx => h x (List.mem_cons_of_mem _ hx))
    refine ⟨_, mk all, ?_⟩
    have := pm.map fun v => txK (0, v)
    rw [List.map_map] at this
    exact this
  have small : vs.length ≤ sizeLine := by
    rw [vlen, sizeLine_eq]
    have : l.length + 1 < 4096 := room
    omega
  refine wpAny_bind (wpAny_newList ?_ small)
  have atL : (s1.heap.push (seqObj "list" vs.toArray 0)).get? s1.heap.objs.size = some (seqObj "list" vs.toArray 0) := Heap.get?_push_size _ rfl
  show wpAny _ _ _ _ _ { s1 with heap := s1.heap.push (seqObj "list" vs.toArray 0) }
  obtain ⟨x1, x2, x3⟩ := ordOk_alike (ordOk_dS ks)
  have er := (each_reads x1 (rdvs_txts (h := s1.heap) hT)).mono (R' := fun u d => ∃ as, Reads (sortingHeap (s1.heap.push (seqObj "list" vs.toArray 0)) s1.heap.objs.size vs) u (pdD d) as) fun _ _ ⟨as, r⟩ => ⟨as, PyProof.Rows.Reads.keeps (fun b o e => sortingHeap_old (Nat.ne_of_lt (Heap.lt_size e)) (Heap.get?_push_of_some _ e)) r⟩
  refine wpAny_bind (wpAny_holding (wpAny_call_entry PyProof.Rows.slot_list_sort ⟨_, atL, rfl⟩ PyProof.Rows.entry_list_sort
    (list_sort_vals (s := { s1 with heap := s1.heap.push (seqObj "list" vs.toArray 0) }) (A := X.A.in1.in1) atL (SortsAt.data (s := { s1 with heap := sortingHeap (s1.heap.push (seqObj "list" vs.toArray 0)) s1.heap.objs.size vs }) (each_map (R := fun v d => ∃ as, Reads (sortingHeap (s1.heap.push (seqObj "list" vs.toArray 0)) s1.heap.objs.size vs) v d as) pdD er) x2 x3 fun d hd' => ?_) small ⟨_, rfl, ?_⟩)
    (PyProof.Rows.args_list_sort _)))
  · obtain ⟨x, hx, rfl⟩ := List.mem_map.mp hd'
    have := depth_of (okDs_mem x1 x hx)
    show X.A.units + 1 + 1 + _ < cLine
    omega
  · have szs : ∀ k ∈ ks, szOk k.cps.toList.length = true := fun k hk => hsz k ((SetS.keys ok f k).mp (pk.mem_iff.mp hk))
    have eo := sortVals_data (R := fun u d => ∃ x, RelV x u ∧ IsD κ as H d x) (enc := pdD) false (each_in (isds_txts szs) (txts_vals hT)) er x2
    obtain ⟨zs, z1, z2⟩ := each_out eo
    obtain ⟨e', he'⟩ := PyProof.Rows.sortedHeap_at (vs := vs) (out := (sortVals (dataKind (sortingHeap (s1.heap.push (seqObj "list" vs.toArray 0)) s1.heap.objs.size vs) ((ks.map dS).map pdD)) false vs vs).toArray) atL
    have keep : ∀ b u, s.heap.get? b = some u → (sortedHeap (s1.heap.push (seqObj "list" vs.toArray 0)) s1.heap.objs.size vs (sortVals (dataKind (sortingHeap (s1.heap.push (seqObj "list" vs.toArray 0)) s1.heap.objs.size vs) ((ks.map dS).map pdD)) false vs vs).toArray).get? b = some u := fun b u e => by
      have hb := Heap.lt_size (old b u e)
      rw [PyProof.Rows.sortedHeap_old (Nat.ne_of_lt hb) (by rw [size_push']; exact Nat.lt_succ_of_lt hb)]
      exact Heap.get?_push_of_some _ (old b u e)
    have hn' : H s1.heap.objs.size = none := I.hok.fresh hz
    have hlz : zs.length ≤ sizeLine := by rw [z1.length, sortVals_length false rfl]; exact small
    have nd' : ks.Nodup := (pk.nodup_iff).mpr f.once
    have mem' : ∀ k, k ∈ ks ↔ k ∈ l := fun k => by rw [pk.mem_iff]; exact SetS.keys ok f k
    refine wpAny_pure ⟨_, rfl, .ref s1.heap.objs.size, upd H s1.heap.objs.size (.lst zs), ?_, rfl, q _ ks zs nd' mem' hn' z2⟩
    obtain ⟨hp1, gn1, dr1, tk1, os1⟩ := s1
    obtain rfl : gn1 = s.gens := g1
    obtain rfl : os1 = s.os := o1
    generalize hHP : sortedHeap _ _ vs _ = HP at keep he'
    have J : L2.Inv X pins σ (upd H hp1.objs.size (.lst zs)) { s with heap := HP, gens := s.gens, drawn := dr1, toks := tk1 } := I.call (ch := []) (Un.laid keep hz hn') (I.hok.laid keep hz (show ObjOk X.prog X.w _ _ _ (.lst zs) from ⟨hlz, _, e', z1, he'⟩)) I.bare fun _ z => nomatch z
    subst hHP
    exact J
end
end Ev
set_option maxHeartbeats 8000000
/-! Ev, part 15j: sorted(set(xs)) of numbers or of texts beside the text. -/
namespace Ev
open PySem PySem.Spec PyProof.Rows L2 PySem.W PySem.Calls
theorem all_ss : ∀ {xs : List D}, xs.all isS = true → ∃ zs : List Nm, xs = zs.map D.str
  | [], _ => ⟨[], rfl⟩
  | x :: xs, h => by
    rw [List.all_cons, Bool.and_eq_true] at h
    obtain ⟨zs, rfl⟩ := all_ss h.2
    cases x with
    | str i => exact ⟨i :: zs, rfl⟩
    | _ => exact absurd h.1 (by simp [isS])
theorem isds_ss {κ : Kx} {as : List Addr} {H : Hp} : ∀ {zs : List Nm} {vs : List V}, IsDs κ as H (zs.map D.str) vs → vs = (zs.map tx).map V.str ∧ ∀ z ∈ zs, szOk z.length = true
  | [], [], _ => ⟨rfl, fun _ h => by cases h⟩
  | z :: zs, v :: vs, h => by
    obtain ⟨e, hz⟩ := isds_ss (zs := zs) (vs := vs) h.2
    obtain ⟨e1, e2⟩ := h.1
    refine ⟨by rw [e, e1]; rfl, fun x hx => ?_⟩
    rcases List.mem_cons.mp hx with q | q
    · rw [q]; exact e2
    · exact hz x q
  | [], _ :: _, h => h.elim
  | _ :: _, [], h => h.elim
theorem sle_str {a b : Nm} : dataLe false pdD (.str a) (.str b) = !decide (b < a) := by
  have h : ∀ x y : Nm, PyProof.Rows.strKind.blt x y = decide (x < y) := fun x y => by first | rfl | (simp [PyProof.Rows.strKind])
  show (!(PyProof.Rows.lexLt itemOrd [.inr b] [.inr a])) = _
  rw [PyProof.Rows.lex_cons]
  show (!(PyProof.Rows.strKind.blt b a || (!PyProof.Rows.strKind.blt a b && false))) = _
  rw [h, h, Bool.and_false, Bool.or_false]
theorem sorted_ss (ns : List Nm) : ∃ zs : List Nm, sortD (ns.map D.str) = zs.map D.str ∧ zs.Perm ns ∧ zs.Pairwise fun a b => ¬ b < a := by
  refine ⟨ns.mergeSort fun a b => dataLe false pdD (.str a) (.str b), (List.map_mergeSort (f := D.str) (s := dataLe false pdD) (r := fun a b => dataLe false pdD (.str a) (.str b)) (l := ns) fun _ _ _ _ => rfl).symm, List.mergeSort_perm .., ?_⟩
  have := List.pairwise_mergeSort (le := fun a b : Nm => dataLe false pdD (.str a) (.str b)) (fun a b c h1 h2 => tra' _ _ _ h1 h2) (fun a b => by simpa using tot' (.str a) (.str b)) ns
  refine this.imp fun {a b} h => ?_
  rw [sle_str] at h
  simpa using h
theorem sortS_eq {ks ms : List Nm} (h1 : ks.Nodup) (h2 : ms.Nodup) (h : ∀ k, k ∈ ks ↔ k ∈ ms) : sortD (ks.map D.str) = sortD (ms.map D.str) := by
  obtain ⟨a, e1, p1, o1⟩ := sorted_ss ks
  obtain ⟨b, e2, p2, o2⟩ := sorted_ss ms
  have p : a.Perm b := p1.trans (((List.perm_ext_iff_of_nodup h1 h2).mpr h).trans p2.symm)
  rw [e1, e2, p.eq_of_pairwise (fun x y _ _ h1 h2 => List.le_antisymm h1 h2) o1 o2]
def dedupS : List Nm → List Nm
  | [] => []
  | x :: r => if r.any (fun y => y == x) = true then dedupS r else x :: dedupS r
theorem dedup_ss : ∀ ns : List Nm, dedup (ns.map D.str) = (dedupS ns).map D.str
  | [] => rfl
  | n :: ns => by
    have e : ((ns.map D.str).any fun y => eqv y (D.str n)) = ns.any fun y => y == n := by rw [List.any_map]; rfl
    show (if ((ns.map D.str).any fun y => eqv y (D.str n)) = true then dedup (ns.map D.str) else D.str n :: dedup (ns.map D.str)) = _
    rw [e, dedup_ss ns, dedupS]
    split <;> rfl
theorem dedupS_mem : ∀ {ns : List Nm} {k : Nm}, k ∈ dedupS ns ↔ k ∈ ns
  | [], k => Iff.rfl
  | n :: ns, k => by
    have ih := dedupS_mem (ns := ns) (k := k)
    rw [dedupS]
    split
    · rename_i q
      obtain ⟨y, hy, e⟩ := List.any_eq_true.mp q
      have e := eq_of_beq e
      subst e
      rw [ih, List.mem_cons]
      exact ⟨.inr, fun h => h.elim (fun e => by rw [e]; exact hy) id⟩
    · rw [List.mem_cons, List.mem_cons, ih]
theorem dedupS_nd : ∀ ns : List Nm, (dedupS ns).Nodup
  | [] => List.nodup_nil
  | n :: ns => by
    rw [dedupS]
    split
    · exact dedupS_nd ns
    · rename_i q
      refine List.nodup_cons.mpr ⟨fun h => q (List.any_eq_true.mpr ⟨n, dedupS_mem.mp h, by simp⟩), dedupS_nd ns⟩
theorem cr_or {X : Cx} {f : Value} {r1 r2 : List V → Hp → VK → Prop} (h1 : CallR X f r1) (h2 : CallR X f r2) : CallR X f (fun vs H Q => r1 vs H Q ∨ r2 vs H Q) := by
  intro pins s σ H vs us Q I r h
  rcases h with h | h
  · exact h1 pins s σ H vs us Q I r h
  · exact h2 pins s σ H vs us Q I r h
section
variable {X : Cx} {sc : SC} {κ : Kx} {Φ : Fn} {Wx : L2.WX} {a : Expr} {ma : MW} {pos : Pos}
theorem pn_sortSet (ok : CxOk X sc κ Φ) {p p2 pos2 : Pos} (hg : glB sc "sorted" = true) (hg2 : glB sc "set" = true) (hs : nostar a = true) (ha : PE X a (rdW κ Wx ma)) :
    PE X (.Call (.Name "sorted" p) [.Call (.Name "set" p2) [a] [] pos2] [] pos) (rdN κ Wx fun ρ S => (ma ρ S).bind fun x S1 => (R.of S1 (itemsD (x.vw S1))).bind fun xs S1 => R.chk ((xs.all isI || xs.all isS) && decide (xs.length < 4000)) (.ok (.lst (sortD (dedup xs))) S1)) := by
  have inner := pe_callTy (T := "set") (cr_or (cr_setI ok.calm) (cr_setT ok.calm)) (ok.gl hg2) (ok.blt "set" (by decide)) (by decide +kernel) (pa_cons ha pa_nil (star_cons hs)) (by decide +kernel) (by decide +kernel) (star_cons hs) rfl (p := p2) (pos := pos2)
  refine PE.imp (pe_callB (id := "sorted") (cr_or (cr_sortS (κ := κ) ok.hw ok.calm ok.un) (cr_sortT (κ := κ) ok.calm ok.un)) (ok.gl hg) (ok.blt "sorted" (by decide)) (by decide +kernel) (pa_cons inner pa_nil (star_cons (by rfl))) (by decide +kernel) (by decide +kernel) (star_cons (by rfl)) rfl) fun σ H Q ⟨as, H0, ρ, S, rs, hS, w⟩ => ?_
  refine rdW.mk rs hS w.of_bind fun x S1 as1 H1 v w1 st1 r1 hS1 => ?_
  obtain ⟨xs, e, k⟩ := Out.of_of w1.of_bind
  obtain ⟨o, k⟩ := Out.of_chk k
  obtain ⟨o1, o2⟩ := ba2 o
  have o2 := of_decide_eq_true o2
  rw [Bool.or_eq_true] at o1
  rcases o1 with o1 | o1
  · obtain ⟨ns, rfl⟩ := all_is o1
    obtain ⟨q, vs, rfl, hq, hd⟩ := items_of ok.hκ (r1.vw hS1) e
    obtain rfl := isds_ints hd
    rw [List.length_map] at o2
    refine .inl ⟨q, ns, rfl, hq, by show ns.length + 1 < 4096; omega, fun p' c hp => .inl ⟨as1, p', _, c, rfl, by rw [ok.hw]; exact upd_same, fun p3 ks zs nd mem hp3 z => ?_⟩⟩
    have es : sortD (ks.map D.int) = sortD (dedup (ns.map D.int)) := by
      rw [dedup_is]
      refine sorted_eq nd (dedupI_nd ns) fun k => ?_
      rw [mem, dedupI_mem]
      simp
    rw [es] at z
    exact kN.lst ((kN.on st1 k).on (Step.new hp)) (hS1.new hp) z p3 hp3
  · obtain ⟨ts, rfl⟩ := all_ss o1
    obtain ⟨q, vs, rfl, hq, hd⟩ := items_of ok.hκ (r1.vw hS1) e
    obtain ⟨rfl, hz⟩ := isds_ss hd
    rw [List.length_map] at o2
    have sub : ∀ k ∈ accT [] (ts.map tx), ∃ z ∈ ts, k = tx z := fun k hk => by
      rcases accT_mem.mp hk with h | h
      · cases h
      · obtain ⟨z, h1, h2⟩ := List.mem_map.mp h
        exact ⟨z, h1, h2.symm⟩
    have len := accT_len (ks := ts.map tx) (l := [])
    rw [List.length_map, List.length_nil] at len
    refine .inr ⟨q, ts.map tx, rfl, hq, by show (ts.map tx).length + 1 < 4096; rw [List.length_map]; omega, fun p' hp => .inr ⟨as1, p', _, rfl, upd_same, by show (accT [] (ts.map tx)).length + 1 < 4096; omega, fun k hk => ?_, fun p3 ks zs nd mem hp3 z => ?_⟩⟩
    · obtain ⟨z, h1, rfl⟩ := sub k hk
      rw [tx_list]
      exact hz z h1
    · have es : sortD (ks.map dS) = sortD (dedup (ts.map D.str)) := by
        rw [dedup_ss]
        have e1 : ks.map dS = (ks.map fun k => k.cps.toList).map D.str := by rw [List.map_map]; rfl
        rw [e1]
        refine sortS_eq ?_ (dedupS_nd ts) fun k => ?_
        · refine (List.pairwise_map).mpr (nd.imp fun {a b} h e => h ?_)
          rw [← tx_cps (k := a), ← tx_cps (k := b), e]
        · rw [dedupS_mem, List.mem_map]
          constructor
          · rintro ⟨x, hx, rfl⟩
            obtain ⟨z, h1, rfl⟩ := sub x ((mem x).mp hx)
            rw [tx_list]; exact h1
          · intro hk
            refine ⟨tx k, (mem _).mpr (accT_mem.mpr (.inr (List.mem_map.mpr ⟨k, hk, rfl⟩))), tx_list k⟩
      rw [es] at z
      exact kN.lst ((kN.on st1 k).on (Step.new hp)) (hS1.new hp) z p3 hp3
end
end Ev
set_option maxHeartbeats 4000000
/-! Ev, part 16: the little language beside the text. -/
namespace Ev
open PySem PySem.Spec PyProof.Rows L2

mutual
def beqD : D → D → Bool
  | .non, .non => true
  | .bl a, .bl b => a == b
  | .int a, .int b => a == b
  | .str a, .str b => a == b
  | .fn a, .fn b => a == b
  | .tup xs, .tup ys => beqDs xs ys
  | .kdic xs, .kdic ys => beqZs xs ys
  | _, _ => false
def beqDs : List D → List D → Bool
  | [], [] => true
  | x :: xs, y :: ys => beqD x y && beqDs xs ys
  | _, _ => false
def beqZs : List (Nm × D) → List (Nm × D) → Bool
  | [], [] => true
  | (a, x) :: xs, (b, y) :: ys => a == b && (beqD x y && beqZs xs ys)
  | _, _ => false
end
mutual
theorem beqD_ok : ∀ {a b : D}, beqD a b = true → a = b
  | .non, b, h => by cases b <;> first | rfl | cases h
  | .bl x, b, h => by
    cases b with
    | bl y => rw [beqD] at h; rw [eq_of_beq h]
    | _ => cases h
  | .int x, b, h => by
    cases b with
    | int y => rw [beqD] at h; rw [eq_of_beq h]
    | _ => cases h
  | .str x, b, h => by
    cases b with
    | str y => rw [beqD] at h; rw [eq_of_beq h]
    | _ => cases h
  | .fn x, b, h => by
    cases b with
    | fn y => rw [beqD] at h; rw [eq_of_beq h]
    | _ => cases h
  | .tup xs, b, h => by
    cases b with
    | tup ys => rw [beqD] at h; rw [beqDs_ok h]
    | _ => cases h
  | .kdic xs, b, h => by
    cases b with
    | kdic ys => rw [beqD] at h; rw [beqZs_ok h]
    | _ => cases h
  | .ref _, b, h => by cases b <;> cases h
  | .lst _, b, h => by cases b <;> cases h
  | .scr _, b, h => by cases b <;> cases h
  | .dic _, b, h => by cases b <;> cases h
  | .obj _ _, b, h => by cases b <;> cases h
  | .exc _ _, b, h => by cases b <;> cases h
theorem beqDs_ok : ∀ {a b : List D}, beqDs a b = true → a = b
  | [], [], _ => rfl
  | [], _ :: _, h => by simp [beqDs] at h
  | _ :: _, [], h => by simp [beqDs] at h
  | x :: xs, y :: ys, h => by
    rw [beqDs] at h
    obtain ⟨h1, h2⟩ := ba2 h
    rw [beqD_ok h1, beqDs_ok h2]
theorem beqZs_ok : ∀ {a b : List (Nm × D)}, beqZs a b = true → a = b
  | [], [], _ => rfl
  | [], _ :: _, h => by simp [beqZs] at h
  | (_, _) :: _, [], h => by simp [beqZs] at h
  | (a, x) :: xs, (b, y) :: ys, h => by
    rw [beqZs] at h
    obtain ⟨h0, h⟩ := ba2 h
    obtain ⟨h1, h2⟩ := ba2 h
    rw [eq_of_beq h0, beqD_ok h1, beqZs_ok h2]
end
def opB : Bop → Operator → Bool
  | .add, .Add => true
  | .sub, .Sub => true
  | .mul, .Mult => true
  | .fdv, .FloorDiv => true
  | .mod, .Mod => true
  | .pow, .Pow => true
  | .shr, .RShift => true
  | .band, .BitAnd => true
  | _, _ => false
def copB : Cop → CmpOp → Bool
  | .eq, .Eq => true
  | .ne, .NotEq => true
  | .lt, .Lt => true
  | .le, .LtE => true
  | .gt, .Gt => true
  | .ge, .GtE => true
  | .is, .Is => true
  | .isn, .IsNot => true
  | .inn, .In => true
  | .nin, .NotIn => true
  | .ned, .NotEq => true
  | _, _ => false
theorem opB_ok {o : Bop} {op : Operator} (h : opB o op = true) : op = bopE o := by
  cases o <;> cases op <;> first | rfl | cases h
theorem copB_ok {o : Cop} {op : CmpOp} (h : copB o op = true) : op = copE o := by
  cases o <;> cases op <;> first | rfl | cases h
def chkC : D → Expr → Bool
  | .non, .Constant .none _ _ => true
  | .bl a, .Constant (.bool b) _ _ => a == b
  | .int i, .Constant (.int j) _ _ => i == j
  | .str s, .Constant (.str x) _ _ => decide (x = tx s) && szOk s.length
  | _, _ => false
/-- a comprehension's own names -/
def ownOf (tg : List Nat) (xs : List Expr) : Option (List (Str × Nat)) := match tg, xs with
  | [], [] => some []
  | i :: is, .Name x _ :: r => (ownOf is r).map ((x, i) :: ·)
  | _, _ => none
def tgOf (e : Expr) : Option (Bool × List Expr) := match e with
  | .Name x p => some (false, [.Name x p])
  | .Tuple es _ _ => some (true, es)
  | _ => none
def relN (nm : List (Str × NameKind)) (scope : Scope) : List (Str × NameKind) := scope.names.map fun (n, k) => if (k == .free && nm.lookup n == some .cell) then (n, .cell) else (n, k)
def SC.blk (sc : SC) (scope : Scope) : SC := { sc with nm := relN sc.nm scope, cl := (scope.names.filter fun p => p.2 == .cell).map (·.1) }
/-- the scope as blkC takes it -/
def SC.scope (sc : SC) : Scope := { kind := .function, names := sc.nm, isGenerator := false, isCoroutine := false, more := [] }
def tgB (sc : SC) (own : List (Str × Nat)) : Bool := own.all fun p => decide (sc.N[p.2]? = some p.1) && locB sc p.1
def notSet : Expr → Bool
  | .Set _ _ _ => false
  | _ => true
/-- a zip, an enumerate: only to several names -/
def tgI (k : Sk) (t : Expr) : Bool := match k, t with
  | .zip, .Tuple _ _ _ => true
  | .enum, .Tuple _ _ _ => true
  | .zip, _ => false
  | .enum, _ => false
  | _, _ => true
/-- what may be asked by its value's truth -/
def truE : Expr → Bool
  | .Name _ _ => true
  | .Call _ _ _ _ => true
  | .Subscript _ _ _ => true
  | .Attribute _ _ _ => true
  | .BinOp _ _ _ _ => true
  | _ => false
def tstE : Expr → Bool
  | .BoolOp _ _ _ => true
  | .UnaryOp .Not _ _ => true
  | .Compare _ _ _ _ => true
  | e => truE e
def isMinO : Blt → Bool
  | .minO => true
  | _ => false

/-- is this the number of the class's method -/
def metB (sc : SC) (c m : String) (j : Nat) : Bool := sc.ci.any fun i => i.c == c && i.ms.any fun p => p.1 == m && p.2 == j
def makB (sc : SC) (c : String) (j : Nat) : Bool := sc.ci.any fun i => i.c == c && i.ini == some j
theorem metB_ok {sc : SC} {c m : String} {j : Nat} (h : metB sc c m j = true) : ∃ i ∈ sc.ci, i.c = c ∧ (m, j) ∈ i.ms := by
  obtain ⟨i, hi, e⟩ := List.any_eq_true.mp h
  obtain ⟨e1, e2⟩ := ba2 e
  obtain ⟨p, hp, e3⟩ := List.any_eq_true.mp e2
  obtain ⟨e4, e5⟩ := ba2 e3
  obtain ⟨p1, p2⟩ := p
  have e4 : p1 = m := eq_of_beq e4
  have e5 : p2 = j := eq_of_beq e5
  subst e4 e5
  exact ⟨i, hi, eq_of_beq e1, hp⟩
theorem makB_ok {sc : SC} {c : String} {j : Nat} (h : makB sc c j = true) : ∃ i ∈ sc.ci, i.c = c ∧ i.ini = some j := by
  obtain ⟨i, hi, e⟩ := List.any_eq_true.mp h
  obtain ⟨e1, e2⟩ := ba2 e
  exact ⟨i, hi, eq_of_beq e1, eq_of_beq e2⟩
mutual
def chkE (sc : SC) : Ex → Expr → Bool
  | .var i, .Name x _ => decide (sc.N[i]? = some x) && (visB sc x && !odd x)
  | .cst c, e => chkC c e
  | .glo x d, .Name y _ => decide (y = Str.ofString x) && (glB sc y && (!odd y && sc.cs.any fun p => p.1 == x && beqD p.2 d))
  | .bin o a b, .BinOp x op y _ => opB o op && (chkE sc a x && chkE sc b y)
  | .neg a, .UnaryOp .USub x _ => chkE sc a x
  | .cmp o a b, .Compare x [op] [y] _ => (copB o op && !behindInMarks op y) && (chkE sc a x && chkE sc b y)
  | .chn o o' a b c, .Compare x [op, op'] [y, z] _ => ((copB o op && copB o' op') && !lastMarks [op, op'] [y, z]) && (chkE sc a x && (chkE sc b y && chkE sc c z))
  | .bop true es, .BoolOp .And xs _ => decide (2 ≤ xs.length) && chkB sc es xs
  | .bop false es, .BoolOp .Or xs _ => decide (2 ≤ xs.length) && chkB sc es xs
  | .not a, .UnaryOp .Not x _ => tstE x && chkE sc a x
  | .ife c a b, .IfExp x y z _ => (tstE x && chkE sc c x) && (chkE sc a y && chkE sc b z)
  | .tup es, .Tuple xs _ _ => decide (es.length ≤ 1000) && chkEs sc es xs
  | .idx a i, .Subscript x y _ => plainIx y && (chkE sc a x && chkE sc i y)
  | .slc a lo hi, .Subscript x (.Slice l u none _) _ => chkE sc a x && (chkO sc lo l && chkO sc hi u)
  | .rev a, .Subscript x (.Slice none none (some (.UnaryOp .USub (.Constant (.int 1) _ _) _)) _) _ => chkE sc a x
  | .call f es, .Call (.Name x _) xs [] _ => decide (sc.fns.lookup f = some x) && (glB sc x && (!odd x && chkEs sc es xs))
  | .blt .minO [a], .Call (.Name x _) [y] [] _ => decide (x = Str.ofString "min") && (glB sc x && (nostar y && chkE sc a y))
  | .blt b es, .Call (.Name x _) xs [] _ => (decide (x = Str.ofString (bltN b)) && !isMinO b) && (glB sc x && (!xs.isEmpty && chkEs sc es xs))
  | .isi a [T], .Call (.Name f _) [x, .Name t _] [] _ => (decide (f = Str.ofString "isinstance") && (decide (t = Str.ofString T) && (tyNames.contains T || erB sc T))) && ((glB sc f && glB sc t) && (nostar x && chkE sc a x))
  | .isi a cs, .Call (.Name f _) [x, .Tuple es _ _] [] _ => (decide (f = Str.ofString "isinstance") && (erNs sc cs es && decide (es.length ≤ 1000))) && (glB sc f && (nostar x && chkE sc a x))
  | .join a b, .Call (.Attribute x m apos) [y] [] pos => (decide (m = Str.ofString "join") && (attrOk x && apos.endLine == pos.line)) && (nostar y && (chkE sc a x && chkE sc b y))
  | .mth .upper a [], .Call (.Attribute x m apos) [] [] pos => (decide (m = Str.ofString "upper") && (attrOk x && apos.endLine == pos.line)) && chkE sc a x
  | .mth .get a [b], .Call (.Attribute x m apos) [y] [] pos => (decide (m = Str.ofString "get") && (attrOk x && apos.endLine == pos.line)) && (nostar y && (chkE sc a x && chkE sc b y))
  | .mth .get a [b, c], .Call (.Attribute x m apos) [y, z] [] pos => (decide (m = Str.ofString "get") && (attrOk x && apos.endLine == pos.line)) && ((nostar y && nostar z) && (chkE sc a x && (chkE sc b y && chkE sc c z)))
  | .mth .index a [b], .Call (.Attribute x m apos) [y] [] pos => (decide (m = Str.ofString "index") && (attrOk x && apos.endLine == pos.line)) && (nostar y && (chkE sc a x && chkE sc b y))
  | .att a f cs, .Attribute x m _ => (decide (m = Str.ofString f) && (attrOk x && attB sc f cs)) && chkE sc a x
  | .meth c m j a es, .Call (.Attribute x mm apos) xs [] pos => (decide (mm = Str.ofString m) && (attrOk x && apos.endLine == pos.line)) && ((metB sc c m j && decide (xs.length < 29)) && (chkE sc a x && chkEs sc es xs))
  | .mut .append a [b], .Call (.Attribute x m apos) [y] [] pos => (decide (m = Str.ofString "append") && (attrOk x && apos.endLine == pos.line)) && (nostar y && (chkE sc a x && chkE sc b y))
  | .mut .extend a [b], .Call (.Attribute x m apos) [y] [] pos => (decide (m = Str.ofString "extend") && (attrOk x && apos.endLine == pos.line)) && (nostar y && (chkE sc a x && chkE sc b y))
  | .frz n, x => chkN sc n x
  | .cel n, x => chkN sc n x
  | _, _ => false
def chkEs (sc : SC) : List Ex → List Expr → Bool
  | [], [] => true
  | a :: as, x :: xs => nostar x && (chkE sc a x && chkEs sc as xs)
  | _, _ => false
/-- the parts of and, or -/
def chkB (sc : SC) : List Ex → List Expr → Bool
  | [], [] => true
  | a :: as, x :: xs => tstE x && (chkE sc a x && chkB sc as xs)
  | _, _ => false
def chkO (sc : SC) : List Ex → Option Expr → Bool
  | [], none => true
  | [a], some x => chkE sc a x
  | _, _ => false
def chkI (sc : SC) (k : Sk) : List Ex → Expr → Bool
  | [a], e => (match k, e with
    | .seq, e => chkE sc a e
    | .range, .Call (.Name x _) [y] [] _ => decide (x = Str.ofString "range") && (glB sc x && (nostar y && chkE sc a y))
    | .enum, .Call (.Name x _) [y] [] _ => decide (x = Str.ofString "enumerate") && (glB sc x && (nostar y && chkE sc a y))
    | _, _ => false)
  | [a, b], e => (match k, e with
    | .range, .Call (.Name x _) [y, z] [] _ => decide (x = Str.ofString "range") && (glB sc x && ((nostar y && nostar z) && (chkE sc a y && chkE sc b z)))
    | .zip, .Call (.Name x _) [y, z] [] _ => decide (x = Str.ofString "zip") && (glB sc x && ((nostar y && nostar z) && (chkE sc a y && chkE sc b z)))
    | _, _ => false)
  | _, _ => false
def chkN (sc : SC) : Nw → Expr → Bool
  | .lst es, .List xs _ => decide (es.length ≤ 1000) && chkEs sc es xs
  | .dic [], .Dict [] [] _ => true
  | .dic es, .Dict keys vals _ => (decide (keys.length ≤ 15) && !keys.isEmpty) && chkP sc es keys vals
  | .cat a b, .BinOp x .Add y _ => chkE sc a x && chkE sc b y
  | .rep a b, .BinOp x .Mult y _ => chkE sc a x && chkE sc b y
  | .slc a lo hi, .Subscript x (.Slice l u none _) _ => chkE sc a x && (chkO sc lo l && chkO sc hi u)
  | .rev a, .Subscript x (.Slice none none (some (.UnaryOp .USub (.Constant (.int 1) _ _) _)) _) _ => chkE sc a x
  | .list a, .Call (.Name x _) [y] [] _ => decide (x = Str.ofString "list") && (glB sc x && (nostar y && chkE sc a y))
  | .range [a], .Call (.Name x _) [.Call (.Name z _) [y] [] _] [] _ => (decide (x = Str.ofString "list") && decide (z = Str.ofString "range")) && ((glB sc x && glB sc z) && (nostar y && chkE sc a y))
  | .sortBy f a, .Call (.Name x _) [y] [⟨some kw, .Name g _, _⟩] _ => (decide (x = Str.ofString "sorted") && decide (kw = Str.ofString "key")) && ((decide (sc.fns.lookup f = some g) && (glB sc g && !odd g)) && (glB sc x && (nostar y && chkE sc a y)))
  | .sortSet a, .Call (.Name x _) [.Call (.Name z _) [y] [] _] [] _ => (decide (x = Str.ofString "sorted") && decide (z = Str.ofString "set")) && ((glB sc x && glB sc z) && (nostar y && chkE sc a y))
  | .sorted a, .Call (.Name x _) [y] [] _ => decide (x = Str.ofString "sorted") && (glB sc x && (nostar y && chkE sc a y))
  | .dict a, .Call (.Name x _) [y] [] _ => decide (x = Str.ofString "dict") && (glB sc x && (nostar y && chkE sc a y))
  | .call f es, .Call (.Name x _) xs [] _ => decide (sc.fns.lookup f = some x) && (glB sc x && (!odd x && chkEs sc es xs))
  | .make c j es, .Call (.Name x _) xs [] _ => (decide (x = Str.ofString c) && makB sc c j) && (glB sc x && (!odd x && chkEs sc es xs))
  | .comp tg k src cond elt, .ListComp e [⟨t, it, ifs, 0⟩] scope _ => (match tgOf t with
    | none => false
    | some (tp, ts) => (match ownOf tg ts with
      | none => false
      | some own => ((tp == decide (tg.length ≠ 1)) && (notSet it && tgI k t)) && (blkC sc.N sc.scope scope own && (tgB (sc.blk scope) own && (chkI sc k src it && (chkB (sc.blk scope) cond ifs && (decide (cond.length ≤ 1) && chkE (sc.blk scope) elt e)))))))
  | _, _ => false
def chkP (sc : SC) : List Ex → List (Option Expr) → List Expr → Bool
  | [], [], [] => true
  | a :: b :: es, some k :: ks, v :: vs => chkE sc a k && (chkE sc b v && chkP sc es ks vs)
  | _, _, _ => false
end
end Ev
set_option maxHeartbeats 4000000
/-! Ev, part 17: what the check accepts does what its reading says. -/
namespace Ev
open PySem PySem.Spec PyProof.Rows L2
section
variable {X : Cx} {sc : SC} {κ : Kx} {Φ : Fn} {Wx : L2.WX} {pos : Pos}
theorem stars_of : ∀ {es : List Ex} {xs : List Expr}, chkEs sc es xs = true → ∀ e ∈ xs, nostar e = true
  | [], [], _, e, he => by simp at he
  | [], _ :: _, h, _, _ => by cases h
  | _ :: _, [], h, _, _ => by cases h
  | a :: as, x :: xs, h, e, he => by
    have h : (nostar x && (chkE sc a x && chkEs sc as xs)) = true := h
    obtain ⟨h1, h2⟩ := ba2 h
    obtain ⟨h2, h3⟩ := ba2 h2
    rcases List.mem_cons.mp he with rfl | he
    · exact h1
    · exact stars_of h3 e he
theorem es_len : ∀ {es : List Ex} {ρ : Env} {S S' : Sto} {ds : List D}, evEs Φ ρ es S = .ok ds S' → ds.length = es.length
  | [], ρ, S, S', ds, h => by
    rw [evEs] at h
    injection h with h _
    subst h
    rfl
  | e :: es, ρ, S, S', ds, h => by
    rw [evEs] at h
    obtain ⟨d, S1, h1, h2⟩ := bind_ok h
    obtain ⟨r, S2, h3, h4⟩ := bind_ok h2
    injection h4 with h4 _
    rw [← h4, List.length_cons, List.length_cons, es_len h3]
theorem ws_len : ∀ {es : List Ex} {ρ : Env} {S S' : Sto} {ds : List W}, evWs Φ ρ es S = .ok ds S' → ds.length = es.length
  | [], ρ, S, S', ds, h => by
    rw [evWs] at h
    injection h with h _
    subst h
    rfl
  | e :: es, ρ, S, S', ds, h => by
    rw [evWs] at h
    obtain ⟨d, S1, h1, h2⟩ := bind_ok h
    obtain ⟨r, S2, h3, h4⟩ := bind_ok h2
    injection h4 with h4 _
    rw [← h4, List.length_cons, List.length_cons, ws_len h3]
/-- a built-in function -/
theorem bltT : ∀ b : Blt, isMinO b = false → (bltN b ∈ bltNames ∧ bootBuiltins (Str.ofString (bltN b)) = some (bltV b)) ∧ (Str.ofString (bltN b) ≠ "__name__" ∧ (Str.ofString (bltN b) == ("__debug__" : Str)) = false)
  | .len, _ => by decide +kernel
  | .sum, _ => by decide +kernel
  | .min, _ => by decide +kernel
  | .max, _ => by decide +kernel
  | .minO, h => by cases h
  | .any, _ => by decide +kernel
  | .all, _ => by decide +kernel
  | .int, _ => by decide +kernel
  | .str, _ => by decide +kernel
  | .abs, _ => by decide +kernel
  | .divmod, _ => by decide +kernel
  | .tup, _ => by decide +kernel
theorem bltD_S {b : Blt} {xs : List D} {S : Sto} {k : D → Sto → Prop} {ke : D → Sto → Prop} (h : Out (bltD b xs S) k ke) : Out (bltD b xs S) (fun r S' => S' = S ∧ k r S') ke := by
  have go : ∀ r : R D, (∀ b S', r = .ok b S' → S' = S) → Out r k ke → Out r (fun r S' => S' = S ∧ k r S') ke := fun r e h => by
    cases r with
    | ok b S' => exact ⟨e b S' rfl, h⟩
    | exc e S' => exact h
    | bad => exact h
  refine go _ ?_ h
  intro d S' e
  have of : ∀ {o : Option D}, R.of S o = .ok d S' → S' = S := fun {o} e => by
    cases o with
    | none => cases e
    | some a => injection e with _ e; exact e.symm
  have ck : ∀ {b : Bool} {a : D}, R.chk b (.ok a S) = .ok d S' → S' = S := fun {b a} e => by
    unfold R.chk at e
    split at e
    · injection e with _ e; exact e.symm
    · cases e
  unfold bltD at e
  split at e
  · unfold blt1 at e
    (repeat' split at e) <;> first | exact of e | exact ck e | (injection e with _ e; exact e.symm) | cases e
  · unfold blt2 at e
    (repeat' split at e) <;> first | exact of e | exact ck e | (injection e with _ e; exact e.symm) | cases e
  · cases e
theorem pd_blt (ok : CxOk X sc κ Φ) {b : Blt} {x : Str} {xs : List Expr} {p : Pos} {ms : Env → Sto → R (List W)} (hx : x = Str.ofString (bltN b)) (hb : isMinO b = false) (hg : glB sc x = true) (hn : xs ≠ []) (hs : ∀ e ∈ xs, nostar e = true) (hp : PA X xs (rdWs κ Wx ms)) :
    PE X (.Call (.Name x p) xs [] pos) (rdW κ Wx fun ρ S => (ms ρ S).bind fun ws S1 => (bltD b (ws.map (W.vw S1)) S1).w) := by
  subst hx
  obtain ⟨⟨h1, h2⟩, h3, h4⟩ := bltT b hb
  have nb : b ≠ .minO := fun z => by rw [z] at hb; cases hb
  have rd : ∀ σ H Q, rdW κ Wx (fun ρ S => (ms ρ S).bind fun ws S1 => (bltD b (ws.map (W.vw S1)) S1).w) σ H Q → tCB (rBlt κ b) (rdWs κ Wx ms) σ H Q := fun σ H Q ⟨as, H0, ρ, S, rs, hS, w⟩ => by
    refine rdWs.mk rs hS w.of_bind fun ws S1 as1 H1 vs w1 st1 r1 hS1 => ?_
    have e := bltD_S w1.of_w
    exact ⟨as1, S1, _, _, hS1, IsEs.vs hS1 r1, nb, e.imp (fun d S2 z => by obtain ⟨rfl, z⟩ := z; exact kD.on st1 z) fun _ _ z => z⟩
  cases xs with
  | nil => exact absurd rfl hn
  | cons a xs =>
    have hc := cr_blt ok.hκ ok.calm b
    have s1 := star_cons (es := xs) (env := X.env) (hs a List.mem_cons_self)
    have s2 := star_back (pos := pos) (env := X.env) fun e he => hs e (List.mem_cons_of_mem _ he)
    cases b <;> first
      | exact PE.imp (pe_callTy hc (ok.gl hg) (ok.blt _ h1) h2 hp h3 h4 s1 s2) rd
      | exact PE.imp (pe_callB hc (ok.gl hg) (ok.blt _ h1) h2 hp h3 h4 s1 s2) rd
end
end Ev
set_option maxHeartbeats 4000000
/-! Ev, part 18: a comprehension's block. -/
namespace Ev
open PySem PySem.Spec PyProof.Rows L2
section
variable {X : Cx} {sc : SC} {κ : Kx} {Φ : Fn} {Wx : L2.WX} {pos : Pos}
theorem CxOk.relab (ok : CxOk X sc κ Φ) (scope : Scope) : (relabel scope X.env).names = relN sc.nm scope := by
  unfold relabel relN
  have hk : (X.env.scope.kind == ScopeKind.function) = true := by rw [ok.kind]; rfl
  have hn : ∀ n, X.env.kindOf n = sc.nm.lookup n := fun n => by unfold Env.kindOf; rw [ok.nm]
  show scope.names.map _ = scope.names.map _
  apply List.map_congr_left
  intro p hp
  obtain ⟨n, k⟩ := p
  simp only [hk, hn, Bool.and_true]
theorem lookup_rel {nm : List (Str × NameKind)} {x : Str} : ∀ {l : List (Str × NameKind)}, (l.map fun (n, k) => if (k == .free && nm.lookup n == some .cell) then (n, NameKind.cell) else (n, k)).lookup x = some .local → l.lookup x = some .local
  | [], h => by cases h
  | (n, k) :: r, h => by
    rw [List.map_cons] at h
    by_cases c : (k == .free && nm.lookup n == some .cell) = true
    · simp only [if_pos c] at h
      by_cases z : (x == n) = true
      · rw [List.lookup_cons, z] at h
        cases h
      · have z : (x == n) = false := by simpa using z
        rw [List.lookup_cons, z] at h
        rw [List.lookup_cons, z]
        exact lookup_rel h
    · simp only [if_neg c] at h
      by_cases z : (x == n) = true
      · rw [List.lookup_cons, z] at h ⊢
        exact h
      · have z : (x == n) = false := by simpa using z
        rw [List.lookup_cons, z] at h ⊢
        exact lookup_rel h
theorem CxOk.blk (ok : CxOk X sc κ Φ) {scope : Scope} {own : List (Str × Nat)} (h : blkC sc.N sc.scope scope own = true) (s : Shared) (H : Hp) (C : Addr) (cl : List (Str × Addr)) (fp : List Addr) :
    CxOk (X.blk s H scope (compEnvC scope cl C X.env) fp) (sc.blk scope) κ Φ := by
  have bo := blkOk_by h
  refine ⟨ok.hκ, ok.hw, ok.N, ok.nd, ok.relab scope, bo.kind, ok.calm, ok.un, fun x hx => ?_, ok.blt, fun f x e => ⟨(ok.fns f x e).ex⟩, ok.cs, fun i hi => let z := ok.ci i hi; ⟨z.mg, z.cls, z.noat, z.meth, z.maker⟩⟩
  unfold locB at hx
  split at hx
  · rename_i e
    right
    show (relabel scope X.env).names.lookup x = _
    rw [ok.relab]
    exact e
  · left
    have e : (sc.blk scope).cl = (scope.names.filter fun p => p.2 == .cell).map (·.1) := rfl
    rw [e] at hx
    have m := List.contains_iff_mem.mp hx
    obtain ⟨p, hp, hpx⟩ := List.mem_map.mp m
    obtain ⟨h1, h2⟩ := List.mem_filter.mp hp
    have := bo.uniq p h1
    have h3 : p.2 = .cell := by simpa using h2
    rw [hpx, h3] at this
    show (scope.names.lookup x == some .cell) = true
    rw [this]
    rfl
  · cases hx
theorem CxOk.blkB (ok : CxOk X sc κ Φ) {scope : Scope} {own : List (Str × Nat)} (h : blkC sc.N sc.scope scope own = true) : BlkOk X.N X.env.scope scope own := by
  have bo := blkOk_by h
  refine ⟨bo.kind, bo.uniq, by rw [ok.N]; exact bo.ix, fun y hy e => ?_, by rw [ok.N]; exact bo.own⟩
  rw [ok.nm]
  exact bo.free y hy e
/-- the names of a target -/
theorem own_pgs (ok : CxOk X sc κ Φ) : ∀ {tg : List Nat} {ts : List Expr} {own : List (Str × Nat)}, ownOf tg ts = some own → tgB sc own = true → own.map (·.2) = tg ∧ ((∀ i ∈ tg, i < X.N.length) ∧ (PGs X ts (gConsN tg) ∧ ((assignEach ts X.env).length = tg.length ∧ (assignEach ts X.env).findIdx? (·.1) = none)))
  | [], [], own, h, _ => by
    cases h
    exact ⟨rfl, fun i hi => by simp at hi, pgs_nil, rfl, rfl⟩
  | [], _ :: _, own, h, _ => by cases h
  | i :: is, [], own, h, _ => by cases h
  | i :: is, t :: ts, own, h, hb => by
    cases t with
    | Name x p =>
      have h : (ownOf is ts).map ((x, i) :: ·) = some own := h
      obtain ⟨r, h1, h2⟩ := Option.map_eq_some_iff.mp h
      subst h2
      have hb' : ((decide (sc.N[i]? = some x) && locB sc x) && tgB sc r) = true := hb
      obtain ⟨hb1, hb2⟩ := ba2 hb'
      obtain ⟨hb1, hb3⟩ := ba2 hb1
      have hi := of_decide_eq_true hb1
      obtain ⟨k1, k2, k3, k4, k5⟩ := own_pgs ok h1 hb2
      refine ⟨by rw [List.map_cons, k1], fun j hj => ?_, pgs_cons (pg_name ok.nd (by rw [ok.N]; exact hi) (ok.loc hb3) (ok.fn x hb3)) k3 rfl, ?_, ?_⟩
      · rcases List.mem_cons.mp hj with rfl | hj
        · rw [ok.N]; exact (List.getElem?_eq_some_iff.mp hi).1
        · exact k2 j hj
      · show (assignEach ts X.env).length + 1 = _
        rw [k4]
        rfl
      · show List.findIdx? _ ((false, _) :: assignEach ts X.env) = none
        rw [List.findIdx?_cons, k5]
        rfl
    | _ => cases h
theorem own_pg (ok : CxOk X sc κ Φ) {tg : List Nat} {t : Expr} {ts : List Expr} {tp : Bool} {own : List (Str × Nat)} (ht : tgOf t = some (tp, ts)) (h : ownOf tg ts = some own) (hb : tgB sc own = true) (hp : tp = decide (tg.length ≠ 1)) : PG X t (gT κ.K tg) := by
  obtain ⟨k1, k2, k3, k4, k5⟩ := own_pgs ok h hb
  cases t with
  | Name x p =>
    cases ht
    match tg, h with
    | [i], h =>
      cases h
      have hb' : ((decide (sc.N[i]? = some x) && locB sc x) && true) = true := hb
      obtain ⟨hb1, _⟩ := ba2 hb'
      obtain ⟨hb1, hb3⟩ := ba2 hb1
      exact pg_name ok.nd (by rw [ok.N]; exact of_decide_eq_true hb1) (ok.loc hb3) (ok.fn x hb3)
    | i :: j :: r, h => cases h
  | Tuple es n p =>
    cases ht
    have hl : tg.length ≠ 1 := of_decide_eq_true hp.symm
    have base : PG X (.Tuple ts n p) (gTup X.K tg.length (gConsN tg)) := pg_tup ok.calm k3 k4 k5
    rw [ok.hκ]
    match tg, hl, base with
    | [], _, base => exact base
    | [i], hl, _ => exact absurd rfl hl
    | i :: j :: r, _, base => exact base
  | _ => cases ht
theorem notSet_ok {e : Expr} {env : PySem.Env} (h : notSet e = true) : ∀ x, foldedSetIterable e env x = pure x := fun x => by
  cases e <;> first | rfl | cases h
end
end Ev
set_option maxHeartbeats 4000000
/-! Ev, part 19: what the check of expressions accepts does what the evaluator says. -/
namespace Ev
open PySem PySem.Spec PyProof.Rows L2
noncomputable abbrev vE (Φ : Fn) (e : Ex) : MW := fun ρ S => evW Φ ρ e S
def MoE (κ : Kx) (Φ : Fn) (sc : SC) (e : Ex) (x : Expr) : Prop := ∀ X Wx, CxOk X sc κ Φ → Takes X Wx → chkE sc e x = true →
  PE X x (rdW κ Wx (vE Φ e)) ∧ (tstE x = true → PT X x (rdT κ Wx fun ρ S => (evW Φ ρ e S).t))
def MoN (κ : Kx) (Φ : Fn) (sc : SC) (n : Nw) (x : Expr) : Prop := ∀ X Wx, CxOk X sc κ Φ → Takes X Wx → chkN sc n x = true → PE X x (rdN κ Wx fun ρ S => evN Φ ρ n S)
def MoB (κ : Kx) (Φ : Fn) (sc : SC) (es : List Ex) (xs : List Expr) : Prop := ∀ X Wx, CxOk X sc κ Φ → Takes X Wx → chkB sc es xs = true →
  (∀ isAnd pos, xs ≠ [] → PE X (.BoolOp (bopO isAnd) xs pos) (rdW κ Wx (vsB isAnd (es.map (vE Φ)))) ∧ PW X (.BoolOp (bopO isAnd) xs pos) (rdT κ Wx (tsB isAnd (es.map (vE Φ))))) ∧
  (es.length ≤ 1 → PTs X xs (rdT κ Wx fun ρ S => evC Φ ρ es S)) ∧ es.length = xs.length
def MoI (κ : Kx) (Φ : Fn) (sc : SC) (k : Sk) (es : List Ex) (x : Expr) : Prop := ∀ X Wx, CxOk X sc κ Φ → Takes X Wx → chkI sc k es x = true → ∀ tg, tgI k tg = true → PI X tg x (rdI κ Wx k fun ρ S => evWs Φ ρ es S)
def MoO (κ : Kx) (Φ : Fn) (sc : SC) (es : List Ex) (x : Option Expr) : Prop := ∀ X Wx, CxOk X sc κ Φ → Takes X Wx → chkO sc es x = true → PO X x (rdO κ Wx fun ρ S => (evEs Φ ρ es S).bind fun l S2 => R.of S2 (partD l))
def MoA (κ : Kx) (Φ : Fn) (sc : SC) (es : List Ex) (xs : List Expr) : Prop := ∀ X Wx, CxOk X sc κ Φ → Takes X Wx → chkEs sc es xs = true →
  (PA X xs (rdDs κ Wx fun ρ S => evEs Φ ρ es S) ∧ PA X xs (rdWs κ Wx fun ρ S => evWs Φ ρ es S)) ∧ es.length = xs.length
def MoP (κ : Kx) (Φ : Fn) (sc : SC) (es : List Ex) (ks : List (Option Expr)) (vs : List Expr) : Prop := ∀ X Wx, CxOk X sc κ Φ → Takes X Wx → chkP sc es ks vs = true →
  ∃ ps : List (MW × MW), (∀ pos, PPs X pos ks vs (trsOf κ Wx ps)) ∧ (∀ ρ S, evEs Φ ρ es S = evP ps ρ S) ∧ (ps.length = ks.length ∧ (ks.all (·.isSome) = true ∧ ks.length = vs.length))
section
variable {X : Cx} {sc : SC} {κ : Kx} {Φ : Fn} {Wx : L2.WX}
theorem evB_vsB {isAnd : Bool} : ∀ {es : List Ex} {ρ : Env} {S : Sto}, evB Φ ρ isAnd es S = vsB isAnd (es.map (vE Φ)) ρ S
  | [], ρ, S => by rw [evB]; rfl
  | [e], ρ, S => by rw [evB]; rfl
  | e :: e2 :: es, ρ, S => by
    rw [evB]
    show (evW Φ ρ e S).d.bind _ = (evW Φ ρ e S).d.bind _
    congr 1
    funext x S1
    congr 1
    funext b S2
    rw [evB_vsB (es := e2 :: es)]
theorem tsB_evB {isAnd : Bool} {es : List Ex} {σ : L2.St} {H : Hp} {Q : Bool → Hp → Prop} (h : rdT κ Wx (fun ρ S => (evW Φ ρ (.bop isAnd es) S).t) σ H Q) : rdT κ Wx (tsB isAnd (es.map (vE Φ))) σ H Q := by
  obtain ⟨as, H0, ρ, S, rs, hS, w⟩ := h
  refine ⟨as, H0, ρ, S, rs, hS, ts_of_vs ?_⟩
  rw [← evB_vsB]
  exact w
theorem pd_callA (ok : CxOk X sc κ Φ) (tk : Takes X Wx) {f : Nat} {x : Str} {es : List Ex} {xs : List Expr} {p pos : Pos} (hf : sc.fns.lookup f = some x) (hg : glB sc x = true) (ho : odd x = false) (hc : chkEs sc es xs = true) (hp : PA X xs (rdDs κ Wx fun ρ S => evEs Φ ρ es S)) :
    PE X (.Call (.Name x p) xs [] pos) (rdC κ Wx fun ρ S => (evEs Φ ρ es S).bind fun ds S1 => Φ f ds S1) := by
  cases xs with
  | nil =>
    cases es with
    | nil => exact pd_call0 ok tk hf hg ho
    | cons _ _ => cases hc
  | cons x xs => exact pd_call ok tk hf hg ho (stars_of hc) hp
theorem no2 {p q : Prop} {b : Bool} (h : false = true) : p := by cases h
theorem evWs_nil : (fun (ρ : Env) S => evWs Φ ρ [] S) = fun _ S => .ok [] S := by funext ρ S; rw [evWs]
theorem evEs_nil : (fun (ρ : Env) S => evEs Φ ρ [] S) = fun _ S => .ok [] S := by funext ρ S; rw [evEs]
theorem evWs_cons {a : Ex} {as : List Ex} : (fun (ρ : Env) S => evWs Φ ρ (a :: as) S) = fun ρ S => (evW Φ ρ a S).bind fun d S1 => (evWs Φ ρ as S1).bind fun ds S2 => .ok (d :: ds) S2 := by funext ρ S; rw [evWs]
theorem evEs_cons {a : Ex} {as : List Ex} : (fun (ρ : Env) S => evEs Φ ρ (a :: as) S) = fun ρ S => (evW Φ ρ a S).d.bind fun d S1 => (evEs Φ ρ as S1).bind fun ds S2 => .ok (d :: ds) S2 := by funext ρ S; rw [evEs]
theorem evWs_one {a : Ex} : (fun (ρ : Env) S => evWs Φ ρ [a] S) = fun ρ S => (evW Φ ρ a S).bind fun d S1 => (R.ok (α := List W) [] S1).bind fun ds S2 => .ok (d :: ds) S2 := by funext ρ S; rw [evWs]; simp only [evWs]
theorem evEs_one {a : Ex} : (fun (ρ : Env) S => evEs Φ ρ [a] S) = fun ρ S => (evW Φ ρ a S).d.bind fun d S1 => (R.ok (α := List D) [] S1).bind fun ds S2 => .ok (d :: ds) S2 := by funext ρ S; rw [evEs]; simp only [evEs]
theorem pt_frm (ok : CxOk X sc κ Φ) {e : Ex} {x : Expr} {n : Nw} (hn : chkN sc n x = true) (p : PE X x (rdW κ Wx (vE Φ e))) (ht : tstE x = true) : PT X x (rdT κ Wx fun ρ S => (evW Φ ρ e S).t) := by
  cases x with
  | UnaryOp op a p => cases op <;> first | (cases ht; done) | (cases n with
    | dic es => cases es <;> cases hn
    | range es => rcases es with _ | ⟨_, _ | ⟨_, _⟩⟩ <;> cases hn
    | _ => cases hn)
  | BoolOp _ _ _ => cases n with
    | dic es => cases es <;> cases hn
    | range es => rcases es with _ | ⟨_, _ | ⟨_, _⟩⟩ <;> cases hn
    | _ => cases hn
  | Compare _ _ _ _ => cases n with
    | dic es => cases es <;> cases hn
    | range es => rcases es with _ | ⟨_, _ | ⟨_, _⟩⟩ <;> cases hn
    | _ => cases hn
  | Name _ _ => exact pt_of ok p fun _ => rfl
  | Call _ _ _ _ => exact pt_of ok p fun _ => rfl
  | Subscript _ _ _ => exact pt_of ok p fun _ => rfl
  | Attribute _ _ _ => exact pt_of ok p fun _ => rfl
  | BinOp _ _ _ _ => exact pt_of ok p fun _ => rfl
  | _ => cases ht
theorem chk_all (κ : Kx) (Φ : Fn) : ((∀ sc e x, MoE κ Φ sc e x) ∧ (∀ sc n x, MoN κ Φ sc n x)) ∧ ((∀ sc es xs, MoB κ Φ sc es xs) ∧ (∀ sc k es x, MoI κ Φ sc k es x)) ∧ ((∀ sc es x, MoO κ Φ sc es x) ∧ (∀ sc es xs, MoA κ Φ sc es xs)) := by
  refine (fun h => ⟨⟨h.1, h.2.1⟩, ⟨h.2.2.1, h.2.2.2.1⟩, ⟨h.2.2.2.2.1, h.2.2.2.2.2.2⟩⟩) (chkE.mutual_induct (motive_1 := MoE κ Φ) (motive_2 := MoN κ Φ) (motive_3 := MoB κ Φ) (motive_4 := MoI κ Φ) (motive_5 := MoO κ Φ) (motive_6 := MoP κ Φ) (motive_7 := MoA κ Φ) ?_ ?_ ?_ ?_ ?_ ?_ ?_ ?_ ?_ ?_ ?_ ?_ ?_ ?_ ?_ ?_ ?_ ?_ ?_ ?_ ?_ ?_ ?_ ?_ ?_ ?_ ?_ ?_ ?_ ?_ ?_ ?_ ?_ ?_ ?_ ?_ ?_ ?_ ?_ ?_ ?_ ?_ ?_ ?_ ?_ ?_ ?_ ?_ ?_ ?_ ?_ ?_ ?_ ?_ ?_ ?_ ?_ ?_ ?_ ?_ ?_ ?_ ?_ ?_ ?_ ?_ ?_ ?_ ?_ ?_ ?_)
  · -- var
    intro sc i x pos X Wx ok tk h
    obtain ⟨h1, h2⟩ := ba2 h
    obtain ⟨h2, h3⟩ := ba2 h2
    have p : PE X (.Name x pos) (rdW κ Wx (vE Φ (.var i))) := pd_var ok (of_decide_eq_true h1) h2 (by simpa using h3)
    exact ⟨p, fun _ => pt_of ok p fun _ => rfl⟩
  · -- cst
    intro sc c e X Wx ok tk h
    have h : chkC c e = true := h
    cases e with
    | Constant k kd pos =>
      refine ⟨?_, fun z => by cases z⟩
      cases c with
      | non =>
        cases k with
        | none => exact pd_const pe_non fun _ _ => rfl
        | _ => cases h
      | bl a =>
        cases k with
        | bool b =>
          have z : a = b := eq_of_beq h
          subst z
          exact pd_const pe_bl fun _ _ => rfl
        | _ => cases h
      | int a =>
        cases k with
        | int b =>
          have z : a = b := eq_of_beq h
          subst z
          exact pd_const pe_int fun _ _ => rfl
        | _ => cases h
      | str a =>
        cases k with
        | str b =>
          obtain ⟨z1, z2⟩ := ba2 h
          have z : b = tx a := of_decide_eq_true z1
          subst z
          exact pd_const pe_str fun _ _ => ⟨rfl, z2⟩
        | _ => cases h
      | _ => cases k <;> cases h
    | _ => cases c <;> cases h
  · -- glo
    intro sc x d y pos X Wx ok tk h
    obtain ⟨h1, hx⟩ := ba2 h
    obtain ⟨h2, hy⟩ := ba2 hx
    obtain ⟨h3, h4⟩ := ba2 hy
    have h7 := of_decide_eq_true h1
    subst h7
    obtain ⟨q, hq, h5⟩ := List.any_eq_true.mp h4
    obtain ⟨h5, h6⟩ := ba2 h5
    obtain ⟨q1, q2⟩ := q
    have h3 : odd (Str.ofString x) = false := by simpa using h3
    have e1 : q1 = x := eq_of_beq h5
    have e2 := beqD_ok h6
    subst e1
    have e2 : q2 = d := e2
    have ne : isExc q2 = false := by cases q2 <;> first | rfl | cases h6
    subst e2
    obtain ⟨u, v, m, r, hd⟩ := ok.cs.v _ _ hq ne
    have p : PE X (.Name (Str.ofString q1) pos) (rdW κ Wx (vE Φ (.glo q1 q2))) := pd_const (pe_glob (ok.gl h2) m r (odd_db h3)) hd
    exact ⟨p, fun _ => pt_of ok p fun _ => rfl⟩
  · -- bin
    intro sc o a b x op y pos ia ib X Wx ok tk h
    obtain ⟨h1, h2⟩ := ba2 h
    obtain ⟨h2, h3⟩ := ba2 h2
    have h1 := opB_ok h1
    subst h1
    have p : PE X (.BinOp x (bopE o) y pos) (rdW κ Wx (vE Φ (.bin o a b))) := pd_bin ok (ia X Wx ok tk h2).1 (ib X Wx ok tk h3).1
    exact ⟨p, fun _ => pt_of ok p fun _ => rfl⟩
  · -- neg
    intro sc a x pos ia X Wx ok tk h
    have h : chkE sc a x = true := h
    exact ⟨pd_neg (ia X Wx ok tk h).1, fun z => by cases z⟩
  · -- cmp
    intro sc o a b x op y pos ia ib X Wx ok tk h
    obtain ⟨h1, h2⟩ := ba2 h
    obtain ⟨h1, h4⟩ := ba2 h1
    obtain ⟨h2, h3⟩ := ba2 h2
    have h1 := copB_ok h1
    subst h1
    have ha := (ia X Wx ok tk h2).1
    have hb := (ib X Wx ok tk h3).1
    exact ⟨pd_cmp ok ha hb (by simpa using h4), fun _ => pt_cmp ok ha hb (by simpa using h4)⟩
  · -- chn
    intro sc o o' a b c x op op' y z pos ia ib ic X Wx ok tk h
    obtain ⟨h1, h2⟩ := ba2 h
    obtain ⟨h1, h4⟩ := ba2 h1
    obtain ⟨h1, h5⟩ := ba2 h1
    obtain ⟨h2, h3⟩ := ba2 h2
    obtain ⟨h3, h6⟩ := ba2 h3
    have h1 := copB_ok h1
    have h5 := copB_ok h5
    subst h1 h5
    have ha := (ia X Wx ok tk h2).1
    have hb := (ib X Wx ok tk h3).1
    have hc := (ic X Wx ok tk h6).1
    exact ⟨pd_chn ok ha hb hc (by simpa using h4), fun _ => pt_chn ok ha hb hc (by simpa using h4)⟩
  · -- and
    intro sc es xs pos i X Wx ok tk h
    obtain ⟨h1, h2⟩ := ba2 h
    have h1 := of_decide_eq_true h1
    obtain ⟨k1, _⟩ := i X Wx ok tk h2
    obtain ⟨p, q⟩ := k1 true pos (by rintro rfl; simp at h1)
    have e : vE Φ (.bop true es) = vsB true (es.map (vE Φ)) := by funext ρ S; exact evB_vsB
    exact ⟨by rw [e]; exact p, fun _ => PT.imp q.pt fun σ H Q z => tsB_evB z⟩
  · -- or
    intro sc es xs pos i X Wx ok tk h
    obtain ⟨h1, h2⟩ := ba2 h
    have h1 := of_decide_eq_true h1
    obtain ⟨k1, _⟩ := i X Wx ok tk h2
    obtain ⟨p, q⟩ := k1 false pos (by rintro rfl; simp at h1)
    have e : vE Φ (.bop false es) = vsB false (es.map (vE Φ)) := by funext ρ S; exact evB_vsB
    exact ⟨by rw [e]; exact p, fun _ => PT.imp q.pt fun σ H Q z => tsB_evB z⟩
  · -- not
    intro sc a x pos ia X Wx ok tk h
    obtain ⟨h1, h2⟩ := ba2 h
    obtain ⟨p, q⟩ := ia X Wx ok tk h2
    exact ⟨pd_not ok p, fun _ => pt_not (q h1)⟩
  · -- ife
    intro sc c a b x y z pos ic ia ib X Wx ok tk h
    obtain ⟨h1, h2⟩ := ba2 h
    obtain ⟨h1, h3⟩ := ba2 h1
    obtain ⟨h2, h4⟩ := ba2 h2
    exact ⟨pd_ife ((ic X Wx ok tk h3).2 h1) (ia X Wx ok tk h2).1 (ib X Wx ok tk h4).1, fun z => by cases z⟩
  · -- tup
    intro sc es xs k pos i X Wx ok tk h
    obtain ⟨h1, h2⟩ := ba2 h
    have h1 := of_decide_eq_true h1
    exact ⟨pd_tup (i X Wx ok tk h2).1.1 fun ρ S ds S' e => by rw [es_len e]; exact h1, fun z => by cases z⟩
  · -- idx
    intro sc a i x y pos ia ii X Wx ok tk h
    obtain ⟨h1, h2⟩ := ba2 h
    obtain ⟨h2, h3⟩ := ba2 h2
    have p : PE X (.Subscript x y pos) (rdW κ Wx (vE Φ (.idx a i))) := pd_idx ok h1 (ia X Wx ok tk h2).1 (ii X Wx ok tk h3).1
    exact ⟨p, fun _ => pt_of ok p fun _ => rfl⟩
  · -- slc
    intro sc a lo hi x l u p2 pos ia il iu X Wx ok tk h
    obtain ⟨h1, h2⟩ := ba2 h
    obtain ⟨h2, h3⟩ := ba2 h2
    have p : PE X (.Subscript x (.Slice l u none p2) pos) (rdW κ Wx (vE Φ (.slc a lo hi))) := pd_slc ok (ia X Wx ok tk h1).1 (il X Wx ok tk h2) (iu X Wx ok tk h3)
    exact ⟨p, fun _ => pt_of ok p fun _ => rfl⟩
  · -- rev
    intro sc a x k p1 p2 p3 pos ia X Wx ok tk h
    have h : chkE sc a x = true := h
    have p : PE X (.Subscript x (.Slice none none (some (.UnaryOp .USub (.Constant (.int 1) k p1) p2)) p3) pos) (rdW κ Wx (vE Φ (.rev a))) := pd_rev ok (ia X Wx ok tk h).1
    exact ⟨p, fun _ => pt_of ok p fun _ => rfl⟩
  · -- call
    intro sc f es x p1 xs pos i X Wx ok tk h
    obtain ⟨h1, h2⟩ := ba2 h
    obtain ⟨h2, h3⟩ := ba2 h2
    obtain ⟨h3, h4⟩ := ba2 h3
    have h1 := of_decide_eq_true h1
    have p : PE X (.Call (.Name x p1) xs [] pos) (rdW κ Wx (vE Φ (.call f es))) := by
      have e : vE Φ (.call f es) = fun ρ S => ((evEs Φ ρ es S).bind fun ds S1 => Φ f ds S1).d.w := by
        funext ρ S
        show evW Φ ρ (.call f es) S = _
        rw [evW]
        cases evEs Φ ρ es S <;> rfl
      rw [e]
      exact pd_ofC (pd_callA ok tk h1 h2 (by simpa using h3) h4 (i X Wx ok tk h4).1.1)
    exact ⟨p, fun _ => pt_of ok p fun _ => rfl⟩
  · -- min
    intro sc a x p1 y pos ia X Wx ok tk h
    obtain ⟨h1, h2⟩ := ba2 h
    obtain ⟨h2, h3⟩ := ba2 h2
    obtain ⟨h3, h4⟩ := ba2 h3
    have h1 := of_decide_eq_true h1
    subst h1
    have p : PE X (.Call (.Name "min" p1) [y] [] pos) (rdW κ Wx (vE Φ (.blt .minO [a]))) := by
      have e : vE Φ (.blt .minO [a]) = fun ρ S => ((evW Φ ρ a S).bind fun d S1 => (R.ok (α := List W) [] S1).bind fun ds S2 => .ok (d :: ds) S2).bind fun ws S1 => (bltD .minO (ws.map (W.vw S1)) S1).w := by
        funext ρ S
        show evW Φ ρ (.blt .minO [a]) S = _
        rw [evW, congrFun (congrFun evWs_one ρ) S]
      rw [e]
      exact pd_min ok h2 h3 (ia X Wx ok tk h4).1
    exact ⟨p, fun _ => pt_of ok p fun _ => rfl⟩
  · -- blt
    intro sc b es x p1 xs pos nm i X Wx ok tk h
    have h : ((decide (x = Str.ofString (bltN b)) && !isMinO b) && (glB sc x && (!xs.isEmpty && chkEs sc es xs))) = true := by rw [chkE] at h <;> first | exact h | assumption
    obtain ⟨h1, h2⟩ := ba2 h
    obtain ⟨h1, h5⟩ := ba2 h1
    obtain ⟨h2, h3⟩ := ba2 h2
    obtain ⟨h3, h4⟩ := ba2 h3
    have h1 := of_decide_eq_true h1
    have p : PE X (.Call (.Name x p1) xs [] pos) (rdW κ Wx (vE Φ (.blt b es))) := pd_blt ok h1 (by simpa using h5) h2 (by rintro rfl; cases h3) (stars_of h4) (i X Wx ok tk h4).1.2
    exact ⟨p, fun _ => pt_of ok p fun _ => rfl⟩
  · -- isi
    intro sc a T f p1 x t p2 pos ia X Wx ok tk h
    obtain ⟨ha, hb⟩ := ba2 h
    obtain ⟨hc, hd⟩ := ba2 ha
    obtain ⟨he, h6⟩ := ba2 hd
    obtain ⟨hf, hg⟩ := ba2 hb
    obtain ⟨h2, h7⟩ := ba2 hf
    obtain ⟨h3, h4⟩ := ba2 hg
    have h1 := of_decide_eq_true hc
    have h5 := of_decide_eq_true he
    subst h1 h5
    have p : PE X (.Call (.Name "isinstance" p1) [x, .Name (Str.ofString T) p2] [] pos) (rdW κ Wx (vE Φ (.isi a [T]))) := by
      rcases Bool.or_eq_true_iff.mp h6 with h6 | h6
      · exact pd_isi ok (List.contains_iff_mem.mp h6) h2 h7 h3 (ia X Wx ok tk h4).1
      · exact isx_one ok h6 h2 h3 (ia X Wx ok tk h4).1
    exact ⟨p, fun _ => pt_of ok p fun _ => rfl⟩
  · -- isi, of one of some classes of errors
    intro sc a cs f p1 x es k p2 pos ia X Wx ok tk h
    obtain ⟨ha, hb⟩ := ba2 (show ((decide (f = Str.ofString "isinstance") && (erNs sc cs es && decide (es.length ≤ 1000))) && (glB sc f && (nostar x && chkE sc a x))) = true by rw [chkE] at h <;> exact h)
    obtain ⟨h1, h2⟩ := ba2 ha
    obtain ⟨h2, h3⟩ := ba2 h2
    obtain ⟨h4, h5⟩ := ba2 hb
    obtain ⟨h5, h6⟩ := ba2 h5
    have h1 := of_decide_eq_true h1
    subst h1
    have p : PE X (.Call (.Name "isinstance" p1) [x, .Tuple es k p2] [] pos) (rdW κ Wx (vE Φ (.isi a cs))) := isx_all ok h2 (of_decide_eq_true h3) h4 h5 (ia X Wx ok tk h6).1
    exact ⟨p, fun _ => pt_of ok p fun _ => rfl⟩
  · -- join
    intro sc a b x m apos y pos ia ib X Wx ok tk h
    obtain ⟨h1, h2⟩ := ba2 h
    obtain ⟨h1, h5⟩ := ba2 h1
    obtain ⟨h5, h6⟩ := ba2 h5
    obtain ⟨h2, h3⟩ := ba2 h2
    obtain ⟨h3, h4⟩ := ba2 h3
    have h1 := of_decide_eq_true h1
    subst h1
    have p : PE X (.Call (.Attribute x "join" apos) [y] [] pos) (rdW κ Wx (vE Φ (.join a b))) := pd_join ok h2 (attrBase' h5) h6 (ia X Wx ok tk h3).1 (ib X Wx ok tk h4).1
    exact ⟨p, fun _ => pt_of ok p fun _ => rfl⟩
  · -- upper
    intro sc a x m apos pos ia X Wx ok tk h
    obtain ⟨h1, h2⟩ := ba2 h
    obtain ⟨h1, h5⟩ := ba2 h1
    obtain ⟨h5, h6⟩ := ba2 h5
    have h1 := of_decide_eq_true h1
    subst h1
    have p : PE X (.Call (.Attribute x "upper" apos) [] [] pos) (rdW κ Wx (vE Φ (.mth .upper a []))) := pd_upper ok (attrBase' h5) h6 (ia X Wx ok tk h2).1
    exact ⟨p, fun _ => pt_of ok p fun _ => rfl⟩
  · -- get
    intro sc a b x m apos y pos ia ib X Wx ok tk h
    obtain ⟨h1, h2⟩ := ba2 h
    obtain ⟨h1, h5⟩ := ba2 h1
    obtain ⟨h5, h6⟩ := ba2 h5
    obtain ⟨h2, h3⟩ := ba2 h2
    obtain ⟨h3, h4⟩ := ba2 h3
    have h1 := of_decide_eq_true h1
    subst h1
    have p : PE X (.Call (.Attribute x "get" apos) [y] [] pos) (rdW κ Wx (vE Φ (.mth .get a [b]))) := pd_get1 ok h2 (attrBase' h5) h6 (ia X Wx ok tk h3).1 (ib X Wx ok tk h4).1
    exact ⟨p, fun _ => pt_of ok p fun _ => rfl⟩
  · -- get with a default
    intro sc a b c x m apos y z pos ia ib ic X Wx ok tk h
    obtain ⟨h1, h2⟩ := ba2 h
    obtain ⟨h1, h5⟩ := ba2 h1
    obtain ⟨h5, h6⟩ := ba2 h5
    obtain ⟨h2, h3⟩ := ba2 h2
    obtain ⟨h2, h7⟩ := ba2 h2
    obtain ⟨h3, h4⟩ := ba2 h3
    obtain ⟨h4, h8⟩ := ba2 h4
    have h1 := of_decide_eq_true h1
    subst h1
    have p : PE X (.Call (.Attribute x "get" apos) [y, z] [] pos) (rdW κ Wx (vE Φ (.mth .get a [b, c]))) := pd_get2 ok h2 h7 (attrBase' h5) h6 (ia X Wx ok tk h3).1 (ib X Wx ok tk h4).1 (ic X Wx ok tk h8).1
    exact ⟨p, fun _ => pt_of ok p fun _ => rfl⟩
  · -- index
    intro sc a b x m apos y pos ia ib X Wx ok tk h
    obtain ⟨h1, h2⟩ := ba2 h
    obtain ⟨h1, h5⟩ := ba2 h1
    obtain ⟨h5, h6⟩ := ba2 h5
    obtain ⟨h2, h3⟩ := ba2 h2
    obtain ⟨h3, h4⟩ := ba2 h3
    have h1 := of_decide_eq_true h1
    subst h1
    have p : PE X (.Call (.Attribute x "index" apos) [y] [] pos) (rdW κ Wx (vE Φ (.mth .index a [b]))) := pd_index ok h2 (attrBase' h5) h6 (ia X Wx ok tk h3).1 (ib X Wx ok tk h4).1
    exact ⟨p, fun _ => pt_of ok p fun _ => rfl⟩
  · -- att
    intro sc a f cs x m pos ia X Wx ok tk h
    obtain ⟨h1, h2⟩ := ba2 h
    obtain ⟨h1, h5⟩ := ba2 h1
    obtain ⟨h5, h6⟩ := ba2 h5
    have h1 := of_decide_eq_true h1
    subst h1
    have p : PE X (.Attribute x (Str.ofString f) pos) (rdW κ Wx (vE Φ (.att a f cs))) := pd_att ok h6 (attrBase' h5) (ia X Wx ok tk h2).1
    exact ⟨p, fun _ => pt_of ok p fun _ => rfl⟩
  · -- meth
    intro sc c m j a es x mm apos xs pos ia is X Wx ok tk h
    obtain ⟨h1, h2⟩ := ba2 h
    obtain ⟨h1, h5⟩ := ba2 h1
    obtain ⟨h5, h6⟩ := ba2 h5
    obtain ⟨h2, hB⟩ := ba2 h2
    obtain ⟨hm0, h7⟩ := ba2 h2
    obtain ⟨hE, hEs⟩ := ba2 hB
    have h1 := of_decide_eq_true h1
    have h7 := of_decide_eq_true h7
    subst h1
    obtain ⟨i, hi, rfl, hm⟩ := metB_ok hm0
    have p : PE X (.Call (.Attribute x (Str.ofString m) apos) xs [] pos) (rdW κ Wx (vE Φ (.meth i.c m j a es))) := by
      cases xs with
      | nil =>
        cases es with
        | nil =>
          have e : vE Φ (.meth i.c m j a []) = fun ρ S => (evW Φ ρ a S).d.bind fun x S1 => R.chk (isO i.c m (vw S1 x)) ((R.ok (α := List D) [] S1).bind fun ds S2 => (Φ j (x :: ds) S2).d.w) := by
            funext ρ S
            show evW Φ ρ (.meth i.c m j a []) S = _
            rw [evW]
            simp only [evEs]
          rw [e]
          exact pd_meth0 ok tk hi hm (attrBase' h5) h6 (ia X Wx ok tk hE).1
        | cons _ _ => cases hEs
      | cons y ys => exact pd_meth ok tk hi hm (attrBase' h5) h7 h6 (stars_of hEs) (ia X Wx ok tk hE).1 (is X Wx ok tk hEs).1.1
    exact ⟨p, fun _ => pt_of ok p fun _ => rfl⟩
  · -- append to a cell
    intro sc a b x m apos y pos ia ib X Wx ok tk h
    obtain ⟨h1, h2⟩ := ba2 h
    obtain ⟨h1, h5⟩ := ba2 h1
    obtain ⟨h5, h6⟩ := ba2 h5
    obtain ⟨h2, h3⟩ := ba2 h2
    obtain ⟨h3, h4⟩ := ba2 h3
    have h1 := of_decide_eq_true h1
    subst h1
    have r : PA X [y] (rdDs κ Wx fun ρ S => evEs Φ ρ [b] S) := by rw [evEs_one]; exact es_cons h2 (ib X Wx ok tk h4).1 es_nil
    have p : PE X (.Call (.Attribute x "append" apos) [y] [] pos) (rdW κ Wx (vE Φ (.mut .append a [b]))) := pd_mutA ok (mu := .append) PySem.F.slot_list_append PySem.F.type_list_append (mt_app (X := X) (κ := κ)) (fun _ _ => rfl) (fun x h => by
      cases x with
      | lst xs => exact ⟨xs, rfl⟩
      | _ => cases h) (attrBase' h5) (fun e he => by rw [List.mem_singleton.mp he]; exact h2) (by simp) h6 (ia X Wx ok tk h3).1 r
    exact ⟨p, fun _ => pt_of ok p fun _ => rfl⟩
  · -- extend of a cell
    intro sc a b x m apos y pos ia ib X Wx ok tk h
    obtain ⟨h1, h2⟩ := ba2 h
    obtain ⟨h1, h5⟩ := ba2 h1
    obtain ⟨h5, h6⟩ := ba2 h5
    obtain ⟨h2, h3⟩ := ba2 h2
    obtain ⟨h3, h4⟩ := ba2 h3
    have h1 := of_decide_eq_true h1
    subst h1
    have p : PE X (.Call (.Attribute x "extend" apos) [y] [] pos) (rdW κ Wx (vE Φ (.mut .extend a [b]))) := by
      have e : vE Φ (.mut .extend a [b]) = fun ρ S => (evW Φ ρ a S).d.bind fun x S1 => R.chk (rcvM .extend (vw S1 x)) (((evW Φ ρ b S1).d.bind fun d S1 => (R.ok (α := List D) [] S1).bind fun ds S2 => .ok (d :: ds) S2).bind fun ds S2 => (mutS .extend x ds S2).w) := by
        funext ρ S
        show evW Φ ρ (.mut .extend a [b]) S = _
        rw [evW]
        simp only [congrFun (congrFun evEs_one ρ) _]
      rw [e]
      exact pd_mutE ok (attrBase' h5) h2 h6 (ia X Wx ok tk h3).1 (ib X Wx ok tk h4).1
    exact ⟨p, fun _ => pt_of ok p fun _ => rfl⟩
  · -- frz
    intro sc n x i X Wx ok tk h
    have h : chkN sc n x = true := h
    have p : PE X x (rdW κ Wx (vE Φ (.frz n))) := pe_frz (i X Wx ok tk h)
    exact ⟨p, pt_frm ok h p⟩
  · -- cel
    intro sc n x i X Wx ok tk h
    have h : chkN sc n x = true := h
    have p : PE X x (rdW κ Wx (vE Φ (.cel n))) := pe_cel (i X Wx ok tk h)
    exact ⟨p, pt_frm ok h p⟩
  · intros
    intro X Wx ok tk h
    rw [chkE] at h <;> first | assumption | cases h
  · -- lst
    intro sc es xs pos i X Wx ok tk h
    obtain ⟨h1, h2⟩ := ba2 h
    have h1 := of_decide_eq_true h1
    exact pn_lst (i X Wx ok tk h2).1.1 fun ρ S ds S' e => by rw [es_len e]; exact h1
  · -- dic
    intro sc pos X Wx ok tk h
    exact pn_dic0
  · -- dic with entries
    intro sc es keys vals pos _ ip X Wx ok tk h
    have h : ((decide (keys.length ≤ 15) && !keys.isEmpty) && chkP sc es keys vals) = true := by
      rw [chkN] at h <;> first | exact h | assumption
    obtain ⟨ha, h3⟩ := ba2 h
    obtain ⟨h1, h2⟩ := ba2 ha
    obtain ⟨ps, k1, k2, k3, k4, k5⟩ := ip X Wx ok tk h3
    have e : (fun ρ S => evN Φ ρ (.dic es) S) = fun ρ S => (evP ps ρ S).bind fun ds S1 => match pairUp ds with
      | some kvs => .ok (.dct (mergeK [] kvs)) S1
      | none => .bad := by
      funext ρ S
      rw [evN, k2] <;> rfl
    rw [e]
    exact pn_dic (k1 pos) k4 k5 (by rintro rfl; cases h2) (of_decide_eq_true h1) k3
  · -- cat
    intro sc a b x y pos ia ib X Wx ok tk h
    obtain ⟨h1, h2⟩ := ba2 h
    exact pn_cat (ia X Wx ok tk h1).1 (ib X Wx ok tk h2).1
  · -- rep
    intro sc a b x y pos ia ib X Wx ok tk h
    obtain ⟨h1, h2⟩ := ba2 h
    exact pn_rep (ia X Wx ok tk h1).1 (ib X Wx ok tk h2).1
  · -- slc
    intro sc a lo hi x l u p2 pos ia il iu X Wx ok tk h
    obtain ⟨h1, h2⟩ := ba2 h
    obtain ⟨h2, h3⟩ := ba2 h2
    exact pn_slc ok (ia X Wx ok tk h1).1 (il X Wx ok tk h2) (iu X Wx ok tk h3)
  · -- rev
    intro sc a x k p1 p2 p3 pos ia X Wx ok tk h
    have h : chkE sc a x = true := h
    exact pn_rev ok (ia X Wx ok tk h).1
  · -- list
    intro sc a x p1 y pos ia X Wx ok tk h
    obtain ⟨h1, h2⟩ := ba2 h
    obtain ⟨h2, h3⟩ := ba2 h2
    obtain ⟨h3, h4⟩ := ba2 h3
    have h1 := of_decide_eq_true h1
    subst h1
    exact pn_list ok h2 h3 (ia X Wx ok tk h4).1
  · -- list of a range
    intro sc a x p1 z p2 y pos2 pos ia X Wx ok tk h
    obtain ⟨hA, hB⟩ := ba2 h
    obtain ⟨h1, h2⟩ := ba2 hA
    obtain ⟨hC, hD⟩ := ba2 hB
    obtain ⟨h3, h4⟩ := ba2 hC
    obtain ⟨h5, h6⟩ := ba2 hD
    have h1 := of_decide_eq_true h1
    subst h1
    have h2 := of_decide_eq_true h2
    subst h2
    have e : (fun ρ S => evN Φ ρ (.range [a]) S) = fun ρ S => (evW Φ ρ a S).d.bind fun d S1 => (R.of S1 (srcD .range [.d d] S1)).bind fun xs S1 => .ok (.lst xs) S1 := by
      funext ρ S
      exact evN_range1
    rw [e]
    exact pn_range ok h3 h4 h5 (ia X Wx ok tk h6).1
  · -- sorted by a key
    intro sc f a x p1 y kw g fp kp pos ia X Wx ok tk h
    obtain ⟨hA, hB⟩ := ba2 h
    obtain ⟨h1, h2⟩ := ba2 hA
    obtain ⟨hC, hD⟩ := ba2 hB
    obtain ⟨h3, h4⟩ := ba2 hC
    obtain ⟨h4, h5⟩ := ba2 h4
    obtain ⟨h6, h7⟩ := ba2 hD
    obtain ⟨h7, h8⟩ := ba2 h7
    have h1 := of_decide_eq_true h1
    subst h1
    have h2 := of_decide_eq_true h2
    subst h2
    exact pn_sortBy ok h6 h7 (of_decide_eq_true h3) h4 (by simpa using h5) (ia X Wx ok tk h8).1
  · -- sorted of a set
    intro sc a x p1 z p2 y pos2 pos ia X Wx ok tk h
    obtain ⟨hA, hB⟩ := ba2 h
    obtain ⟨h1, h2⟩ := ba2 hA
    obtain ⟨hC, hD⟩ := ba2 hB
    obtain ⟨h3, h4⟩ := ba2 hC
    obtain ⟨h5, h6⟩ := ba2 hD
    have h1 := of_decide_eq_true h1
    subst h1
    have h2 := of_decide_eq_true h2
    subst h2
    exact pn_sortSet ok h3 h4 h5 (ia X Wx ok tk h6).1
  · -- sorted
    intro sc a x p1 y pos ia X Wx ok tk h
    obtain ⟨h1, h2⟩ := ba2 h
    obtain ⟨h2, h3⟩ := ba2 h2
    obtain ⟨h3, h4⟩ := ba2 h3
    have h1 := of_decide_eq_true h1
    subst h1
    exact pn_sorted ok h2 h3 (ia X Wx ok tk h4).1
  · -- dict
    intro sc a x p1 y pos ia X Wx ok tk h
    obtain ⟨h1, h2⟩ := ba2 h
    obtain ⟨h2, h3⟩ := ba2 h2
    obtain ⟨h3, h4⟩ := ba2 h3
    have h1 := of_decide_eq_true h1
    subst h1
    exact pn_dict ok h2 (by decide) h3 (ia X Wx ok tk h4).1
  · -- call
    intro sc f es x p1 xs pos i X Wx ok tk h
    obtain ⟨h1, h2⟩ := ba2 h
    obtain ⟨h2, h3⟩ := ba2 h2
    obtain ⟨h3, h4⟩ := ba2 h3
    have h1 := of_decide_eq_true h1
    have e : (fun ρ S => evN Φ ρ (.call f es) S) = fun ρ S => ((evEs Φ ρ es S).bind fun ds S1 => Φ f ds S1).bind wC := by
      funext ρ S
      rw [evN]
      cases evEs Φ ρ es S <;> rfl
    rw [e]
    exact pn_ofC (pd_callA ok tk h1 h2 (by simpa using h3) h4 (i X Wx ok tk h4).1.1)
  · -- make
    intro sc c j es x p1 xs pos i X Wx ok tk h
    obtain ⟨h1, h2⟩ := ba2 h
    obtain ⟨h1, h5⟩ := ba2 h1
    obtain ⟨hg, hB⟩ := ba2 h2
    obtain ⟨ho, hEs⟩ := ba2 hB
    have h1 := of_decide_eq_true h1
    subst h1
    obtain ⟨i', hi, rfl, hj⟩ := makB_ok h5
    cases xs with
    | nil =>
      cases es with
      | nil =>
        have e : (fun ρ S => evN Φ ρ (.make i'.c j []) S) = fun (_ : Env) S => mkR i'.c fun x => Φ j [.int x] S := by
          funext ρ S
          rw [evN]
          simp only [evEs, R.bind]
        rw [e]
        exact pn_make0 ok tk hi hj hg (by simpa using ho)
      | cons _ _ => cases hEs
    | cons y ys =>
      have e : (fun ρ S => evN Φ ρ (.make i'.c j es) S) = fun ρ S => (evEs Φ ρ es S).bind fun ds S1 => mkR i'.c fun x => Φ j (.int x :: ds) S1 := by
        funext ρ S
        rw [evN]
      rw [e]
      exact pn_make ok tk hi hj hg (by simpa using ho) (stars_of hEs) (i X Wx ok tk hEs).1.1
  · intros
    intro X Wx ok tk h
    simp_all [chkN]
  · intros
    intro X Wx ok tk h
    simp_all [chkN]
  · -- comp
    intro sc tg k src cond elt e t it ifs scope pos tp ts e1 own e2 isrc ic ie X Wx ok tk h
    have h : (((tp == decide (tg.length ≠ 1)) && (notSet it && tgI k t)) && (blkC sc.N sc.scope scope own && (tgB (sc.blk scope) own && (chkI sc k src it && (chkB (sc.blk scope) cond ifs && (decide (cond.length ≤ 1) && chkE (sc.blk scope) elt e)))))) = true := by
      rw [chkN, e1] at h
      simp only [e2] at h
      exact h
    obtain ⟨ha, hb⟩ := ba2 h
    obtain ⟨h1, h2⟩ := ba2 ha
    obtain ⟨h3, hc⟩ := ba2 hb
    obtain ⟨h4, hd⟩ := ba2 hc
    obtain ⟨h5, he⟩ := ba2 hd
    obtain ⟨h6, hf⟩ := ba2 he
    obtain ⟨h7, h8⟩ := ba2 hf
    have h1 : tp = decide (tg.length ≠ 1) := eq_of_beq h1
    have h7 := of_decide_eq_true h7
    have bk := fun s H C cl fp => ok.blk h3 s H C cl fp
    have tz : ∀ (s : Shared) (H : Hp) (C : Addr) (cl : List (Str × Addr)) (fp : List Addr), Takes (X.blk s H scope (compEnvC scope cl C X.env) fp) WF := fun s H C cl fp u s' ⟨_, _, _, _, _, _, _, _, _, _, _, _, _, _, _, _, w⟩ => w.elim
    have kk := own_pgs (bk X.s_0 X.H_0 0 [] []) e2 h4
    have base := pn_comp (Wx := Wx) (pos := pos) (mcond := fun ρ S => evC Φ ρ cond S) (melt := vE Φ elt) ok (isrc X Wx ok tk h5 t (ba2 h2).2) (ok.blkB h3) kk.1 kk.2.1
      (fun s H C cl fp => own_pg (bk s H C cl fp) e1 e2 h4 h1)
      (fun s H C cl fp => (ic _ WF (bk s H C cl fp) (tz s H C cl fp) h6).2.1 h7)
      (fun s H C cl fp => (ie _ WF (bk s H C cl fp) (tz s H C cl fp) h8).1) (notSet_ok (ba2 h2).1)
    refine PE.imp base fun σ H Q ⟨as, H0, ρ, S, rs, hS, w⟩ => ⟨as, H0, ρ, S, rs, hS, ?_⟩
    have w : Out (evN Φ ρ (.comp tg k src cond elt) S) (kN κ as H Q) (kX κ as H σ Wx) := w
    rw [evN] at w
    exact w
  · intros
    intro X Wx ok tk h
    rw [chkN] at h <;> first | assumption | cases h
  · -- no part
    intro sc X Wx ok tk h
    refine ⟨fun _ _ z => absurd rfl z, fun _ => ⟨fun pins s σ H Q I ⟨as, H0, ρ, S, rs, hS, w⟩ => ?_⟩, rfl⟩
    refine pts_nil.run pins s σ H Q I ?_
    have w2 : Out (R.ok true S) (kT κ as H Q) (kX κ as H σ Wx) := by
      have e : evC Φ ρ [] S = .ok true S := by rw [evC]
      rw [← e]
      exact w
    exact w2 as H Step.refl hS
  · -- parts
    intro sc a as x xs ia ir X Wx ok tk h
    obtain ⟨h1, hb⟩ := ba2 h
    obtain ⟨h2, h3⟩ := ba2 hb
    obtain ⟨p, q⟩ := ia X Wx ok tk h2
    have q := q h1
    obtain ⟨k1, k2, k3⟩ := ir X Wx ok tk h3
    refine ⟨fun isAnd pos _ => ?_, fun hl => ?_, by rw [List.length_cons, List.length_cons, k3]⟩
    · cases as with
      | nil =>
        cases xs with
        | nil => exact ⟨pb_one p, pw_one q⟩
        | cons _ _ => cases k3
      | cons b as =>
        cases xs with
        | nil => cases k3
        | cons y xs =>
          obtain ⟨r1, r2⟩ := k1 isAnd pos (by simp)
          exact ⟨pb_more ok p r1, pw_more q r2⟩
    · cases as with
      | nil =>
        cases xs with
        | nil =>
          have e : (fun ρ S => evC Φ ρ [a] S) = fun ρ S => (evW Φ ρ a S).t := by funext ρ S; rw [evC]
          rw [e]
          exact ⟨fun pins s σ H Q I z => (pts_one q).run pins s σ H Q I z⟩
        | cons _ _ => cases k3
      | cons b as => simp at hl
  · intros
    intro X Wx ok tk h
    rw [chkB] at h <;> first | assumption | cases h
  · -- seq
    intro sc a e ia X Wx ok tk h tg ht
    have h : chkE sc a e = true := h
    rw [evWs_one]
    exact pi_seq ok (ia X Wx ok tk h).1
  · -- range
    intro sc a x p y pos ia X Wx ok tk h tg ht
    obtain ⟨h1, hb⟩ := ba2 h
    obtain ⟨h2, hc⟩ := ba2 hb
    obtain ⟨h3, h4⟩ := ba2 hc
    have h1 := of_decide_eq_true h1
    subst h1
    have r : PA X [y] (rdWs κ Wx fun ρ S => evWs Φ ρ [a] S) := by rw [evWs_one]; exact ws_cons h3 (ia X Wx ok tk h4).1 ws_nil
    exact pi_rng1 ok h2 h3 r fun ρ S ws S' z => ws_len z
  · -- enumerate
    intro sc a x p y pos ia X Wx ok tk h tg ht
    obtain ⟨h1, hb⟩ := ba2 h
    obtain ⟨h2, hc⟩ := ba2 hb
    obtain ⟨h3, h4⟩ := ba2 hc
    have h1 := of_decide_eq_true h1
    subst h1
    have r : PA X [y] (rdWs κ Wx fun ρ S => evWs Φ ρ [a] S) := by rw [evWs_one]; exact ws_cons h3 (ia X Wx ok tk h4).1 ws_nil
    cases tg with
    | Tuple els kk tpos => exact pi_enumE ok h2 h3 r fun ρ S ws S' z => ws_len z
    | _ => cases ht
  · intros
    intro X Wx ok tk h
    revert h
    simp_all [chkI]
  · -- range of two
    intro sc a b x p y z pos ia ib X Wx ok tk h tg ht
    obtain ⟨h1, hb⟩ := ba2 h
    obtain ⟨h2, hc⟩ := ba2 hb
    obtain ⟨hd, he⟩ := ba2 hc
    obtain ⟨h3, h4⟩ := ba2 hd
    obtain ⟨h5, h6⟩ := ba2 he
    have h1 := of_decide_eq_true h1
    subst h1
    have r1 : PA X [z] (rdWs κ Wx fun ρ S => evWs Φ ρ [b] S) := by rw [evWs_one]; exact ws_cons h4 (ib X Wx ok tk h6).1 ws_nil
    have r : PA X [y, z] (rdWs κ Wx fun ρ S => evWs Φ ρ [a, b] S) := by rw [evWs_cons]; exact ws_cons h3 (ia X Wx ok tk h5).1 r1
    exact pi_rng2 ok h2 h3 h4 r fun ρ S ws S' z => ws_len z
  · -- zip
    intro sc a b x p y z pos ia ib X Wx ok tk h tg ht
    obtain ⟨h1, hb⟩ := ba2 h
    obtain ⟨h2, hc⟩ := ba2 hb
    obtain ⟨hd, he⟩ := ba2 hc
    obtain ⟨h3, h4⟩ := ba2 hd
    obtain ⟨h5, h6⟩ := ba2 he
    have h1 := of_decide_eq_true h1
    subst h1
    have r1 : PA X [z] (rdWs κ Wx fun ρ S => evWs Φ ρ [b] S) := by rw [evWs_one]; exact ws_cons h4 (ib X Wx ok tk h6).1 ws_nil
    have r : PA X [y, z] (rdWs κ Wx fun ρ S => evWs Φ ρ [a, b] S) := by rw [evWs_cons]; exact ws_cons h3 (ia X Wx ok tk h5).1 r1
    cases tg with
    | Tuple els kk tpos => exact pi_zip ok h2 h3 h4 r fun ρ S ws S' z => ws_len z
    | _ => cases ht
  · intros
    intro X Wx ok tk h
    revert h
    simp_all [chkI]
  · intros
    intro X Wx ok tk h
    rw [chkI] at h <;> first | assumption | cases h
  · -- none
    intro sc X Wx ok tk h
    have e : (fun (ρ : Env) S => (evEs Φ ρ [] S).bind fun l S2 => R.of S2 (partD l)) = fun _ S => (R.ok (α := List D) [] S).bind fun l S2 => R.of S2 (partD l) := by funext ρ S; rw [evEs]
    rw [e]
    exact po_non
  · -- one
    intro sc a x ia X Wx ok tk h
    have h : chkE sc a x = true := h
    have e : (fun (ρ : Env) S => (evEs Φ ρ [a] S).bind fun l S2 => R.of S2 (partD l)) = fun ρ S => ((evW Φ ρ a S).d.bind fun d S1 => (R.ok (α := List D) [] S1).bind fun ds S2 => .ok (d :: ds) S2).bind fun l S2 => R.of S2 (partD l) := by
      funext ρ S
      rw [congrFun (congrFun evEs_one ρ) S]
    rw [e]
    exact po_one (ia X Wx ok tk h).1
  · intros
    intro X Wx ok tk h
    rw [chkO] at h <;> first | assumption | cases h
  · -- no pair
    intro sc X Wx ok tk h
    exact ⟨[], fun pos => pps_nil, fun ρ S => by rw [evEs]; rfl, rfl, rfl, rfl⟩
  · -- pairs
    intro sc a b es k ks v vs ia ib ir X Wx ok tk h
    obtain ⟨h1, hb⟩ := ba2 h
    obtain ⟨h2, h3⟩ := ba2 hb
    obtain ⟨ps, k1, k2, k3, k4, k5⟩ := ir X Wx ok tk h3
    refine ⟨(vE Φ a, vE Φ b) :: ps, fun pos => pps_cons (ia X Wx ok tk h1).1 (ib X Wx ok tk h2).1 (k1 pos), fun ρ S => ?_, by rw [List.length_cons, List.length_cons, k3], by rw [List.all_cons, k4]; rfl, by rw [List.length_cons, List.length_cons, k5]⟩
    rw [evEs]
    show (evW Φ ρ a S).d.bind _ = (evW Φ ρ a S).d.bind _
    congr 1
    funext d S1
    congr 1
    rw [evEs]
    show (evW Φ ρ b S1).d.bind _ = (evW Φ ρ b S1).d.bind _
    congr 1
    funext d2 S2
    rw [k2]
  · intros
    intro X Wx ok tk h
    rw [chkP] at h <;> first | assumption | cases h
  · -- no argument
    intro sc X Wx ok tk h
    rw [evEs_nil, evWs_nil]
    exact ⟨⟨es_nil, ws_nil⟩, rfl⟩
  · -- arguments
    intro sc a as x xs ia ir X Wx ok tk h
    obtain ⟨h1, hb⟩ := ba2 h
    obtain ⟨h2, h3⟩ := ba2 hb
    obtain ⟨⟨r1, r2⟩, r3⟩ := ir X Wx ok tk h3
    have p := (ia X Wx ok tk h2).1
    rw [evEs_cons, evWs_cons]
    exact ⟨⟨es_cons h1 p r1, ws_cons h1 p r2⟩, by rw [List.length_cons, List.length_cons, r3]⟩
  · intros
    intro X Wx ok tk h
    rw [chkEs] at h <;> first | assumption | cases h
end
end Ev
set_option maxHeartbeats 4000000
/-! Ev, part 20: statements beside the text. -/
namespace Ev
open PySem PySem.Spec PyProof.Rows L2
/-- is a comprehension's list told to its name at once -/
def swB (sc : SC) (x : Str) (p : Pos) : Expr → Bool
  | .ListComp _ _ s lp => (sc.nm.lookup x == some .local && p.line == lp.line) && !(s.names.any fun (n, k) => n == x && (k == .local || k == .cell))
  | _ => false
def isDSComp : Expr → Bool
  | .SetComp _ _ _ _ => true
  | .DictComp _ _ _ _ _ => true
  | _ => false
section
variable {X : Cx} {sc : SC} {κ : Kx} {Φ : Fn} {Wx : L2.WX} {n : Nat} {pos : Pos}
theorem swB_ok (ok : CxOk X sc κ Φ) {x : Str} {p : Pos} {v : Expr} {l : Nat} (h : isDSComp v = false) : swapsWith v (some (.Name x p)) l X.env = pure (swB sc x p v) := by
  cases v with
  | ListComp e gs s lp =>
    have hb : (X.env.blockKind == ScopeKind.function) = true := by
      unfold Env.blockKind
      rw [ok.kind]
      rfl
    have hk : X.env.kindOf x = sc.nm.lookup x := by unfold Env.kindOf; rw [ok.nm]
    unfold swapsWith
    simp only [hb, hk, Expr.pos, swB, Bool.true_and]
  | SetComp _ _ _ _ => cases h
  | DictComp _ _ _ _ _ => cases h
  | _ => rfl
theorem chkN_DS {nw : Nw} {v : Expr} (h : chkN sc nw v = true) : isDSComp v = false := by
  cases v with
  | SetComp _ _ _ _ => cases nw with
    | dic es => cases es <;> cases h
    | range es => rcases es with _ | ⟨_, _ | ⟨_, _⟩⟩ <;> cases h
    | _ => cases h
  | DictComp _ _ _ _ _ => cases nw with
    | dic es => cases es <;> cases h
    | range es => rcases es with _ | ⟨_, _ | ⟨_, _⟩⟩ <;> cases h
    | _ => cases h
  | _ => rfl
theorem ps_ownN (ok : CxOk X sc κ Φ) (tk : Takes X Wx) {i : Nat} {x : Str} {p : Pos} {nw : Nw} {v : Expr} (hn : X.N.length = n) (hi : sc.N[i]? = some x) (hx : locB sc x = true) (h : chkN sc nw v = true) :
    PS X (.Assign [.Name x p] v pos) (rdS κ Wx n fun ρ S => (evN Φ ρ nw S).lift ρ fun c S1 => .ok (.nx (ρ.put i (.own c))) S1) := by
  have sw := swB_ok (p := p) (x := x) (l := pos.line) ok (chkN_DS h)
  have hN := (chk_all κ Φ).1.2 sc nw v X Wx ok tk h
  cases q : swB sc x p v with
  | false =>
    rw [q] at sw
    exact ps_own ok hi hx hN sw
  | true =>
    rw [q] at sw
    cases v with
    | ListComp e gs scope lp =>
      have q' : ((sc.nm.lookup x == some .local && p.line == lp.line) && !(scope.names.any fun (n, k) => n == x && (k == .local || k == .cell))) = true := q
      obtain ⟨qa, _⟩ := ba2 q'
      obtain ⟨qa, _⟩ := ba2 qa
      have hl : sc.nm.lookup x = some .local := by simpa using qa
      cases nw with
      | comp tg k src cond elt =>
        have key : ∀ (t it : Expr) (ifs : List Expr), gs = [⟨t, it, ifs, 0⟩] → PS X (.Assign [.Name x p] (.ListComp e gs scope lp) pos) (rdS κ Wx n fun ρ S => (evN Φ ρ (.comp tg k src cond elt) S).lift ρ fun c S1 => .ok (.nx (ρ.put i (.own c))) S1) := by
          intro t it ifs eg
          subst eg
          cases e1 : tgOf t with
          | none => rw [chkN] at h; simp only [e1] at h; cases h
          | some tts =>
            obtain ⟨tp, ts⟩ := tts
            cases e2 : ownOf tg ts with
            | none => rw [chkN] at h; simp only [e1, e2] at h; cases h
            | some own =>
              have h : (((tp == decide (tg.length ≠ 1)) && (notSet it && tgI k t)) && (blkC sc.N sc.scope scope own && (tgB (sc.blk scope) own && (chkI sc k src it && (chkB (sc.blk scope) cond ifs && (decide (cond.length ≤ 1) && chkE (sc.blk scope) elt e)))))) = true := by
                rw [chkN] at h
                simp only [e1, e2] at h
                exact h
              obtain ⟨ha, hb⟩ := ba2 h
              obtain ⟨h1, h2⟩ := ba2 ha
              obtain ⟨h3, hc⟩ := ba2 hb
              obtain ⟨h4, hd⟩ := ba2 hc
              obtain ⟨h5, he⟩ := ba2 hd
              obtain ⟨h6, hf⟩ := ba2 he
              obtain ⟨h7, h8⟩ := ba2 hf
              have h1 : tp = decide (tg.length ≠ 1) := eq_of_beq h1
              have h7 := of_decide_eq_true h7
              have bk := fun s H C cl fp => ok.blk h3 s H C cl fp
              have tz : ∀ (s : Shared) (H : Hp) (C : Addr) (cl : List (Str × Addr)) (fp : List Addr), Takes (X.blk s H scope (compEnvC scope cl C X.env) fp) WF := fun s H C cl fp u s' ⟨_, _, _, _, _, _, _, _, _, _, _, _, _, _, _, _, w⟩ => w.elim
              have kk := own_pgs (bk X.s_0 X.H_0 0 [] []) e2 h4
              have al := chk_all κ Φ
              have base := ps_setLc (i := i) (spos := pos) (pos := lp) (py := p) (te := rdW κ WF (vE Φ elt)) (tt := rdT κ WF fun ρ S => evC Φ ρ cond S) (wi := rdI κ Wx k fun ρ S => evWs Φ ρ src S) (g := gT κ.K tg) ok.calm ok.nd (by rw [ok.N]; exact hi) (by rw [ok.nm]; exact hl) sw (al.2.1.2 sc k src it X Wx ok tk h5 t (ba2 h2).2) (ok.blkB h3)
                (fun s H C cl fp => own_pg (bk s H C cl fp) e1 e2 h4 h1)
                (fun s H C cl fp => (al.2.1.1 _ _ _ _ WF (bk s H C cl fp) (tz s H C cl fp) h6).2.1 h7)
                (fun s H C cl fp => (al.1.1 _ _ _ _ WF (bk s H C cl fp) (tz s H C cl fp) h8).1) (notSet_ok (ba2 h2).1)
              refine ⟨fun pins s σ H D I ⟨as0, H0, as, ρ, S, st0, rs, hS, hl', w⟩ => base.run pins s σ H D I ?_⟩
              have hlt : i < σ.length := by
                rw [I.len, ok.N]
                exact (List.getElem?_eq_some_iff.mp hi).1
              refine lc_rd I.len kk.1 kk.2.1 ?_
              have z := own_step (mn := fun ρ S => evN Φ ρ (.comp tg k src cond elt) S) st0 rs hS hl' hlt w
              obtain ⟨as, H0, ρ, S, rs, hS, w⟩ := z
              refine ⟨as, H0, ρ, S, rs, hS, ?_⟩
              have w : Out (evN Φ ρ (.comp tg k src cond elt) S) _ _ := w
              rw [evN] at w
              exact w
        cases gs with
        | nil => cases h
        | cons c r => cases c with
            | mk t it ifs a => cases a with
              | negSucc m => cases r <;> cases h
              | ofNat m => cases m with
                | zero => cases r with
                  | nil => exact key t it ifs rfl
                  | cons _ _ => cases h
                | succ m => cases r <;> cases h
      | dic es => cases es <;> cases h
      | range es => rcases es with _ | ⟨_, _ | ⟨_, _⟩⟩ <;> cases h
      | _ => cases h
    | _ => cases q
end
end Ev
set_option maxHeartbeats 2000000
/-! Ev, part 20b: a list told of one's own dict's keys, the dict locked meanwhile. -/
namespace Ev
open PySem PySem.Spec PyProof.Rows L2
section
variable {κ : Kx} {as as' : List Addr} {H H' : Hp} {q : Bool}
def MvH (q : Bool) (H H' : Hp) : Prop := ∀ a o, H a = some o → imm o → (q = true ∨ ∀ od kws, o ≠ .frz od (.dK kws)) → H' a = some o
theorem mv_frz (m : MvH q H H') {a : Addr} {u : HO} (hu : q = true ∨ ∀ kws, u ≠ .dK kws) (h : Frz H a u) : Frz H' a u := by
  obtain ⟨o, h⟩ := h
  exact ⟨o, m a _ h True.intro (hu.imp id fun n od kws e => by injection e with e1 e2; exact n kws e2)⟩
theorem mv_sqP (m : MvH q H H') {K : PySem.W.Frag} {a : Addr} {vs : List V} (h : SqP K H a vs) : SqP K H' a vs := by
  refine ⟨?_, ?_⟩
  · rcases h.sq with (r | ⟨o, r⟩) | r
    · exact .inl (.inl (m a _ r True.intro (.inr fun _ _ e => nomatch e)))
    · exact .inl (.inr ⟨o, m a _ r True.intro (.inr fun _ _ e => nomatch e)⟩)
    · exact .inr r
  · rcases h.pl with ⟨o, u, r, h⟩ | r
    · exact .inl ⟨o, u, m a _ r True.intro (.inr fun _ _ e => nomatch e), h⟩
    · exact .inr r
mutual
theorem nrD_mv (m : MvH q H H') : ∀ {d : D} {v : V}, nrD q d = true → IsD κ as H d v → IsD κ as' H' d v
  | .non, _, _, h => h
  | .bl _, _, _, h => h
  | .int _, _, _, h => h
  | .str _, _, _, h => h
  | .fn _, _, n, _ => nomatch n
  | .ref _, _, n, _ => nomatch n
  | .tup ds, _, n, h => by
    obtain ⟨a, vs, e, h1, h2⟩ := h
    rw [nrD] at n
    exact ⟨a, vs, e, mv_sqP m h1, nrDs_mv m n h2⟩
  | .lst ds, _, n, h => by
    obtain ⟨a, vs, e, h1, h2⟩ := h
    rw [nrD] at n
    exact ⟨a, vs, e, mv_frz m (.inr fun _ e => nomatch e) h1, nrDs_mv m n h2⟩
  | .scr ns, _, _, h => by
    obtain ⟨a, e, h1⟩ := h
    exact ⟨a, e, h1.imp (mv_frz m (.inr fun _ e => nomatch e)) id⟩
  | .dic kvs, _, n, h => by
    obtain ⟨a, kws, e, r, h2⟩ := h
    rw [nrD] at n
    obtain ⟨n1, n2⟩ := ba2 n
    exact ⟨a, kws, e, mv_frz m (.inl n1) r, nrKs_mv m n2 h2⟩
  | .kdic _, _, n, _ => nomatch n
  | .obj _ _, _, n, _ => nomatch n
  | .exc _ _, _, n, _ => nomatch n
theorem nrDs_mv (m : MvH q H H') : ∀ {ds : List D} {vs : List V}, nrDs q ds = true → IsDs κ as H ds vs → IsDs κ as' H' ds vs
  | [], [], _, _ => True.intro
  | d :: ds, v :: vs, n, h => by
    rw [nrDs] at n
    obtain ⟨n1, n2⟩ := ba2 n
    exact ⟨nrD_mv m n1 h.1, nrDs_mv m n2 h.2⟩
  | [], _ :: _, _, h => h.elim
  | _ :: _, [], _, h => h.elim
theorem nrKs_mv (m : MvH q H H') : ∀ {ds : List (Ky × D)} {vs : List (L2.Key × V)}, nrKs q ds = true → IsKs κ as H ds vs → IsKs κ as' H' ds vs
  | [], [], _, _ => True.intro
  | (_, d) :: ds, (_, v) :: vs, n, h => by
    rw [nrKs] at n
    obtain ⟨n1, n2⟩ := ba2 n
    exact ⟨h.1, nrD_mv m n1 h.2.1, nrKs_mv m n2 h.2.2⟩
  | [], _ :: _, _, h => h.elim
  | (_, _) :: _, [], _, h => h.elim
end
theorem get_lockE : ∀ {ρ : Env} {i : Nat} {w : W}, (lockE ρ).get i = some w → ∃ d, w = .d d ∧ ρ.get i = some (.d d) ∧ nrD true d = true
  | [], _, _, e => nomatch e
  | some (.d x) :: r, 0, w, e => by
    have e : (if nrD true x = true then some (W.d x) else none) = some w := e
    split at e
    · rename_i n
      injection e with e
      exact ⟨x, e.symm, rfl, n⟩
    · cases e
  | some (.own _) :: r, 0, w, e => nomatch e
  | none :: r, 0, w, e => nomatch e
  | some (.d x) :: r, i + 1, w, e => get_lockE (ρ := r) e
  | some (.own _) :: r, i + 1, w, e => get_lockE (ρ := r) e
  | none :: r, i + 1, w, e => get_lockE (ρ := r) e
end
section
variable {X : Cx} {sc : SC} {κ : Kx} {Φ : Fn} {Wx : L2.WX} {n : Nat} {pos : Pos}
theorem ps_ownD (ok : CxOk X sc κ Φ) (tk : Takes X Wx) {i j : Nat} {x : Str} {p : Pos} {tg : List Nat} {cond : List Ex} {elt : Ex} {e : Expr} {gs : List Comprehension} {scope : Scope} {lp : Pos} (hn : X.N.length = n) (hi : sc.N[i]? = some x) (q : swB sc x p (.ListComp e gs scope lp) = true) (h : chkN sc (.comp tg .seq [.var j] cond elt) (.ListComp e gs scope lp) = true) :
    PS X (.Assign [.Name x p] (.ListComp e gs scope lp) pos) (rdS κ Wx n fun ρ S => (match ρ.get j with
    | some (.own (.dct kvs)) => R.chk (nrKs true kvs) (match evN Φ ((lockE ρ).put j (.d (.dic kvs))) (.comp tg .seq [.var j] cond elt) [] with
      | .ok (.lst r) _ => R.chk (nrDs false r) (.ok (.nx (ρ.put i (.own (.lst r)))) S)
      | _ => .bad)
    | _ => .bad)) := by
  have sw := swB_ok (p := p) (x := x) (l := pos.line) ok (chkN_DS h)
  rw [q] at sw
  have q' : ((sc.nm.lookup x == some .local && p.line == lp.line) && !(scope.names.any fun (n, k) => n == x && (k == .local || k == .cell))) = true := q
  obtain ⟨qa, _⟩ := ba2 q'
  obtain ⟨qa, _⟩ := ba2 qa
  have hl : sc.nm.lookup x = some .local := by simpa using qa
  have key : ∀ (t it : Expr) (ifs : List Expr), gs = [⟨t, it, ifs, 0⟩] → PS X (.Assign [.Name x p] (.ListComp e gs scope lp) pos) (rdS κ Wx n fun ρ S => (match ρ.get j with
    | some (.own (.dct kvs)) => R.chk (nrKs true kvs) (match evN Φ ((lockE ρ).put j (.d (.dic kvs))) (.comp tg .seq [.var j] cond elt) [] with
      | .ok (.lst r) _ => R.chk (nrDs false r) (.ok (.nx (ρ.put i (.own (.lst r)))) S)
      | _ => .bad)
    | _ => .bad)) := by
    intro t it ifs eg
    subst eg
    cases e1 : tgOf t with
    | none => rw [chkN] at h; simp only [e1] at h; cases h
    | some tts =>
      obtain ⟨tp, ts⟩ := tts
      cases e2 : ownOf tg ts with
      | none => rw [chkN] at h; simp only [e1, e2] at h; cases h
      | some own =>
        have h : (((tp == decide (tg.length ≠ 1)) && (notSet it && tgI .seq t)) && (blkC sc.N sc.scope scope own && (tgB (sc.blk scope) own && (chkI sc .seq [.var j] it && (chkB (sc.blk scope) cond ifs && (decide (cond.length ≤ 1) && chkE (sc.blk scope) elt e)))))) = true := by
          rw [chkN] at h
          simp only [e1, e2] at h
          exact h
        obtain ⟨ha, hb⟩ := ba2 h
        obtain ⟨h1, h2⟩ := ba2 ha
        obtain ⟨h3, hc⟩ := ba2 hb
        obtain ⟨h4, hd⟩ := ba2 hc
        obtain ⟨h5, he⟩ := ba2 hd
        obtain ⟨h6, hf⟩ := ba2 he
        obtain ⟨h7, h8⟩ := ba2 hf
        have h1 : tp = decide (tg.length ≠ 1) := eq_of_beq h1
        have h7 := of_decide_eq_true h7
        have bk := fun s H C cl fp => ok.blk h3 s H C cl fp
        have tz : ∀ (s : Shared) (H : Hp) (C : Addr) (cl : List (Str × Addr)) (fp : List Addr), Takes (X.blk s H scope (compEnvC scope cl C X.env) fp) WF := fun s H C cl fp u s' ⟨_, _, _, _, _, _, _, _, _, _, _, _, _, _, _, _, w⟩ => w.elim
        have kk := own_pgs (bk X.s_0 X.H_0 0 [] []) e2 h4
        have al := chk_all κ Φ
        have base := ps_setLc (i := i) (spos := pos) (pos := lp) (py := p) (te := rdW κ WF (vE Φ elt)) (tt := rdT κ WF fun ρ S => evC Φ ρ cond S) (wi := rdI κ Wx .seq fun ρ S => evWs Φ ρ [.var j] S) (g := gT κ.K tg) ok.calm ok.nd (by rw [ok.N]; exact hi) (by rw [ok.nm]; exact hl) sw (al.2.1.2 sc .seq [.var j] it X Wx ok tk h5 t (ba2 h2).2) (ok.blkB h3)
          (fun s H C cl fp => own_pg (bk s H C cl fp) e1 e2 h4 h1)
          (fun s H C cl fp => (al.2.1.1 _ _ _ _ WF (bk s H C cl fp) (tz s H C cl fp) h6).2.1 h7)
          (fun s H C cl fp => (al.1.1 _ _ _ _ WF (bk s H C cl fp) (tz s H C cl fp) h8).1) (notSet_ok (ba2 h2).1)
        refine ⟨fun pins s σ H D I ⟨as0, H0, as, ρ, S, st0, rs, hS, hl', w⟩ => ?_⟩
        have hlt : i < σ.length := by
          rw [I.len, ok.N]
          exact (List.getElem?_eq_some_iff.mp hi).1
        have w : Out (match ρ.get j with
          | some (.own (.dct kvs)) => R.chk (nrKs true kvs) (match evN Φ ((lockE ρ).put j (.d (.dic kvs))) (.comp tg .seq [.var j] cond elt) [] with
            | .ok (.lst r) _ => R.chk (nrDs false r) (.ok (.nx (ρ.put i (.own (.lst r)))) S)
            | _ => .bad)
          | _ => .bad) (kF κ as0 H0 as H n D Wx) FF := w
        cases ej : ρ.get j with
        | none => simp only [ej] at w; exact w.elim
        | some wj =>
        cases wj with
        | d y => simp only [ej] at w; exact w.elim
        | own cj =>
        cases cj with
        | lst _ => simp only [ej] at w; exact w.elim
        | obj _ _ _ => simp only [ej] at w; exact w.elim
        | dct kvs =>
        simp only [ej] at w
        obtain ⟨nk, w⟩ := Out.of_chk w
        cases qe : evN Φ ((lockE ρ).put j (.d (.dic kvs))) (.comp tg .seq [.var j] cond elt) [] with
        | bad => simp only [qe] at w; exact w.elim
        | exc _ _ => simp only [qe] at w; exact w.elim
        | ok c S' =>
        cases c with
        | dct _ => simp only [qe] at w; exact w.elim
        | obj _ _ _ => simp only [qe] at w; exact w.elim
        | lst r =>
        simp only [qe] at w
        obtain ⟨nr, w⟩ := Out.of_chk w
        have w3 : kF κ as0 H0 as H n D Wx (.nx (ρ.put i (.own (.lst r)))) S := w
        obtain ⟨l, sl, nl, hl0, kws, hk, rk⟩ := rs.own j (.dct kvs) ej
        refine (ps_lock base).run pins s σ H D I ⟨l, .dK kws, hk, True.intro, fun od => ?_⟩
        show tLc _ _ _ _ _ σ (upd H l (.frz od (.dK kws))) (fun x H1 => gName i x σ H1 fun σ' H' => H' l = some (.frz od (.dK kws)) ∧ D.nx σ' (upd H' l (.dK kws)))
        refine lc_rd I.len kk.1 kk.2.1 ?_
        have im2 : Imm H (upd H l (.frz od (.dK kws))) := Imm.frzAt hk fun z => z
        have mv2 : MvH true H (upd H l (.frz od (.dK kws))) := fun a o h1 h2 _ => im2 a o h1 h2
        refine ⟨[], upd H l (.frz od (.dK kws)), (lockE ρ).put j (.d (.dic kvs)), [], ⟨fun k d ek => ?_, fun k c ek => ?_, fun k1 k2 c e' a _ ek => ?_⟩, ⟨rfl, List.nodup_nil, fun i a c e1 => by simp at e1⟩, ?_⟩
        · rw [get_put] at ek
          split at ek
          · rename_i hjk
            injection ek with ek
            injection ek with ek
            subst ek
            rw [← hjk.1]
            exact ⟨_, sl, l, kws, rfl, ⟨od, upd_same⟩, nrKs_mv mv2 nk rk⟩
          · obtain ⟨d', e3, e4, e5⟩ := get_lockE ek
            injection e3 with e3
            subst e3
            obtain ⟨v, h1, h2⟩ := rs.val k d e4
            exact ⟨v, h1, nrD_mv mv2 e5 h2⟩
        · rw [get_put] at ek
          split at ek
          · injection ek with ek; cases ek
          · obtain ⟨d', e3, _⟩ := get_lockE ek
            cases e3
        · rw [get_put] at ek
          split at ek
          · injection ek with ek; cases ek
          · obtain ⟨d', e3, _⟩ := get_lockE ek
            cases e3
        · have qe2 := qe
          rw [evN] at qe2
          have goal2 : Out (R.ok (Cell.lst r) S') (kN κ [] (upd H l (.frz od (.dK kws))) fun x H1 => gName i x σ H1 fun σ' H' => H' l = some (.frz od (.dK kws)) ∧ D.nx σ' (upd H' l (.dK kws))) (kX κ [] (upd H l (.frz od (.dK kws))) σ Wx) := by
            intro as1 H1 a st1 na n1 rc hS1
            obtain ⟨vs, hv, hds⟩ := rc
            have keep : ∀ b o, upd H l (.frz od (.dK kws)) b = some o → H1 b = some o := fun b o hb => st1.keep b o hb (by simp)
            have hl1 : H1 l = some (.frz od (.dK kws)) := keep _ _ upd_same
            have al' : a ≠ l := fun z => by rw [z, upd_same] at na; cases na
            have na' : H a = none := by rw [upd_ne al'] at na; exact na
            have kp : ∀ b o, b ≠ l → H b = some o → H1 b = some o := fun b o nb hb => keep b o (by rw [upd_ne nb]; exact hb)
            refine ⟨hl1, ?_⟩
            have st : Step as H as (upd H1 l (.dK kws)) := by
              refine ⟨⟨[], by simp⟩, fun b o hb io => ?_, fun b o hb nb => ?_, fun b hb => ?_⟩
              · have : b ≠ l := fun z => by rw [z, hk] at hb; cases hb; exact io
                rw [upd_ne this]
                exact kp b o this hb
              · by_cases z : b = l
                · rw [z, hk] at hb
                  rw [z, upd_same]
                  exact hb
                · rw [upd_ne z]
                  exact kp b o z hb
              · by_cases z : b = l
                · rw [z, upd_same]; simp
                · rw [upd_ne z]
                  cases y : H b with
                  | none => exact absurd y hb
                  | some o => rw [kp b o z y]; simp
            have aa : a ∉ as := fun z => by
              obtain ⟨_, _, _, _, r⟩ := hS.mem z
              obtain ⟨u, hu, _⟩ := r.some
              rw [na'] at hu
              cases hu
            have hS2 : RepS κ as (upd H1 l (.dK kws)) S := ⟨hS.len, hS.nd, fun i b c e1 e2 => (hS.cell i b c e1 e2).at (fun _ _ h => h) st.imm (by
              have hb : b ∈ as := List.mem_of_getElem? e1
              obtain ⟨_, _, _, _, r⟩ := hS.mem hb
              obtain ⟨u, hu, _⟩ := r.some
              have nb : b ≠ l := fun z => nl (z ▸ hb)
              rw [upd_ne nb, hu]
              exact kp b u nb hu)⟩
            have mv3 : MvH false H1 (upd H1 l (.dK kws)) := fun b o h1 h2 h3 => by
              have : b ≠ l := fun z => by
                rw [z, hl1] at h1
                cases h1
                rcases h3 with h3 | h3
                · cases h3
                · exact h3 od kws rfl
              rw [upd_ne this]
              exact h1
            have rcc : RepC κ as (upd H1 l (.dK kws)) a (.lst r) := ⟨vs, by rw [upd_ne al']; exact hv, nrDs_mv mv3 nr hds⟩
            have na0 : H0 a = none := by
              cases z : H0 a with
              | none => rfl
              | some o => exact absurd na' (st0.there a (by rw [z]; simp))
            refine w3 as (upd H1 l (.dK kws)) (σ.set i (some (.ref a))) (st0.trans st) st.imm (fun _ _ h => h) hS2 (by rw [List.length_set]; exact hl') ((rs.step st).setO hlt aa na0 rcc fun k e' hj ne' q => ?_)
            obtain ⟨b, h1, h2, h3, h4⟩ := rs.own k e' hj
            obtain ⟨o, ho, _⟩ := h4.some
            rw [h1] at q
            cases q
            rw [na'] at ho
            cases ho
          rw [← qe2] at goal2
          exact goal2
  cases gs with
  | nil => cases h
  | cons c r => cases c with
    | mk t it ifs a => cases a with
      | negSucc m => cases r <;> cases h
      | ofNat m => cases m with
        | zero => cases r with
          | nil => exact key t it ifs rfl
          | cons _ _ => cases h
        | succ m => cases r <;> cases h
end
end Ev
set_option maxHeartbeats 4000000
/-! Ev, part 20b: a, b = x, y. -/
namespace Ev
open PySem PySem.Spec PyProof.Rows L2
/-- a value that is stored from the left -/
def unpV : Expr → Bool
  | .Tuple vs _ _ => vs.all (foldedForSure 8)
  | v => !isTupT v
theorem swN {es : List Expr} {k : Nat} {tp : Pos} {v : Expr} {env : PySem.Env} (h : unpV v = true) : swappedStores [.Tuple es k tp] v env = pure none := by
  cases v with
  | Tuple vs a p =>
    have h : vs.all (foldedForSure 8) = true := h
    unfold swappedStores
    simp only [h, if_true]
    (repeat' split) <;> rfl
  | List _ _ => cases h
  | _ => rfl
/-- a name among these that is not the function's alone -/
def cellT (sc : SC) (es : List Expr) : Bool := es.any fun e => match e with
  | .Name x _ => !(sc.nm.lookup x == some .local)
  | _ => true
def isTupE : Expr → Bool
  | .Tuple _ _ _ => true
  | _ => false
def unpC (sc : SC) (es : List Expr) (v : Expr) : Bool := unpV v || (isTupE v && cellT sc es)
theorem fm_lt {α β : Type} {f : α → Option β} : ∀ {l : List α}, (∃ a ∈ l, f a = none) → (l.filterMap f).length < l.length
  | [], ⟨_, h, _⟩ => by cases h
  | a :: l, ⟨b, hb, e⟩ => by
    rcases List.mem_cons.mp hb with rfl | hb
    · rw [List.filterMap_cons, e]
      exact Nat.lt_succ_of_le (List.length_filterMap_le f l)
    · have ih := fm_lt ⟨b, hb, e⟩
      rw [List.filterMap_cons]
      cases f a with
      | none => exact Nat.lt_succ_of_lt ih
      | some c => exact Nat.succ_lt_succ ih
theorem swC {X : Cx} {sc : SC} {κ : Kx} {Φ : Fn} (ok : CxOk X sc κ Φ) {es : List Expr} {k : Nat} {tp : Pos} {v : Expr} (h : unpC sc es v = true) : swappedStores [.Tuple es k tp] v X.env = pure none := by
  unfold unpC at h
  cases q : unpV v with
  | true => exact swN q
  | false =>
    rw [q, Bool.false_or] at h
    obtain ⟨h1, h2⟩ := ba2 h
    cases v with
    | Tuple vs a p =>
      have hk : ∀ z, X.env.kindOf z = sc.nm.lookup z := fun z => by unfold Env.kindOf; rw [ok.nm]
      unfold swappedStores
      simp only [hk]
      split
      · rfl
      · split
        · rfl
        · rw [if_pos]
          rw [Bool.or_eq_true]
          refine .inl (bne_iff_ne.mpr (Nat.ne_of_lt (fm_lt ?_)))
          obtain ⟨e, he, e2⟩ := List.any_eq_true.mp h2
          refine ⟨e, he, ?_⟩
          cases e with
          | Name x px =>
            have e3 : (sc.nm.lookup x == some NameKind.local) = false := by simpa using e2
            simp only [e3, Bool.false_and]
            rfl
          | _ => rfl
    | _ => cases h1
def parB (sc : SC) (ts : List (Str × Pos)) (vs : List Expr) : Bool :=
  (ts.all (fun t => sc.nm.lookup t.1 == some .local && t.2.line == (ts.head?.map (·.2.line)).getD 0) && vs.all nostar) && (!vs.all (foldedForSure 8) && !vs.all (constantsAlone 8))
section
variable {X : Cx} {sc : SC} {κ : Kx} {Φ : Fn} {Wx : L2.WX} {n : Nat} {pos : Pos}
theorem any_ns {vs : List Expr} {f : Expr → Bool} (h : vs.all nostar = true) (hf : ∀ e, nostar e = true → f e = false) : vs.any f = false := by
  rw [List.any_eq_false]
  intro e he
  rw [hf e (List.all_eq_true.mp h e he)]
  decide
theorem notT {b : Bool} (h : (!b) = true) : b = false := by
  cases b
  · rfl
  · cases h
theorem sw2 (ok : CxOk X sc κ Φ) {x y : Str} {px py pt pt2 : Pos} {kt k2 : Nat} {a b : Expr} (h : parB sc [(x, px), (y, py)] [a, b] = true) (ne : x ≠ y) :
    swappedStores [.Tuple [.Name x px, .Name y py] kt pt] (.Tuple [a, b] k2 pt2) X.env = pure (some [x, y]) := by
  obtain ⟨hA, hB⟩ := ba2 h
  obtain ⟨h1, h2⟩ := ba2 hA
  obtain ⟨h3, h4⟩ := ba2 hB
  have q1 := List.all_eq_true.mp h1 (x, px) (by simp)
  have q2 := List.all_eq_true.mp h1 (y, py) (by simp)
  obtain ⟨l1, p1⟩ := ba2 q1
  obtain ⟨l2, p2⟩ := ba2 q2
  have hb : X.env.blockKind = ScopeKind.function := by
    unfold Env.blockKind
    rw [ok.kind]
    rfl
  have hk : ∀ z, X.env.kindOf z = sc.nm.lookup z := fun z => by unfold Env.kindOf; rw [ok.nm]
  have h3 : [a, b].all (foldedForSure 8) = false := notT h3
  have h4 : [a, b].all (constantsAlone 8) = false := notT h4
  have e1 : (X.env.kindOf x == some .local && px.line == px.line) = true := by rw [hk]; simp only [l1, Bool.true_and]; exact p1
  have e2 : (X.env.kindOf y == some .local && py.line == px.line) = true := by rw [hk]; simp only [l2, Bool.true_and]; exact p2
  have ed : ([x, y].eraseDups).length = 2 := by
    have : (y == x) = false := by simpa using Ne.symm ne
    simp [List.eraseDups_cons, this]
  unfold swappedStores
  simp only [hb, h3, h4, List.head?_cons, Option.map_some, Option.getD_some, Expr.pos, List.filterMap_cons, List.filterMap_nil, e1, e2, if_true, ed]
  refine (if_neg Bool.false_ne_true).trans ((if_neg ?_).trans rfl)
  rw [any_ns h2 (fun e he => by cases e <;> first | rfl | cases he)]
  decide
theorem ps_par2 (ok : CxOk X sc κ Φ) {i j : Nat} {x y : Str} {px py pt pt2 : Pos} {kt k2 : Nat} {a b : Expr} {ms : Env → Sto → R (List D)} (hn : X.N.length = n) (hi : sc.N[i]? = some x) (hj : sc.N[j]? = some y) (h : parB sc [(x, px), (y, py)] [a, b] = true) (ne : x ≠ y) (ha : PA X [a, b] (rdDs κ Wx ms)) :
    PS X (.Assign [.Tuple [.Name x px, .Name y py] kt pt] (.Tuple [a, b] k2 pt2) pos) (rdS κ Wx n fun ρ S => (ms ρ S).lift ρ fun ds S1 => match setAll [i, j] ds ρ with
      | some ρ' => .ok (.nx ρ') S1
      | none => .bad) := by
  obtain ⟨hA, _⟩ := ba2 h
  obtain ⟨h1, h2⟩ := ba2 hA
  have q1 := List.all_eq_true.mp h1 (x, px) (by simp)
  have q2 := List.all_eq_true.mp h1 (y, py) (by simp)
  obtain ⟨l1, _⟩ := ba2 q1
  obtain ⟨l2, _⟩ := ba2 q2
  have hij : i ≠ j := fun z => by
    rw [z, hj] at hi
    exact ne (Option.some.inj hi).symm
  refine PS.imp (ps_par ok.calm ok.nd (by rw [ok.N]; exact hi) (by rw [ok.N]; exact hj) hij (by rw [ok.nm]; simpa using l1) (by rw [ok.nm]; simpa using l2) ha (sw2 ok h ne) rfl) fun D σ H ⟨as0, H0, as, ρ, S, st0, rs, hS, hl, w⟩ => ?_
  have li : i < n := by rw [← hn, ok.N]; exact (List.getElem?_eq_some_iff.mp hi).1
  have lj : j < n := by rw [← hn, ok.N]; exact (List.getElem?_eq_some_iff.mp hj).1
  refine rdDs.mk rs hS (lift_out st0 rs hl w) fun ds S1 as1 H1 vs w1 st1 r1 hS1 => ?_
  match ds, vs, r1, w1 with
  | [d, e], [u, v], r1, w1 =>
    refine ⟨u, v, rfl, w1 as1 H1 _ (st0.trans st1) st1.imm st1.pr hS1 (by rw [List.length_set, List.length_set]; exact hl) ?_⟩
    exact ((rs.step st1).set (by rw [hl]; exact li) r1.1).set (by rw [List.length_set, hl]; exact lj) r1.2.1
  | [], _, _, w1 => exact w1.elim
  | [d], _, _, w1 => exact w1.elim
  | _ :: _ :: _ :: _, _, _, w1 => exact w1.elim
theorem sw3 (ok : CxOk X sc κ Φ) {x y z : Str} {px py pz pt pt2 : Pos} {kt k2 : Nat} {a b c : Expr} (h : parB sc [(x, px), (y, py), (z, pz)] [a, b, c] = true) (ne : x ≠ y) (ne2 : x ≠ z) (ne3 : y ≠ z) :
    swappedStores [.Tuple [.Name x px, .Name y py, .Name z pz] kt pt] (.Tuple [a, b, c] k2 pt2) X.env = pure (some [x, y, z]) := by
  obtain ⟨hA, hB⟩ := ba2 h
  obtain ⟨h1, h2⟩ := ba2 hA
  obtain ⟨h3, h4⟩ := ba2 hB
  have q1 := List.all_eq_true.mp h1 (x, px) (by simp)
  have q2 := List.all_eq_true.mp h1 (y, py) (by simp)
  have q3 := List.all_eq_true.mp h1 (z, pz) (by simp)
  obtain ⟨l1, p1⟩ := ba2 q1
  obtain ⟨l2, p2⟩ := ba2 q2
  obtain ⟨l3, p3⟩ := ba2 q3
  have hb : X.env.blockKind = ScopeKind.function := by
    unfold Env.blockKind
    rw [ok.kind]
    rfl
  have hk : ∀ z, X.env.kindOf z = sc.nm.lookup z := fun z => by unfold Env.kindOf; rw [ok.nm]
  have h3 : [a, b, c].all (foldedForSure 8) = false := notT h3
  have h4 : [a, b, c].all (constantsAlone 8) = false := notT h4
  have e1 : (X.env.kindOf x == some .local && px.line == px.line) = true := by rw [hk]; simp only [l1, Bool.true_and]; exact p1
  have e2 : (X.env.kindOf y == some .local && py.line == px.line) = true := by rw [hk]; simp only [l2, Bool.true_and]; exact p2
  have e3 : (X.env.kindOf z == some .local && pz.line == px.line) = true := by rw [hk]; simp only [l3, Bool.true_and]; exact p3
  have ed : ([x, y, z].eraseDups).length = 3 := by
    have n1 : (y == x) = false := by simpa using Ne.symm ne
    have n2 : (z == x) = false := by simpa using Ne.symm ne2
    have n3 : (z == y) = false := by simpa using Ne.symm ne3
    simp [List.eraseDups_cons, n1, n2, n3]
  unfold swappedStores
  simp only [hb, h3, h4, List.head?_cons, Option.map_some, Option.getD_some, Expr.pos, List.filterMap_cons, List.filterMap_nil, e1, e2, e3, if_true, ed]
  refine (if_neg Bool.false_ne_true).trans ((if_neg ?_).trans rfl)
  rw [any_ns h2 (fun e he => by cases e <;> first | rfl | cases he)]
  decide
theorem ps_par3' (ok : CxOk X sc κ Φ) {i j l : Nat} {x y z : Str} {px py pz pt pt2 : Pos} {kt k2 : Nat} {a b c : Expr} {ms : Env → Sto → R (List D)} (hn : X.N.length = n) (hi : sc.N[i]? = some x) (hj : sc.N[j]? = some y) (hz : sc.N[l]? = some z) (h : parB sc [(x, px), (y, py), (z, pz)] [a, b, c] = true) (ne : x ≠ y) (ne2 : x ≠ z) (ne3 : y ≠ z) (ha : PA X [a, b, c] (rdDs κ Wx ms)) :
    PS X (.Assign [.Tuple [.Name x px, .Name y py, .Name z pz] kt pt] (.Tuple [a, b, c] k2 pt2) pos) (rdS κ Wx n fun ρ S => (ms ρ S).lift ρ fun ds S1 => match setAll [i, j, l] ds ρ with
      | some ρ' => .ok (.nx ρ') S1
      | none => .bad) := by
  obtain ⟨hA, _⟩ := ba2 h
  obtain ⟨h1, h2⟩ := ba2 hA
  obtain ⟨l1, _⟩ := ba2 (List.all_eq_true.mp h1 (x, px) (by simp))
  obtain ⟨l2, _⟩ := ba2 (List.all_eq_true.mp h1 (y, py) (by simp))
  obtain ⟨l3, _⟩ := ba2 (List.all_eq_true.mp h1 (z, pz) (by simp))
  have hij : i ≠ j := fun q => by
    rw [q, hj] at hi
    exact ne (Option.some.inj hi).symm
  have hil : i ≠ l := fun q => by
    rw [q, hz] at hi
    exact ne2 (Option.some.inj hi).symm
  have hjl : j ≠ l := fun q => by
    rw [q, hz] at hj
    exact ne3 (Option.some.inj hj).symm
  refine PS.imp (ps_par3 ok.calm ok.nd (by rw [ok.N]; exact hi) (by rw [ok.N]; exact hj) (by rw [ok.N]; exact hz) hij hil hjl (by rw [ok.nm]; simpa using l1) (by rw [ok.nm]; simpa using l2) (by rw [ok.nm]; simpa using l3) ha (sw3 ok h ne ne2 ne3) rfl) fun D σ H ⟨as0, H0, as, ρ, S, st0, rs, hS, hl, w⟩ => ?_
  have li : i < n := by rw [← hn, ok.N]; exact (List.getElem?_eq_some_iff.mp hi).1
  have lj : j < n := by rw [← hn, ok.N]; exact (List.getElem?_eq_some_iff.mp hj).1
  have lz : l < n := by rw [← hn, ok.N]; exact (List.getElem?_eq_some_iff.mp hz).1
  refine rdDs.mk rs hS (lift_out st0 rs hl w) fun ds S1 as1 H1 vs w1 st1 r1 hS1 => ?_
  match ds, vs, r1, w1 with
  | [d, e, f], [u, v, t], r1, w1 =>
    refine ⟨u, v, t, rfl, w1 as1 H1 _ (st0.trans st1) st1.imm st1.pr hS1 (by rw [List.length_set, List.length_set, List.length_set]; exact hl) ?_⟩
    exact (((rs.step st1).set (by rw [hl]; exact li) r1.1).set (by rw [List.length_set, hl]; exact lj) r1.2.1).set (by rw [List.length_set, List.length_set, hl]; exact lz) r1.2.2.1
  | [], _, _, w1 => exact w1.elim
  | [d], _, _, w1 => exact w1.elim
  | [d, e], _, _, w1 => exact w1.elim
  | _ :: _ :: _ :: _ :: _, _, _, w1 => exact w1.elim
end
end Ev
set_option maxHeartbeats 4000000
/-! Ev, part 21: statements beside the text. -/
namespace Ev
open PySem PySem.Spec PyProof.Rows L2
def chkT (sc : SC) (c : Ex) (x : Expr) : Bool := tstE x && chkE sc c x
def nmB (sc : SC) (i : Nat) (x : Str) : Bool := decide (sc.N[i]? = some x) && (visB sc x && !odd x)
/-- a target -/
def chkG (sc : SC) : Tg → Expr → Bool
  | .nm i, .Name x _ => decide (sc.N[i]? = some x) && locB sc x
  | .sub o i, .Subscript x y _ => plainIx y && (chkE sc o x && chkE sc i y)
  | .osub j i, .Subscript (.Name x _) y _ => plainIx y && (nmB sc j x && chkE sc i y)
  | .att o f cs, .Attribute x m _ => (decide (m = Str.ofString f) && attB sc f cs) && chkE sc o x
  | .oatt j f cs, .Attribute (.Name x _) m _ => (decide (m = Str.ofString f) && attB sc f cs) && nmB sc j x
  | _, _ => false
def chkGs (sc : SC) : List Tg → List Expr → Bool
  | [], [] => true
  | t :: ts, e :: es => chkG sc t e && chkGs sc ts es
  | _, _ => false
/-- for k in o.f: if o.f[k] == x: return k; return None -/
def retKB (sc : SC) (o x : Ex) (l : Nat) (ts : List Stmt) : Bool := match o, x, ts with
  | .att (.var i) f cs, .var j, [.For (.Name lx _) (.Attribute (.Name s1 _) m1 _) [.If (.Compare (.Subscript (.Attribute (.Name s2 _) m2 _) (.Name l2 _) _) [.Eq] [.Name px _] _) [.Return (some (.Name l3 _)) _] [] _] [] _, .Return (some (.Constant .none _ _)) _] =>
    ((decide (m1 = Str.ofString f) && decide (m2 = Str.ofString f)) && ((decide (s2 = s1) && decide (l2 = lx)) && (decide (l3 = lx) && attB sc f cs))) && ((nmB sc i s1 && (nmB sc j px && nmB sc l lx)) && (locB sc lx && (decide (l ≠ i) && decide (l ≠ j))))
  | _, _, _ => false
mutual
def chkS (sc : SC) : St → Stmt → Bool
  | .asg t e, .Assign [tg] v _ => (!isComp v && !isTupT tg) && (chkG sc t tg && chkE sc e v)
  | .unp ts e, .Assign [.Tuple es _ _] v _ => (!isComp v && unpC sc es v) && (chkGs sc ts es && chkE sc e v)
  | .par [i, j] [e, f], .Assign [.Tuple [.Name x px, .Name y py] _ _] (.Tuple [a, b] _ _) _ => ((decide (sc.N[i]? = some x) && decide (sc.N[j]? = some y)) && decide (x ≠ y)) && (parB sc [(x, px), (y, py)] [a, b] && chkEs sc [e, f] [a, b])
  | .par [i, j, l] [e, f, g], .Assign [.Tuple [.Name x px, .Name y py, .Name z pz] _ _] (.Tuple [a, b, c] _ _) _ => (((decide (sc.N[i]? = some x) && decide (sc.N[j]? = some y)) && decide (sc.N[l]? = some z)) && ((decide (x ≠ y) && decide (x ≠ z)) && decide (y ≠ z))) && (parB sc [(x, px), (y, py), (z, pz)] [a, b, c] && chkEs sc [e, f, g] [a, b, c])
  | .own i nw, .Assign [.Name x _] v _ => (decide (sc.N[i]? = some x) && locB sc x) && chkN sc nw v
  | .ownD i j tg cond elt, .Assign [.Name x p] (.ListComp e gs s lp) _ => (decide (sc.N[i]? = some x) && swB sc x p (.ListComp e gs s lp)) && chkN sc (.comp tg .seq [.var j] cond elt) (.ListComp e gs s lp)
  | .omut i .append [e], .Expr (.Call (.Attribute (.Name x _) m apos) [y] [] cpos) _ => (nmB sc i x && decide (m = Str.ofString "append")) && ((apos.endLine == cpos.line && nostar y) && chkE sc e y)
  | .omut i .insert [e, e'], .Expr (.Call (.Attribute (.Name x _) m apos) [y, z] [] cpos) _ => (nmB sc i x && decide (m = Str.ofString "insert")) && ((apos.endLine == cpos.line && (nostar y && nostar z)) && (chkE sc e y && chkE sc e' z))
  | .omut i .extend [e], .Expr (.Call (.Attribute (.Name x _) m apos) [y] [] cpos) _ => (nmB sc i x && decide (m = Str.ofString "extend")) && ((apos.endLine == cpos.line && nostar y) && chkE sc e y)
  | .exp e, .Expr v _ => !isComp v && chkE sc e v
  | .ret e, .Return (some v) _ => chkE sc e v
  | .retN, .Return none _ => true
  | .retO i, .Return (some (.Name x _)) _ => nmB sc i x
  | .retF i, .Return (some (.Name x _)) _ => nmB sc i x
  | .retW nw, .Return (some v) _ => chkN sc nw v
  | .ifS c a b, .If x y z _ => chkT sc c x && (chkSs sc a y && chkSs sc b z)
  | .whl c a, .While x y [] _ => chkT sc c x && chkSs sc a y
  | .forS tg k src a, .For t it y [] _ => (match tgOf t with
    | none => false
    | some (tp, ts) => (match ownOf tg ts with
      | none => false
      | some own => ((tp == decide (tg.length ≠ 1)) && (notSet it && tgI k t)) && (tgB sc own && (chkI sc k src it && chkSs sc a y))))
  | .rais c [] [], .Raise (some (.Call (.Name x _) [.Constant (.str _) _ _] [] _)) none _ => decide (x = Str.ofString c) && raiB sc c
  | .tryS a c [i] [.asg (.nm j) (.var i2), .kill [i3]], .Try body [.ExceptHandler (some (.Name x _)) (some n) [.Assign [.Name y _] (.Name n2 _) _] _] [] [] _ =>
    (((decide (x = Str.ofString c) && erT sc c) && (decide (i2 = i) && decide (i3 = i))) && ((decide (sc.N[i]? = some n) && decide (sc.nm.lookup n = some .local)) && (decide (sc.N[j]? = some y) && decide (sc.nm.lookup y = some .local)))) && ((decide (i ≠ j) && (decide (n2 = n) && !odd n)) && chkSs sc a body)
  | .pass, .Pass _ => true
  | .brk, .Break _ => true
  | .nev, _ => true
  | .cnt, .Continue _ => true
  | _, _ => false
def chkSs (sc : SC) : List St → List Stmt → Bool
  | [], [] => true
  | .fz _ :: ss, ts => chkSs sc ss ts
  | .kill _ :: ss, ts => chkSs sc ss ts
  | [.retK o x l], ts => retKB sc o x l ts
  | s :: ss, t :: ts => chkS sc s t && chkSs sc ss ts
  | _, _ => false
end
section
variable {X : Cx} {sc : SC} {κ : Kx} {Φ : Fn} {Wx : L2.WX} {n : Nat} {pos : Pos}
theorem nmB_ok {i : Nat} {x : Str} (h : nmB sc i x = true) : sc.N[i]? = some x ∧ (visB sc x = true ∧ odd x = false) := by
  obtain ⟨h1, hb⟩ := ba2 h
  obtain ⟨h2, h3⟩ := ba2 hb
  exact ⟨of_decide_eq_true h1, h2, by simpa using h3⟩
theorem chkG_ok (ok : CxOk X sc κ Φ) (tk : Takes X Wx) (hn : X.N.length = n) {t : Tg} {e : Expr} (h : chkG sc t e = true) : PG X e (gR κ Wx n fun d ρ S => setT Φ d t ρ S) := by
  have al := (chk_all κ Φ).1.1
  cases t with
  | nm i =>
    cases e with
    | Name x p =>
      obtain ⟨h1, h2⟩ := ba2 h
      exact pg_nm ok hn (of_decide_eq_true h1) h2
    | _ => cases h
  | sub o i =>
    cases e with
    | Subscript x y p =>
      have h : (plainIx y && (chkE sc o x && chkE sc i y)) = true := h
      obtain ⟨h1, hb⟩ := ba2 h
      obtain ⟨h2, h3⟩ := ba2 hb
      exact pg_subC ok h1 (al _ _ _ X Wx ok tk h2).1 (al _ _ _ X Wx ok tk h3).1
    | _ => cases h
  | osub j i =>
    cases e with
    | Subscript x y p =>
      cases x with
      | Name x p2 =>
        have h : (plainIx y && (nmB sc j x && chkE sc i y)) = true := h
        obtain ⟨h1, hb⟩ := ba2 h
        obtain ⟨h2, h3⟩ := ba2 hb
        obtain ⟨k1, k2, k3⟩ := nmB_ok h2
        exact pg_subO ok h1 k1 k2 k3 (al _ _ _ X Wx ok tk h3).1
      | _ => cases h
    | _ => cases h
  | att o f cs =>
    cases e with
    | Attribute x m p =>
      have h : ((decide (m = Str.ofString f) && attB sc f cs) && chkE sc o x) = true := h
      obtain ⟨h1, h2⟩ := ba2 h
      obtain ⟨h1, h3⟩ := ba2 h1
      have h1 := of_decide_eq_true h1
      subst h1
      exact pg_attC ok h3 (al _ _ _ X Wx ok tk h2).1
    | _ => cases h
  | oatt j f cs =>
    cases e with
    | Attribute x m p =>
      cases x with
      | Name x p2 =>
        have h : ((decide (m = Str.ofString f) && attB sc f cs) && nmB sc j x) = true := h
        obtain ⟨h1, h2⟩ := ba2 h
        obtain ⟨h1, h3⟩ := ba2 h1
        have h1 := of_decide_eq_true h1
        subst h1
        obtain ⟨k1, k2, k3⟩ := nmB_ok h2
        exact pg_attO ok h3 k1 k2 k3
      | _ => cases h
    | _ => cases h
theorem each_cons {e : Expr} {es : List Expr} {env : PySem.Env} (h : ∀ x p, e ≠ .Starred x p) : assignEach (e :: es) env = (false, assign e env) :: assignEach es env := by
  cases e <;> first | rfl | exact absurd rfl (h _ _)
theorem chkG_star {t : Tg} {e : Expr} (h : chkG sc t e = true) : ∀ x p, e ≠ .Starred x p := by
  rintro x p rfl
  cases t <;> cases h
theorem chkGs_ok (ok : CxOk X sc κ Φ) (tk : Takes X Wx) (hn : X.N.length = n) : ∀ {ts : List Tg} {es : List Expr}, chkGs sc ts es = true →
    PGs X es (gRs κ Wx n fun ds ρ S => setTs Φ ts ds ρ S) ∧ (ts.length = es.length ∧ ((assignEach es X.env).length = es.length ∧ (assignEach es X.env).findIdx? (·.1) = none))
  | [], [], _ => by
    refine ⟨?_, rfl, rfl, rfl⟩
    have e : (fun (ds : List D) (ρ : Env) (S : Sto) => setTs Φ [] ds ρ S) = fun ds ρ S => match ds with
      | [] => .ok (.nx ρ) S
      | _ => .bad := by
      funext ds ρ S
      cases ds <;> rfl
    rw [e]
    exact gs_nil
  | [], _ :: _, h => by cases h
  | _ :: _, [], h => by cases h
  | t :: ts, e :: es, h => by
    have h : (chkG sc t e && chkGs sc ts es) = true := h
    obtain ⟨h1, h2⟩ := ba2 h
    obtain ⟨k1, k2, k3, k4⟩ := chkGs_ok ok tk hn h2
    have ec := each_cons (es := es) (env := X.env) (chkG_star h1)
    refine ⟨?_, by rw [List.length_cons, List.length_cons, k2], by rw [ec, List.length_cons, k3]; rfl, by rw [ec, List.findIdx?_cons, k4]; rfl⟩
    have e' : (fun (ds : List D) (ρ : Env) (S : Sto) => setTs Φ (t :: ts) ds ρ S) = fun ds ρ S => match ds with
      | d :: ds => (setT Φ d t ρ S).nx fun ρ1 S1 => setTs Φ ts ds ρ1 S1
      | [] => .bad := by
      funext ds ρ S
      cases ds <;> rfl
    rw [e']
    exact gs_cons (chkG_ok ok tk hn h1) k1 (by rw [ec]; rfl)
theorem kill_ok {κ : Kx} {as : List Addr} {H0 H : Hp} {σ : L2.St} {ρ : Env} (is : List Nat) (r : RelS κ as H0 H σ ρ) : RelS κ as H0 H σ (ρ.dels is) :=
  r.dels is
theorem retKB_ok (ok : CxOk X sc κ Φ) (hp : PassesOwn (model X.prog X.w) X.A X.env X.xe) (hn : X.N.length = n) {o x : Ex} {l : Nat} {ts : List Stmt} (h : retKB sc o x l ts = true) : PSs X ts (rdS κ Wx n fun ρ S => evS Φ (.retK o x l) ρ S) := by
  unfold retKB at h
  split at h
  · obtain ⟨hA, hB⟩ := ba2 h
    obtain ⟨hC, hD⟩ := ba2 hA
    obtain ⟨e1, e2⟩ := ba2 hC
    obtain ⟨hE, hF⟩ := ba2 hD
    obtain ⟨e3, e4⟩ := ba2 hE
    obtain ⟨e5, hat⟩ := ba2 hF
    obtain ⟨hG, hH⟩ := ba2 hB
    obtain ⟨n1, hI⟩ := ba2 hG
    obtain ⟨n2, n3⟩ := ba2 hI
    obtain ⟨hl, hJ⟩ := ba2 hH
    obtain ⟨d1, d2⟩ := ba2 hJ
    have e1 := of_decide_eq_true e1
    have e2 := of_decide_eq_true e2
    have e3 := of_decide_eq_true e3
    have e4 := of_decide_eq_true e4
    have e5 := of_decide_eq_true e5
    subst e1 e2 e3 e4 e5
    obtain ⟨a1, a2, a3⟩ := nmB_ok n1
    obtain ⟨b1, b2, b3⟩ := nmB_ok n2
    obtain ⟨c1, c2, c3⟩ := nmB_ok n3
    exact ps_retK ok hp hn a1 a2 a3 b1 b2 b3 c1 hl c2 c3 (of_decide_eq_true d1) (of_decide_eq_true d2) hat
  · cases h
def MoS (κ : Kx) (Φ : Fn) (sc : SC) (s : St) (t : Stmt) : Prop := ∀ X Wx, CxOk X sc κ Φ → Takes X Wx → PassesOwn (model X.prog X.w) X.A X.env X.xe → SxOk X → chkS sc s t = true → PS X t (rdS κ Wx X.N.length fun ρ S => evS Φ s ρ S)
def MoSs (κ : Kx) (Φ : Fn) (sc : SC) (s : List St) (t : List Stmt) : Prop := ∀ X Wx, CxOk X sc κ Φ → Takes X Wx → PassesOwn (model X.prog X.w) X.A X.env X.xe → SxOk X → chkSs sc s t = true → PSs X t (rdS κ Wx X.N.length fun ρ S => evSs Φ s ρ S)
theorem PS.rd {t : Stmt} {m m' : MS} (h : PS X t (rdS κ Wx n m)) (e : ∀ ρ S, m' ρ S = m ρ S) : PS X t (rdS κ Wx n m') := by
  rw [show m' = m from funext fun ρ => funext fun S => e ρ S]
  exact h
theorem PSs.rd {t : List Stmt} {m m' : MS} (h : PSs X t (rdS κ Wx n m)) (e : ∀ ρ S, m' ρ S = m ρ S) : PSs X t (rdS κ Wx n m') := by
  rw [show m' = m from funext fun ρ => funext fun S => e ρ S]
  exact h
theorem star1 {es : List Expr} (h : ∀ e ∈ es, nostar e = true) : True := trivial
end
theorem stm_all (κ : Kx) (Φ : Fn) (sc : SC) : (∀ s t, MoS κ Φ sc s t) ∧ (∀ s t, MoSs κ Φ sc s t) := by
  have al := chk_all κ Φ
  refine chkS.mutual_induct (motive_1 := MoS κ Φ sc) (motive_2 := MoSs κ Φ sc) ?_ ?_ ?_ ?_ ?_ ?_ ?_ ?_ ?_ ?_ ?_ ?_ ?_ ?_ ?_ ?_ ?_ ?_ ?_ ?_ ?_ ?_ ?_ ?_ ?_ ?_ ?_ ?_ ?_ ?_ ?_ ?_ ?_
  · -- asg
    intro t e tg v pos X Wx ok tk hp sx h
    obtain ⟨ha, hb⟩ := ba2 h
    obtain ⟨h1, h2⟩ := ba2 ha
    obtain ⟨h3, h4⟩ := ba2 hb
    refine PS.rd (ps_asgn (al.1.1 _ _ _ X Wx ok tk h4).1 (chkG_ok ok tk rfl h3) (by simpa using h1) (by simpa using h2) (by rw [each_cons (chkG_star h3)]; rfl)) fun ρ S => ?_
    rw [evS] <;> rfl
  · -- unp
    intro ts e es k p v pos X Wx ok tk hp sx h
    obtain ⟨ha, hb⟩ := ba2 h
    obtain ⟨h1, h2⟩ := ba2 ha
    obtain ⟨h3, h4⟩ := ba2 hb
    obtain ⟨k1, k2, k3, k4⟩ := chkGs_ok ok tk rfl h3
    have k1' : PGs X es (gRs κ Wx X.N.length fun ds ρ S => R.chk (decide (ds.length = ts.length)) (setTs Φ ts ds ρ S)) := by
      refine ⟨fun pins s σ H vs us Q I r ⟨as0, H0, as, ρ, S, ds, st0, rs, hS, hl, hd, w⟩ => k1.run pins s σ H vs us Q I r ⟨as0, H0, as, ρ, S, ds, st0, rs, hS, hl, hd, ?_⟩⟩
      exact (Out.of_chk w).2
    refine PS.rd (ps_unp ok (al.1.1 _ _ _ X Wx ok tk h4).1 k1' (by simpa using h1) (swC ok h2) (fun ds ρ S ne => ?_) k3 k4 rfl) fun ρ S => ?_
    · unfold R.chk
      rw [k2, decide_eq_false ne]
      rfl
    · rw [evS] <;> rfl
  · -- par
    intro i j e f x px y py kt pt a b k2 pt2 pos X Wx ok tk hp sx h
    obtain ⟨hA, hB⟩ := ba2 h
    obtain ⟨hC, h1⟩ := ba2 hA
    obtain ⟨h2, h3⟩ := ba2 hC
    obtain ⟨h4, h5⟩ := ba2 hB
    exact PS.rd (ps_par2 ok rfl (of_decide_eq_true h2) (of_decide_eq_true h3) h4 (of_decide_eq_true h1) (al.2.2.2 _ _ _ X Wx ok tk h5).1.1) fun ρ S => by rw [evS] <;> rfl
  · -- par of three
    intro i j l e f g x px y py z pz kt pt a b c k2 pt2 pos X Wx ok tk hp sx h
    obtain ⟨hA, hB⟩ := ba2 h
    obtain ⟨hC, h1⟩ := ba2 hA
    obtain ⟨hD, h2⟩ := ba2 hC
    obtain ⟨h3, h4⟩ := ba2 hD
    obtain ⟨hE, h5⟩ := ba2 h1
    obtain ⟨h6, h7⟩ := ba2 hE
    obtain ⟨h8, h9⟩ := ba2 hB
    exact PS.rd (ps_par3' ok rfl (of_decide_eq_true h3) (of_decide_eq_true h4) (of_decide_eq_true h2) h8 (of_decide_eq_true h6) (of_decide_eq_true h7) (of_decide_eq_true h5) (al.2.2.2 _ _ _ X Wx ok tk h9).1.1) fun ρ S => by rw [evS] <;> rfl
  · -- own
    intro i nw x p v pos X Wx ok tk hp sx h
    obtain ⟨ha, h1⟩ := ba2 h
    obtain ⟨h2, h3⟩ := ba2 ha
    exact PS.rd (ps_ownN ok tk rfl (of_decide_eq_true h2) h3 h1) fun ρ S => by rw [evS]
  · -- of one's own dict
    intro i j tg cond elt x p e gs s lp pos X Wx ok tk hp sx h
    obtain ⟨ha, h1⟩ := ba2 h
    obtain ⟨h2, h3⟩ := ba2 ha
    exact PS.rd (ps_ownD ok tk rfl (of_decide_eq_true h2) h3 h1) fun ρ S => by rw [evS] <;> rfl
  · -- append
    intro i e x p m apos y cpos pos X Wx ok tk hp sx h
    obtain ⟨ha, hb⟩ := ba2 h
    obtain ⟨h1, h2⟩ := ba2 ha
    obtain ⟨hc, h3⟩ := ba2 hb
    obtain ⟨h4, h5⟩ := ba2 hc
    obtain ⟨k1, k2, k3⟩ := nmB_ok h1
    have h2 := of_decide_eq_true h2
    subst h2
    have r : PA X [y] (rdDs κ Wx fun ρ S => evEs Φ ρ [e] S) := (al.2.2.2 sc [e] [y] X Wx ok tk (by simp [chkEs, h3, h5])).1.1
    exact PS.rd (ps_omut ok PySem.F.slot_list_append PySem.F.type_list_append (mt_app (X := X) (κ := κ)) k1 k2 k3 (fun e he => by rw [List.mem_singleton.mp he]; exact h5) (by simp) h4 r) fun ρ S => by rw [evS] <;> first | rfl | (intro z; cases z)
  · -- insert
    intro i e e' x p m apos y z cpos pos X Wx ok tk hp sx h
    obtain ⟨ha, hb⟩ := ba2 h
    obtain ⟨h1, h2⟩ := ba2 ha
    obtain ⟨hc, hd⟩ := ba2 hb
    obtain ⟨h4, he⟩ := ba2 hc
    obtain ⟨h5, h6⟩ := ba2 he
    obtain ⟨h3, h7⟩ := ba2 hd
    obtain ⟨k1, k2, k3⟩ := nmB_ok h1
    have h2 := of_decide_eq_true h2
    subst h2
    have r : PA X [y, z] (rdDs κ Wx fun ρ S => evEs Φ ρ [e, e'] S) := (al.2.2.2 sc [e, e'] [y, z] X Wx ok tk (by simp [chkEs, h3, h5, h6, h7])).1.1
    exact PS.rd (ps_omut ok PySem.F.slot_list_insert PySem.F.type_list_insert (mt_ins (X := X) (κ := κ)) k1 k2 k3 (fun e he => by
      rcases List.mem_cons.mp he with rfl | he
      · exact h5
      · rw [List.mem_singleton.mp he]; exact h6) (by simp) h4 r) fun ρ S => by rw [evS] <;> first | rfl | (intro z; cases z)
  · -- extend
    intro i e x p m apos y cpos pos X Wx ok tk hp sx h
    obtain ⟨ha, hb⟩ := ba2 h
    obtain ⟨h1, h2⟩ := ba2 ha
    obtain ⟨hc, h3⟩ := ba2 hb
    obtain ⟨h4, h5⟩ := ba2 hc
    obtain ⟨k1, k2, k3⟩ := nmB_ok h1
    have h2 := of_decide_eq_true h2
    subst h2
    exact PS.rd (ps_oext ok k1 k2 k3 h5 h4 (al.1.1 _ _ _ X Wx ok tk h3).1) fun ρ S => by rw [evS, congrFun (congrFun evEs_one ρ) S]; rfl
  · -- exp
    intro e v pos X Wx ok tk hp sx h
    obtain ⟨h1, h2⟩ := ba2 h
    exact PS.rd (ps_exp (al.1.1 _ _ _ X Wx ok tk h2).1 (by simpa using h1)) fun ρ S => by rw [evS] <;> rfl
  · -- ret
    intro e v pos X Wx ok tk hp sx h
    have h : chkE sc e v = true := h
    exact PS.rd (ps_rete (al.1.1 _ _ _ X Wx ok tk h).1) fun ρ S => by rw [evS] <;> rfl
  · -- retN
    intro pos X Wx ok tk hp sx h
    exact PS.rd ps_retn fun ρ S => by rw [evS]
  · -- retO
    intro i x p pos X Wx ok tk hp sx h
    obtain ⟨k1, k2, k3⟩ := nmB_ok h
    exact PS.rd (ps_reto ok k1 k2 k3) fun ρ S => by rw [evS] <;> rfl
  · -- retF
    intro i x p pos X Wx ok tk hp sx h
    obtain ⟨k1, k2, k3⟩ := nmB_ok h
    exact PS.rd (ps_retf ok k1 k2 k3) fun ρ S => by rw [evS] <;> rfl
  · -- retW
    intro nw v pos X Wx ok tk hp sx h
    have h : chkN sc nw v = true := h
    exact PS.rd (ps_retw (al.1.2 _ _ _ X Wx ok tk h)) fun ρ S => by rw [evS]
  · -- if
    intro c a b x y z pos ia ib X Wx ok tk hp sx h
    obtain ⟨h0, hb⟩ := ba2 h
    obtain ⟨h1, h2⟩ := ba2 hb
    obtain ⟨t1, t2⟩ := ba2 h0
    exact PS.rd (ps_ifs ((al.1.1 _ _ _ X Wx ok tk t2).2 t1) (ia X Wx ok tk hp sx h1) (ib X Wx ok tk hp sx h2)) fun ρ S => by rw [evS] <;> rfl
  · -- while
    intro c a x y pos ia X Wx ok tk hp sx h
    obtain ⟨h0, h1⟩ := ba2 h
    obtain ⟨t1, t2⟩ := ba2 h0
    exact PS.rd (ps_whl hp ((al.1.1 _ _ _ X Wx ok tk t2).2 t1) (ia X Wx ok tk hp sx h1)) fun ρ S => by rw [evS] <;> rfl
  · intros
    intro X Wx ok tk hp sx h
    simp_all [chkS]
  · intros
    intro X Wx ok tk hp sx h
    simp_all [chkS]
  · -- for
    intro tg k src a t it y pos tp ts e1 own e2 ia X Wx ok tk hp sx h
    have h : (((tp == decide (tg.length ≠ 1)) && (notSet it && tgI k t)) && (tgB sc own && (chkI sc k src it && chkSs sc a y))) = true := by
      rw [chkS, e1] at h
      simp only [e2] at h
      exact h
    obtain ⟨ha, hb⟩ := ba2 h
    obtain ⟨h1, h2⟩ := ba2 ha
    obtain ⟨h3, hc⟩ := ba2 hb
    obtain ⟨h4, h5⟩ := ba2 hc
    have h1 : tp = decide (tg.length ≠ 1) := eq_of_beq h1
    obtain ⟨q1, q2, _⟩ := own_pgs ok e2 h3
    exact PS.rd (ps_forr ok rfl hp (al.2.1.2 _ _ _ _ X Wx ok tk h4 t (ba2 h2).2) q2 (own_pg ok e1 e2 h3 h1) (notSet_ok (ba2 h2).1) (ia X Wx ok tk hp sx h5)) fun ρ S => by rw [evS] <;> rfl
  · -- raise
    intro c x p1 m j p2 p3 pos X Wx ok tk hp sx h
    obtain ⟨h1, h2⟩ := ba2 (show (decide (x = Str.ofString c) && raiB sc c) = true by rw [chkS] at h <;> exact h)
    have h1 := of_decide_eq_true h1
    subst h1
    exact PS.rd (ps_rais ok tk h2) fun ρ S => by rw [evS, evEs] <;> rfl
  · -- try
    intro a c i j i2 i3 body x p1 n y p2 n2 p3 p4 p5 pos ia X Wx ok tk hp sx h
    have h : ((((decide (x = Str.ofString c) && erT sc c) && (decide (i2 = i) && decide (i3 = i))) && ((decide (sc.N[i]? = some n) && decide (sc.nm.lookup n = some .local)) && (decide (sc.N[j]? = some y) && decide (sc.nm.lookup y = some .local)))) && ((decide (i ≠ j) && (decide (n2 = n) && !odd n)) && chkSs sc a body)) = true := by rw [chkS] at h <;> exact h
    obtain ⟨hA, hB⟩ := ba2 h
    obtain ⟨hA, hC⟩ := ba2 hA
    obtain ⟨hA, hD⟩ := ba2 hA
    obtain ⟨h1, h2⟩ := ba2 hA
    obtain ⟨h3, h4⟩ := ba2 hD
    obtain ⟨hE, hF⟩ := ba2 hC
    obtain ⟨h5, h6⟩ := ba2 hE
    obtain ⟨h7, h8⟩ := ba2 hF
    obtain ⟨hG, h9⟩ := ba2 hB
    obtain ⟨h10, hH⟩ := ba2 hG
    obtain ⟨h11, h12⟩ := ba2 hH
    have h1 := of_decide_eq_true h1
    have h3 := of_decide_eq_true h3
    have h4 := of_decide_eq_true h4
    have h11 := of_decide_eq_true h11
    subst h1 h3 h4 h11
    refine PS.rd (ps_tryk ok tk sx rfl (of_decide_eq_true h5) (of_decide_eq_true h6) (of_decide_eq_true h7) (of_decide_eq_true h8) (of_decide_eq_true h10) (by simpa using h12) h2 fun W pn xe tk' hp' => ia (X.tr pn xe) W (ok.tr pn xe) tk' hp' (sx.tr pn xe) h9) fun ρ S => ?_
    rw [evS]
    rfl
  · intro pos X Wx ok tk hp sx h
    exact PS.rd ps_pas fun ρ S => by rw [evS]
  · intro pos X Wx ok tk hp sx h
    exact PS.rd ps_brk fun ρ S => by rw [evS]
  · intro t X Wx ok tk hp sx h
    exact PS.rd ps_nev fun ρ S => by rw [evS]
  · intro pos X Wx ok tk hp sx h
    exact PS.rd ps_cnt fun ρ S => by rw [evS]
  · intros
    intro X Wx ok tk hp sx h
    rw [chkS] at h <;> first | assumption | cases h
  · intro X Wx ok tk hp sx h
    exact PSs.rd ss_nil fun ρ S => by rw [evSs]
  · intro i ss ts ir X Wx ok tk hp sx h
    have h : chkSs sc ss ts = true := by rw [chkSs] at h; exact h
    exact PSs.rd (ss_fz (i := i) (ir X Wx ok tk hp sx h)) fun ρ S => by rw [evSs, evS] <;> rfl
  · intro is ss ts ir X Wx ok tk hp sx h
    have h : chkSs sc ss ts = true := by rw [chkSs] at h; exact h
    exact PSs.rd (ss_skip (f := fun ρ => ρ.dels is) (fun _ _ _ _ _ r => r.dels is) (ir X Wx ok tk hp sx h)) fun ρ S => by rw [evSs, evS]
  · -- the key that holds a thing
    intro o x l ts X Wx ok tk hp sx h
    have h : retKB sc o x l ts = true := by rw [chkSs] at h <;> first | exact h | assumption
    exact PSs.rd (retKB_ok ok hp rfl h) fun ρ S => by
      rw [evSs]
      cases evS Φ (.retK o x l) ρ S with
      | ok fl S1 => cases fl <;> first | rfl | (simp only [R.nx, evSs])
      | _ => rfl
  · intro s ss t ts n1 n2 n3 i1 i2 X Wx ok tk hp sx h
    have h : (chkS sc s t && chkSs sc ss ts) = true := by rw [chkSs] at h <;> first | exact h | assumption
    obtain ⟨h1, h2⟩ := ba2 h
    exact PSs.rd (ss_cons (i1 X Wx ok tk hp sx h1) (i2 X Wx ok tk hp sx h2)) fun ρ S => by rw [evSs]
  · intros
    intro X Wx ok tk hp sx h
    rw [chkSs] at h <;> first | assumption | cases h
end Ev
set_option maxHeartbeats 4000000
/-! Ev, part 22: functions. -/
namespace Ev
open PySem PySem.Spec PyProof.Rows L2
theorem zip_look : ∀ {ps : List Str} {us : List Value}, ps.Nodup → ∀ q ∈ ps.zip us, (ps.zip us).lookup q.1 = some q.2
  | [], us, _, q, h => by simp at h
  | p :: ps, [], _, q, h => by simp at h
  | p :: ps, u :: us, nd, q, h => by
    rw [List.zip_cons_cons] at h ⊢
    obtain ⟨n1, n2⟩ := List.nodup_cons.mp nd
    rcases List.mem_cons.mp h with rfl | h
    · simp
    · have hm : q.1 ∈ ps := (List.of_mem_zip (a := q.1) (b := q.2) h).1
      have ne : (q.1 == p) = false := by
        apply Bool.eq_false_iff.mpr
        intro z
        have z : q.1 = p := eq_of_beq z
        rw [z] at hm
        exact n1 hm
      rw [List.lookup_cons, ne]
      exact zip_look n2 q h
theorem zip_back {L : List (Str × Value)} : ∀ {ps : List Str} {us : List Value}, us.length = ps.length → (∀ q ∈ ps.zip us, L.lookup q.1 = some q.2) → ps.filterMap (fun n => (L.lookup n).map (n, ·)) = ps.zip us
  | [], us, _, _ => by simp
  | p :: ps, [], h, _ => by simp at h
  | p :: ps, u :: us, h, k => by
    have e := k (p, u) (by simp)
    have e : L.lookup p = some u := e
    rw [List.filterMap_cons, e, List.zip_cons_cons, Option.map_some]
    show (p, u) :: _ = _
    rw [zip_back (by simpa using h) fun q hq => k q (by rw [List.zip_cons_cons]; exact List.mem_cons_of_mem _ hq)]
theorem zip_none {L : List (Str × Value)} : ∀ {ps : List Str} {us : List Value}, us.length = ps.length → (∀ q ∈ ps.zip us, L.lookup q.1 = some q.2) → ps.filter (fun n => (L.lookup n).isNone) = []
  | [], us, _, _ => by simp
  | p :: ps, [], h, _ => by simp at h
  | p :: ps, u :: us, h, k => by
    have e := k (p, u) (by simp)
    have e : L.lookup p = some u := e
    rw [List.filter_cons, e]
    exact zip_none (by simpa using h) fun q hq => k q (by rw [List.zip_cons_cons]; exact List.mem_cons_of_mem _ hq)
/-- what binds without any default -/
def plainB (a : Arguments) : Bool := (a.posonlyargs.isEmpty && a.vararg.isNone) && (a.kwonlyargs.isEmpty && a.kwarg.isNone)
theorem bind_plain {x qual : Str} {params : Arguments} {body : List Stmt} {scope : Scope} {kV doc pm : Value} {an : Option Addr} {cdv ct : Value} {us : List Value} (h : plainB params = true) (nd : (params.args.map (·.arg)).Nodup) (hl : us.length = (params.args.map (·.arg)).length) :
    bindArgs (PySem.W.fnOf x qual params body scope .none kV doc pm an cdv ct) ⟨us, []⟩ = pure ((params.args.map (·.arg)).zip us) := by
  obtain ⟨ha, hb⟩ := ba2 h
  obtain ⟨h1, h2⟩ := ba2 ha
  obtain ⟨h3, h4⟩ := ba2 hb
  obtain ⟨po, ar, va, ko, kd, ka, df⟩ := params
  have gh1 : po = [] := by simpa using h1
  have gh2 : va = none := by simpa using h2
  have gh3 : ko = [] := by simpa using h3
  have gh4 : ka = none := by simpa using h4
  clear h1 h2 h3 h4 ha hb h
  subst gh1 gh2 gh3 gh4
  simp only at nd hl
  have e1 := zip_back (L := (ar.map (·.arg)).zip us) hl fun q hq => zip_look nd q hq
  have e2 := zip_none (L := (ar.map (·.arg)).zip us) hl fun q hq => zip_look nd q hq
  have hs : seqItems? Value.none = pure none := rfl
  unfold bindArgs
  simp only [PySem.W.fnOf, List.map_nil, List.nil_append, List.append_nil, hs, pure_bind, Option.getD_none, List.length_nil, Nat.sub_zero, List.forIn_nil, List.drop_nil]
  have d1 : decide (us.length > (List.map (fun x => x.arg) ar).length) = false := decide_eq_false (by omega)
  simp only [d1, Bool.false_and, List.take_length, e2, List.isEmpty_nil, Bool.not_true, List.drop_length, List.zip_nil_left, List.forIn_nil, pure_bind, e1]
  rfl
/-! ### a function's promise -/
def clOf (scope : Scope) : List Str := (scope.names.filter fun p => p.2 == .cell).map (·.1)
/-- is a def's body as its little program says -/
def chkF (N : List Str) (fns : List (Nat × Str)) (cs : List (String × D)) (ci : List CI) (fd : Fd) (params : Arguments) (body : List Stmt) (scope : Scope) : Bool :=
  ((decide (fd.nn = N.length) && decide (fd.ps = params.args.length)) && plainB params) &&
  (((match scope.kind with | .function => true | _ => false) && (!scope.isCoroutine && !scope.isGenerator)) &&
  ((decide N.Nodup && decide (N.take params.args.length = params.args.map (·.arg))) &&
  ((params.args.all fun a => match scope.names.lookup a.arg with | some .local => true | some .cell => true | _ => false) &&
  ((scope.names.all fun y => match y.2 with | .free => false | _ => true) && chkSs ⟨N, scope.names, clOf scope, fns, cs, ci⟩ fd.body body))))
theorem chkF_plain {N : List Str} {fns : List (Nat × Str)} {cs : List (String × D)} {ci : List CI} {fd : Fd} {params : Arguments} {body : List Stmt} {scope : Scope} (h : chkF N fns cs ci fd params body scope = true) : plainB params = true := by
  obtain ⟨hA, _⟩ := ba2 h
  exact (ba2 hA).2
theorem chkF_nd {N : List Str} {fns : List (Nat × Str)} {cs : List (String × D)} {ci : List CI} {fd : Fd} {params : Arguments} {body : List Stmt} {scope : Scope} (h : chkF N fns cs ci fd params body scope = true) : (params.args.map (·.arg)).Nodup := by
  obtain ⟨_, hB⟩ := ba2 h
  obtain ⟨_, hG⟩ := ba2 hB
  obtain ⟨hJ, _⟩ := ba2 hG
  obtain ⟨c8, c9⟩ := ba2 hJ
  rw [← of_decide_eq_true c9]
  exact (of_decide_eq_true c8).sublist (List.take_sublist _ _)
theorem get_app {ds : List D} {m i : Nat} {w : W} (h : Env.get (ds.map (fun d => some (.d d)) ++ List.replicate m none) i = some w) : ∃ d, ds[i]? = some d ∧ w = .d d := by
  induction ds generalizing i with
  | nil =>
    induction m generalizing i with
    | zero => cases h
    | succ m ih =>
      cases i with
      | zero => cases h
      | succ i => exact ih (i := i) h |>.elim fun d z => by cases z.1
  | cons d ds ih =>
    cases i with
    | zero =>
      have h : some (W.d d) = some w := h
      cases h
      exact ⟨d, rfl, rfl⟩
    | succ i =>
      obtain ⟨x, h1, h2⟩ := ih (i := i) h
      exact ⟨x, h1, h2⟩
theorem rel_start {κ : Kx} {as : List Addr} {H : Hp} {ds : List D} {vs : List V} {N : List Str} (h : IsDs κ as H ds vs) : RelS κ as H H (L2.start N vs) (ds.map (fun d => some (.d d)) ++ List.replicate (N.length - ds.length) none) := by
  refine ⟨fun i d e => ?_, fun i c e => ?_, fun i j c e a _ e1 _ _ => ?_⟩
  · obtain ⟨x, h1, h2⟩ := get_app e
    cases h2
    obtain ⟨v, h3, h4⟩ := h.get h1
    refine ⟨v, ?_, h4⟩
    unfold L2.start
    obtain ⟨hlt, hv⟩ := List.getElem?_eq_some_iff.mp h3
    rw [List.getElem?_append_left (by simpa using hlt), List.getElem?_map, h3]
    rfl
  · obtain ⟨x, _, h2⟩ := get_app e
    cases h2
  · obtain ⟨x, _, h2⟩ := get_app e1
    cases h2
/-- what a check of a body gives -/
structure ChkF (N : List Str) (fns : List (Nat × Str)) (cs : List (String × D)) (ci : List CI) (fd : Fd) (params : Arguments) (body : List Stmt) (scope : Scope) : Prop where
  nn : fd.nn = N.length
  ps : fd.ps = params.args.length
  pl : plainB params = true
  S : FnScope N (params.args.map (·.arg)) scope
  ss : chkSs ⟨N, scope.names, clOf scope, fns, cs, ci⟩ fd.body body = true
  le : params.args.length ≤ N.length
theorem chkF_ok {N : List Str} {fns : List (Nat × Str)} {cs : List (String × D)} {ci : List CI} {fd : Fd} {params : Arguments} {body : List Stmt} {scope : Scope} (h : chkF N fns cs ci fd params body scope = true) : ChkF N fns cs ci fd params body scope := by
  obtain ⟨hA, hB⟩ := ba2 h
  obtain ⟨hC, c4⟩ := ba2 hA
  obtain ⟨c1, c2⟩ := ba2 hC
  obtain ⟨hE, hG⟩ := ba2 hB
  obtain ⟨c5, hI⟩ := ba2 hE
  obtain ⟨c6, c7⟩ := ba2 hI
  obtain ⟨hJ, hL⟩ := ba2 hG
  obtain ⟨c8, c9⟩ := ba2 hJ
  obtain ⟨c10, hM⟩ := ba2 hL
  obtain ⟨c11, c12⟩ := ba2 hM
  have c9 := of_decide_eq_true c9
  have c8 := of_decide_eq_true c8
  have c5 : scope.kind = .function := by
    split at c5
    · assumption
    · cases c5
  refine ⟨of_decide_eq_true c1, of_decide_eq_true c2, c4, ?_, c12, ?_⟩
  · refine ⟨c5, by simpa using c6, by simpa using c7, c8, by rw [List.length_map]; exact c9, fun y hy => ?_, fun y hy => ?_⟩
    · obtain ⟨a, ha, rfl⟩ := List.mem_map.mp hy
      have q := List.all_eq_true.mp c10 a ha
      split at q
      · rename_i e; exact .inl e
      · rename_i e; exact .inr e
      · cases q
    · have q := List.all_eq_true.mp c11 y hy
      split at q
      · cases q
      · rename_i e; exact fun z => e z
  · have := congrArg List.length c9
    rw [List.length_take, List.length_map] at this
    omega
/-- what is known of the classes, ahead of any call -/
structure CiK (P : Program) (w : World) (K : PySem.W.Frag) (mg : Str → Option Value) (base : Heap) (κ : Kx) (Φ : Fn) (k : Nat) (i : CI) : Prop where
  glo : mg (Str.ofString i.c) = some (.ref (He.ga K (Str.ofString i.c)))
  cls : Cls K (He.ga K (Str.ofString i.c))
  noat : ∀ f ∈ i.fs, NoAttr K (He.ga K (Str.ofString i.c)) (Str.ofString f)
  meth : ∀ m j, (m, j) ∈ i.ms → ∃ (fd : FuncData) (ps : List Str), Meth K (He.ga K (Str.ofString i.c)) (Str.ofString m) (He.ma K (He.ga K (Str.ofString i.c)) (Str.ofString m)) ∧ Binds K fd ps [] ∧ FnOk P w K mg base (L2.CX P w) k (He.ma K (He.ga K (Str.ofString i.c)) (Str.ofString m)) fd ps (spOf κ (Φ j))
  maker : ∀ j, i.ini = some j → ∃ (fd : FuncData) (ps : List Str), Mk K (He.ga K (Str.ofString i.c)) (He.ma K (He.ga K (Str.ofString i.c)) "__init__") ∧ Binds K fd ps [] ∧ FnOk P w K mg base (L2.CX P w) k (He.ma K (He.ga K (Str.ofString i.c)) "__init__") fd ps (spI κ i.c (Φ j))
section
variable {P : Program} {w : World} {K : PySem.W.Frag} {mg : Str → Option Value} {base : Heap} {x qual : Str} {params : Arguments} {body : List Stmt} {scope : Scope} {f : Addr} {fdd : FuncData} {k : Nat} {κ : Kx} {Φ : Fn} {N : List Str} {fns : List (Nat × Str)} {cs : List (String × D)} {ci : List CI} {fd : Fd}
theorem cx_ok {cdv : Value} {A : Around} {outer : List PySem.Env} {s : Shared} {H : Hp} {E : XK} (hκ : κ.K = K) (hw : κ.w = w) (c : ChkF N fns cs ci fd params body scope) (hb : ∀ x ∈ bltNames, mg (Str.ofString x) = none)
    (hf : ∀ j y, fns.lookup j = some y → ∃ (a : Addr) (fd' : FuncData) (ps' : List Str), mg y = some (.ref a) ∧ PySem.W.keepIn K (.ref a) = true ∧ Binds K fd' ps' [] ∧ FnOk P w K mg base (L2.CX P w) k a fd' ps' (spOf κ (Φ j)))
    (hcs : CsOk K mg κ cs) (hci : ∀ i ∈ ci, CiK P w K mg base κ Φ k i)
    (hr : Room (k + 2) (cxOf (L2.CX P w) P w K mg base N qual scope f cdv A outer s H E).A) : CxOk (cxOf (L2.CX P w) P w K mg base N qual scope f cdv A outer s H E) ⟨N, scope.names, clOf scope, fns, cs, ci⟩ κ Φ := by
  refine ⟨hκ, hw, rfl, c.S.nd, rfl, c.S.kind, rfl, ?_, fun y hy => .inl rfl, hb, fun j y e => ?_, hcs, fun i hi => ?_⟩
  · have := hr.un
    omega
  · obtain ⟨a, fd', ps', h1, h2, h3, h4⟩ := hf j y e
    exact ⟨a, fd', ps', k, h1, h2, h3, h4, hr⟩
  · have z := hci i hi
    refine ⟨z.glo, z.cls, z.noat, fun m j h => ?_, fun j h => ?_⟩
    · obtain ⟨fd', ps', h1, h2, h3⟩ := z.meth m j h
      exact ⟨fd', ps', k, h1, h2, h3, hr⟩
    · obtain ⟨fd', ps', h1, h2, h3⟩ := z.maker j h
      exact ⟨fd', ps', k, h1, h2, h3, hr⟩
theorem start_len {vs : List V} (h : vs.length ≤ N.length) : (L2.start N vs).length = N.length := by
  unfold L2.start
  rw [List.length_append, List.length_map, List.length_replicate]
  omega
/-- THE RULE of a function -/
theorem fn_ok (hκ : κ.K = K) (hw : κ.w = w) (F : FunD K x qual params body scope [] [] f fdd) (hi : fd.ini = none) (hc : chkF N fns cs ci fd params body scope = true) (hb : ∀ x ∈ bltNames, mg (Str.ofString x) = none)
    (hf : ∀ j y, fns.lookup j = some y → ∃ (a : Addr) (fd' : FuncData) (ps' : List Str), mg y = some (.ref a) ∧ PySem.W.keepIn K (.ref a) = true ∧ Binds K fd' ps' [] ∧ FnOk P w K mg base (L2.CX P w) k a fd' ps' (spOf κ (Φ j)))
    (hcs : CsOk K mg κ cs) (hci : ∀ i ∈ ci, CiK P w K mg base κ Φ k i) :
    FnOk P w K mg base (L2.CX P w) (k + 3) f fdd (params.args.map (·.arg)) (spOf κ (evF Φ fd)) := by
  have c := chkF_ok hc
  have out : ∀ {ds : List D} {S : Sto} {k : W → Sto → Prop} {ke : D → Sto → Prop}, Out (evF Φ fd ds S) k ke → ds.length = fd.ps ∧ Out (match evSs Φ fd.body (ds.map (fun d => some (.d d)) ++ List.replicate (fd.nn - ds.length) none) S with
    | .ok (.nx _) S1 => .ok (.d .non) S1
    | .ok (.rt w) S1 => .ok w S1
    | .ok (.ex e _) S1 => .exc e S1
    | _ => .bad) k ke := fun {ds S k ke} h => by
    unfold evF at h
    simp only [hi] at h
    by_cases z : ds.length = fd.ps
    · rw [if_pos z] at h
      exact ⟨z, h⟩
    · rw [if_neg z] at h
      exact h.elim
  refine F.ok c.S (fun vs H Q E ⟨as, ds, S, rd, hS, o⟩ => ?_) (fun cdv A outer s H vs Q E hr ⟨as, ds, S0, rd, hS, o⟩ => ?_)
  · rw [List.length_map, ← c.ps, ← (out o).1, rd.length]
  · refine ⟨rdS κ (fun cls d _ H => E cls d H) N.length fun ρ S => evSs Φ fd.body ρ S, ?_, ?_⟩
    · exact (stm_all κ Φ _).2 _ _ _ _ (cx_ok hκ hw c hb hf hcs hci hr) (takes_of rfl rfl rfl rfl) (passes_of rfl) ⟨rfl, rfl, rfl⟩ c.ss
    · obtain ⟨hl, o2⟩ := out o
      have hle := c.le
      have hps := c.ps
      have hrl := rd.length
      refine ⟨as, H, as, _, S0, Step.refl, rel_start rd, hS, start_len (by omega), ?_⟩
      rw [c.nn] at o2
      show Out (evSs Φ fd.body (ds.map (fun d => some (.d d)) ++ List.replicate (N.length - ds.length) none) S0) _ _
      cases q : evSs Φ fd.body (ds.map (fun d => some (.d d)) ++ List.replicate (N.length - ds.length) none) S0 with
      | bad => rw [q] at o2; exact o2
      | exc e S1 => rw [q] at o2; exact o2
      | ok fl S1 =>
        rw [q] at o2
        cases fl with
        | nx ρ => exact fun as' H' σ' st im pr hS' hl' rs' => o2 as' H' .non st rfl hS'
        | bk ρ => exact o2.elim
        | ct ρ => exact o2.elim
        | rt wv => cases wv with
          | d x => exact fun as' H' σ' st im pr hS' hl' v hv => o2 as' H' v st hv hS'
          | own c => exact fun as' H' σ' st im pr hS' hl' a na ni rc => o2 as' H' a st na ni rc hS'
        | ex e ρ => exact fun as' H' σ' st im pr hS' hl' rs' cls dd hx => o2 as' H' cls dd st hx hS'
theorem rel_startI {as : List Addr} {H1 H : Hp} {ds : List D} {vs : List V} {xa : Addr} {cell : Cell} (n0 : H1 xa = none) (ni : xa ∉ as) (rc : RepC κ as H xa cell) (h : IsDs κ as H ds vs) :
    RelS κ as H1 H (L2.start N (.ref xa :: vs)) (some (.own cell) :: (ds.map (fun d => some (.d d)) ++ List.replicate (N.length - (ds.length + 1)) none)) := by
  have own0 : ∀ i c, Env.get (some (W.own cell) :: (ds.map (fun d => some (.d d)) ++ List.replicate (N.length - (ds.length + 1)) none)) i = some (.own c) → i = 0 ∧ c = cell := fun i c e => by
    cases i with
    | zero => cases (show some (W.own cell) = some (.own c) from e); exact ⟨rfl, rfl⟩
    | succ i =>
      obtain ⟨x, _, h2⟩ := get_app (show Env.get (ds.map (fun d => some (.d d)) ++ List.replicate (N.length - (ds.length + 1)) none) i = some (.own c) from e)
      cases h2
  refine ⟨fun i d e => ?_, fun i c e => ?_, fun i j c e a ne e1 e2 => ?_⟩
  · cases i with
    | zero => cases (show some (W.own cell) = some (.d d) from e)
    | succ i =>
      obtain ⟨x, h1, h2⟩ := get_app (show Env.get (ds.map (fun d => some (.d d)) ++ List.replicate (N.length - (ds.length + 1)) none) i = some (.d d) from e)
      cases h2
      obtain ⟨v, h3, h4⟩ := h.get h1
      refine ⟨v, ?_, h4⟩
      unfold L2.start
      obtain ⟨hlt, hv⟩ := List.getElem?_eq_some_iff.mp h3
      rw [List.getElem?_append_left (by simpa using hlt), List.getElem?_map, List.getElem?_cons_succ, h3]
      rfl
  · obtain ⟨rfl, rfl⟩ := own0 i c e
    exact ⟨xa, by unfold L2.start; rfl, ni, n0, rc⟩
  · obtain ⟨rfl, _⟩ := own0 i c e1
    obtain ⟨rfl, _⟩ := own0 j e e2
    exact absurd rfl ne
/-- .. of a class's __init__ -/
theorem fn_okI {c : String} (hκ : κ.K = K) (hw : κ.w = w) (F : FunD K x qual params body scope [] [] f fdd) (hi : fd.ini = some c) (hc : chkF N fns cs ci fd params body scope = true) (hb : ∀ x ∈ bltNames, mg (Str.ofString x) = none)
    (hf : ∀ j y, fns.lookup j = some y → ∃ (a : Addr) (fd' : FuncData) (ps' : List Str), mg y = some (.ref a) ∧ PySem.W.keepIn K (.ref a) = true ∧ Binds K fd' ps' [] ∧ FnOk P w K mg base (L2.CX P w) k a fd' ps' (spOf κ (Φ j)))
    (hcs : CsOk K mg κ cs) (hci : ∀ i ∈ ci, CiK P w K mg base κ Φ k i) :
    FnOk P w K mg base (L2.CX P w) (k + 3) f fdd (params.args.map (·.arg)) (spI κ c (evF Φ fd)) := by
  have cc := chkF_ok hc
  have out : ∀ {x : Nat} {ds : List D} {S : Sto} {k : W → Sto → Prop} {ke : D → Sto → Prop}, Out (evF Φ fd (.int x :: ds) S) k ke → ds.length + 1 = fd.ps ∧ Out (match evSs Φ fd.body (some (.own (.obj (some x) c [])) :: (ds.map (fun d => some (.d d)) ++ List.replicate (fd.nn - (ds.length + 1)) none)) S with
    | .ok (.nx ρ) S1 => R.of S1 (ρ.get 0)
    | .ok (.ex e _) S1 => .exc e S1
    | _ => .bad) k ke := fun {x ds S k ke} h => by
    unfold evF at h
    simp only [hi] at h
    by_cases z : (D.int x :: ds).length = fd.ps
    · rw [if_pos z] at h
      exact ⟨z, h⟩
    · rw [if_neg z] at h
      exact h.elim
  refine F.ok cc.S (fun vs H Q E ⟨x, dx, rest, H1, as, ds, S, e, hx, hdx, ne, eH, rd, hS, o⟩ => ?_) (fun cdv A outer s H vs Q E hr ⟨x, dx, rest, H1, as, ds, S0, e, hx, hdx, ne, eH, rd, hS, o⟩ => ?_)
  · rw [e, List.length_map, ← cc.ps, ← (out o).1, rd.length]
    rfl
  · subst e
    refine ⟨rdS κ (fun cls d _ H => E cls d H) N.length fun ρ S => evSs Φ fd.body ρ S, ?_, ?_⟩
    · exact (stm_all κ Φ _).2 _ _ _ _ (cx_ok hκ hw cc hb hf hcs hci hr) (takes_of rfl rfl rfl rfl) (passes_of rfl) ⟨rfl, rfl, rfl⟩ cc.ss
    · obtain ⟨hl, o2⟩ := out o
      have hle := cc.le
      have hps := cc.ps
      have hrl := rd.length
      have hx2 : upd H1 dx (.own x) x = none := by rw [upd_ne (Ne.symm ne)]; exact hx
      have s1 : Step as H1 as (upd H1 dx (.own x)) := Step.new hdx
      have s2 : Step as (upd H1 dx (.own x)) as H := by rw [eH]; exact Step.new hx2
      have st0 := s1.trans s2
      have hS2 : RepS κ as H S0 := by rw [eH]; exact RepS.new hx2 (RepS.new hdx hS)
      have rc : RepC κ as H x (.obj (some x) c []) := ⟨dx, [], by rw [eH]; exact upd_same, fun g _ => rfl, True.intro, fun y e => (by cases e; rfl), Nat.le_refl _⟩
      have ni : x ∉ as := fresh hx hS
      refine ⟨as, H1, as, _, S0, st0, rel_startI (N := N) hx ni rc (rd.step st0), hS2, start_len (by rw [List.length_cons]; omega), ?_⟩
      rw [cc.nn] at o2
      show Out (evSs Φ fd.body (some (.own (.obj (some x) c [])) :: (ds.map (fun d => some (.d d)) ++ List.replicate (N.length - (ds.length + 1)) none)) S0) _ _
      cases q : evSs Φ fd.body (some (.own (.obj (some x) c [])) :: (ds.map (fun d => some (.d d)) ++ List.replicate (N.length - (ds.length + 1)) none)) S0 with
      | bad => rw [q] at o2; exact o2
      | exc e S1 => rw [q] at o2; exact o2
      | ok fl S1 =>
        rw [q] at o2
        cases fl with
        | nx ρ =>
          intro as' H' σ' st im pr hS' hl' rs'
          obtain ⟨wv, e, fs, ew, kk⟩ := o2.of_of
          subst ew
          obtain ⟨a, _, na, _, dx', fvs, r1, r2, r3, r4, r5⟩ := rs'.own 0 _ e
          have ea : x = a := r4 x rfl
          subst ea
          exact kk as' H' st na ⟨dx', fvs, r1, r2, r3, fun y e => (by cases e), r5⟩ hS'
        | bk ρ => exact o2.elim
        | ct ρ => exact o2.elim
        | rt wv => cases wv <;> exact o2.elim
        | ex e ρ => exact fun as' H' σ' st im pr hS' hl' rs' cls dd hx => o2 as' H' cls dd st hx hS'
theorem fn_bind (F : FunD K x qual params body scope [] [] f fdd) (hc : chkF N fns cs ci fd params body scope = true) : Binds K fdd (params.args.map (·.arg)) [] := F.bindsN fun kV doc pm an cdv ct us hl => bind_plain (chkF_plain hc) (chkF_nd hc) hl
end
end Ev
set_option maxHeartbeats 4000000
/-! Ev, part 23: a whole text's functions; a law. -/
namespace Ev
open PySem PySem.Spec PyProof.Rows L2
def Ent.sp (e : Ent) (κ : Kx) (φ : List D → Sto → R W) : Sp := match e.fd.ini with
  | none => spOf κ φ
  | some c => spI κ c φ
def fnsOf (T : List Ent) : List (Nat × Str) := T.zipIdx.filterMap fun p => match p.1.cls with
  | none => some (p.2, p.1.x)
  | some _ => none
def progOf (T : List Ent) : Nat → Fd := fun j => match T[j]? with
  | some e => e.fd
  | none => ⟨0, 0, [], none⟩
def chkEnt (fns : List (Nat × Str)) (cs : List (String × D)) (ci : List CI) (e : Ent) : Bool := chkF (e.N.map Str.ofString) fns cs ci e.fd (defArgs e.st) (defBody e.st) (defScope e.st)
/-- a class's numbers are those of its defs -/
def chkCI (T : List Ent) (i : CI) : Bool := (i.ms.all fun p => match T[p.2]? with
  | some e => (e.cls == some i.c && e.name == p.1) && e.fd.ini.isNone
  | none => false) && (match i.ini with
  | none => true
  | some j => (match T[j]? with
    | some e => (e.cls == some i.c && e.name == "__init__") && e.fd.ini == some i.c
    | none => false))
def chkTab (T : List Ent) (cs : List (String × D)) (ci : List CI) : Bool := T.all (chkEnt (fnsOf T) cs ci) && (ci.all (chkCI T) && T.all fun e => e.cls.isSome || e.fd.ini.isNone)
theorem look_mem {β : Type} {j : Nat} {y : β} : ∀ {l : List (Nat × β)}, l.lookup j = some y → (j, y) ∈ l
  | [], h => by cases h
  | (k, z) :: r, h => by
    rw [List.lookup_cons] at h
    by_cases q : (j == k) = true
    · rw [q] at h
      have e : j = k := eq_of_beq q
      cases h
      rw [e]
      exact List.mem_cons_self
    · have q : (j == k) = false := by simpa using q
      rw [q] at h
      exact List.mem_cons_of_mem _ (look_mem h)
theorem fnsOf_look {T : List Ent} {j : Nat} {y : Str} (h : (fnsOf T).lookup j = some y) : ∃ e, T[j]? = some e ∧ e.cls = none ∧ e.x = y := by
  have m := look_mem h
  obtain ⟨p, hp, e⟩ := List.mem_filterMap.mp m
  obtain ⟨q, i⟩ := p
  have hq := List.mem_zipIdx_iff_getElem?.mp hp
  cases qc : q.cls with
  | none =>
    simp only [qc] at e
    cases e
    exact ⟨q, hq, qc, rfl⟩
  | some c => simp only [qc] at e; cases e
/-- what is known of a class as the text says it -/
structure CiT (K : PySem.W.Frag) (mg : Str → Option Value) (i : CI) : Prop where
  glo : mg (Str.ofString i.c) = some (.ref (He.ga K (Str.ofString i.c)))
  cls : Cls K (He.ga K (Str.ofString i.c))
  noat : ∀ f ∈ i.fs, NoAttr K (He.ga K (Str.ofString i.c)) (Str.ofString f)
  meth : ∀ m j, (m, j) ∈ i.ms → Meth K (He.ga K (Str.ofString i.c)) (Str.ofString m) (He.ma K (He.ga K (Str.ofString i.c)) (Str.ofString m))
  maker : ∀ j, i.ini = some j → Mk K (He.ga K (Str.ofString i.c)) (He.ma K (He.ga K (Str.ofString i.c)) "__init__")
theorem ci_ok {P : Program} {w : World} {K : PySem.W.Frag} {mg : Str → Option Value} {base : Heap} {κ : Kx} {T : List Ent} {ci : List CI} {i : CI} {Φ : Fn} {k : Nat} (hi : i ∈ ci) (hC : ∀ i ∈ ci, CiT K mg i) (hc : ci.all (chkCI T) = true)
    (h : ∀ (j : Nat) (e : Ent), T[j]? = some e → ∃ fdd, FnOk P w K mg base (L2.CX P w) k (He.fAd K e.loc) fdd ((defArgs e.st).args.map (·.arg)) (e.sp κ (Φ j)) ∧ Binds K fdd ((defArgs e.st).args.map (·.arg)) []) : CiK P w K mg base κ Φ k i := by
  obtain ⟨c1, c2⟩ := ba2 (List.all_eq_true.mp hc i hi)
  have z := hC i hi
  refine ⟨z.glo, z.cls, z.noat, fun m j hm => ?_, fun j hj => ?_⟩
  · have q := List.all_eq_true.mp c1 (m, j) hm
    cases e : T[j]? with
    | none => simp only [e] at q; cases q
    | some en =>
      simp only [e] at q
      obtain ⟨q1, q2⟩ := ba2 q
      obtain ⟨q1, q3⟩ := ba2 q1
      have q1 : en.cls = some i.c := eq_of_beq q1
      have q3 : en.name = m := eq_of_beq q3
      have q2 : en.fd.ini = none := by simpa using q2
      obtain ⟨fdd, k1, k2⟩ := h j en e
      have el : He.fAd K en.loc = He.ma K (He.ga K (Str.ofString i.c)) (Str.ofString m) := by unfold Ent.loc Ent.x; rw [q1, q3]; rfl
      have es : en.sp κ (Φ j) = spOf κ (Φ j) := by unfold Ent.sp; rw [q2]
      rw [el, es] at k1
      exact ⟨fdd, _, z.meth m j hm, k2, k1⟩
  · rw [hj] at c2
    have c2 : (match T[j]? with
      | some e => (e.cls == some i.c && e.name == "__init__") && e.fd.ini == some i.c
      | none => false) = true := c2
    cases e : T[j]? with
    | none => simp only [e] at c2; cases c2
    | some en =>
      simp only [e] at c2
      obtain ⟨q1, q2⟩ := ba2 c2
      obtain ⟨q1, q3⟩ := ba2 q1
      have q1 : en.cls = some i.c := eq_of_beq q1
      have q3 : en.name = "__init__" := eq_of_beq q3
      have q2 : en.fd.ini = some i.c := eq_of_beq q2
      obtain ⟨fdd, k1, k2⟩ := h j en e
      have el : He.fAd K en.loc = He.ma K (He.ga K (Str.ofString i.c)) "__init__" := by unfold Ent.loc Ent.x; rw [q1, q3]; rfl
      have es : en.sp κ (Φ j) = spI κ i.c (Φ j) := by unfold Ent.sp; rw [q2]
      rw [el, es] at k1
      exact ⟨fdd, _, z.maker j hj, k2, k1⟩
section
variable {P : Program} {w : World} {K : PySem.W.Frag} {mg : Str → Option Value} {base : Heap} {κ : Kx} {T : List Ent} {cs : List (String × D)} {ci : List CI}
theorem prog_ok (hκ : κ.K = K) (hw : κ.w = w) (hT : chkTab T cs ci = true) (hb : ∀ x ∈ bltNames, mg (Str.ofString x) = none)
    (hG : ∀ e ∈ T, e.cls = none → mg e.x = some (.ref (He.ga K e.x)))
    (hF : ∀ e ∈ T, ∃ fdd : FuncData, FunD K e.x e.qual (defArgs e.st) (defBody e.st) (defScope e.st) [] [] (He.fAd K e.loc) fdd) (hC : ∀ i ∈ ci, CiT K mg i)
    (hcs : CsOk K mg κ cs) :
    ∀ (n j : Nat) (e : Ent), T[j]? = some e → ∀ (fdd : FuncData), FunD K e.x e.qual (defArgs e.st) (defBody e.st) (defScope e.st) [] [] (He.fAd K e.loc) fdd →
      FnOk P w K mg base (L2.CX P w) (3 * n) (He.fAd K e.loc) fdd ((defArgs e.st).args.map (·.arg)) (e.sp κ (call (progOf T) n j)) ∧ Binds K fdd ((defArgs e.st).args.map (·.arg)) []
  | 0, j, e, hj, fdd, F => by
    have hc := List.all_eq_true.mp (ba2 hT).1 e (List.mem_of_getElem? hj)
    refine ⟨?_, fn_bind F hc⟩
    unfold Ent.sp
    cases e.fd.ini with
    | none => exact ⟨fun vs H Q E ⟨as, ds, S, _, _, o⟩ => o.elim, fun A outer s H args us vs Q E _ _ _ _ ⟨as, ds, S, _, _, o⟩ => o.elim⟩
    | some c => exact ⟨fun vs H Q E ⟨_, _, _, _, _, _, _, _, _, _, _, _, _, _, o⟩ => o.elim, fun A outer s H args us vs Q E _ _ _ _ ⟨_, _, _, _, _, _, _, _, _, _, _, _, _, _, o⟩ => o.elim⟩
  | n + 1, j, e, hj, fdd, F => by
    obtain ⟨hT1, hT0⟩ := ba2 hT
    obtain ⟨hT2, hT3⟩ := ba2 hT0
    have hc := List.all_eq_true.mp hT1 e (List.mem_of_getElem? hj)
    have below : ∀ (j : Nat) (e : Ent), T[j]? = some e → ∃ fdd, FnOk P w K mg base (L2.CX P w) (3 * n) (He.fAd K e.loc) fdd ((defArgs e.st).args.map (·.arg)) (e.sp κ (call (progOf T) n j)) ∧ Binds K fdd ((defArgs e.st).args.map (·.arg)) [] := fun j e hj => by
      obtain ⟨fdd, F⟩ := hF e (List.mem_of_getElem? hj)
      exact ⟨fdd, prog_ok hκ hw hT hb hG hF hC hcs n j e hj fdd F⟩
    have hf : ∀ j y, (fnsOf T).lookup j = some y → ∃ (a : Addr) (fd' : FuncData) (ps' : List Str), mg y = some (.ref a) ∧ PySem.W.keepIn K (.ref a) = true ∧ Binds K fd' ps' [] ∧ FnOk P w K mg base (L2.CX P w) (3 * n) a fd' ps' (spOf κ (call (progOf T) n j)) := fun j y hy => by
      obtain ⟨e', h1, h2, h3⟩ := fnsOf_look hy
      subst h3
      obtain ⟨fdd', F'⟩ := hF e' (List.mem_of_getElem? h1)
      obtain ⟨k1, k2⟩ := prog_ok hκ hw hT hb hG hF hC hcs n j e' h1 fdd' F'
      have el : He.fAd K e'.loc = He.ga K e'.x := by unfold Ent.loc; rw [h2]; rfl
      have kp := F'.kp
      rw [el] at k1 kp
      have nn : e'.fd.ini = none := by
        have := List.all_eq_true.mp hT3 e' (List.mem_of_getElem? h1)
        rw [h2] at this
        simpa using this
      cases q : e'.fd.ini with
      | none =>
        have es : e'.sp κ (call (progOf T) n j) = spOf κ (call (progOf T) n j) := by unfold Ent.sp; rw [q]
        rw [es] at k1
        exact ⟨_, fdd', _, hG e' (List.mem_of_getElem? h1) h2, kp, k2, k1⟩
      | some c => rw [nn] at q; cases q
    have e1 : call (progOf T) (n + 1) j = evF (call (progOf T) n) e.fd := by
      funext ds S
      show evF (call (progOf T) n) (progOf T j) ds S = _
      unfold progOf
      rw [hj]
    rw [e1]
    refine ⟨?_, fn_bind F hc⟩
    unfold Ent.sp
    cases q : e.fd.ini with
    | none => exact fn_ok hκ hw F q hc hb hf hcs fun i hi => ci_ok hi hC hT2 below
    | some c => exact fn_okI hκ hw F q hc hb hf hcs fun i hi => ci_ok hi hC hT2 below
end
/-! ### constants -/
theorem dv_ok {κ : Kx} {as : List Addr} {H : Hp} {d : D} {x : He.Dv} (h : dvOf d = some x) : IsD κ as H d (x.v κ.K) := by
  cases d with
  | non => cases h; exact rfl
  | bl b => cases h; exact rfl
  | int i => cases h; exact rfl
  | str z =>
    have h : (if szOk z.length = true then some (He.Dv.str (tx z)) else none) = some x := h
    by_cases q : szOk z.length = true
    · rw [if_pos q] at h
      cases h
      exact ⟨rfl, q⟩
    · rw [if_neg q] at h; cases h
  | _ => cases h
theorem dvs_ok {κ : Kx} {as : List Addr} {H : Hp} : ∀ {ds : List D} {xs : List He.Dv}, dvsOf ds = some xs → IsDs κ as H ds (xs.map (He.Dv.v κ.K))
  | [], xs, h => by cases h; exact True.intro
  | d :: r, xs, h => by
    have h : ((dvOf d).bind fun x => (dvsOf r).map (x :: ·)) = some xs := h
    obtain ⟨x, h1, h2⟩ := Option.bind_eq_some_iff.mp h
    obtain ⟨l, h3, h4⟩ := Option.map_eq_some_iff.mp h2
    subst h4
    exact ⟨dv_ok h1, dvs_ok h3⟩
mutual
theorem valB_ok {κ : Kx} : ∀ {d : D} {u : Value}, valB κ.K d u = true → ∃ v, RelV v u ∧ ∀ (as : List Addr) (H : Hp), IsD κ as H d v
  | .non, u, h => by
    cases u <;> first | (exact ⟨.non, rfl, fun _ _ => rfl⟩) | (simp [valB] at h)
  | .bl a, u, h => by
    cases u with
    | bool b =>
      have e : a = b := eq_of_beq (show (a == b) = true by rw [valB] at h; exact h)
      subst e
      exact ⟨.bl a, rfl, fun _ _ => rfl⟩
    | _ => simp [valB] at h
  | .int i, u, h => by
    cases u with
    | int j t =>
      have e : i = j := of_decide_eq_true (by rw [valB] at h; exact h)
      subst e
      exact ⟨.int i, ⟨t, rfl⟩, fun _ _ => rfl⟩
    | _ => simp [valB] at h
  | .str z, u, h => by
    cases u with
    | str y t =>
      have h : (decide (y = tx z) && szOk z.length) = true := by rw [valB] at h; exact h
      obtain ⟨h1, h2⟩ := ba2 h
      have e := of_decide_eq_true h1
      subst e
      exact ⟨.str (tx z), ⟨t, rfl⟩, fun _ _ => ⟨rfl, h2⟩⟩
    | _ => simp [valB] at h
  | .tup ds, u, h => by
    cases u with
    | ref a =>
      have h : (match κ.K.lookup a with
        | some ⟨.type c, none, .seq its _, _⟩ => decide (c = "tuple") && (decide (its.size ≤ sizeLine) && valsB κ.K ds its.toList)
        | _ => false) = true := by rw [valB] at h; exact h
      cases q : κ.K.lookup a with
      | none => rw [q] at h; cases h
      | some o =>
        obtain ⟨oc, od, dt, osl⟩ := o
        rw [q] at h
        cases oc with
        | type c =>
          cases od with
          | some _ => cases dt <;> cases h
          | none => cases dt with
            | seq its n =>
              obtain ⟨h1, h2⟩ := ba2 (show (decide (c = "tuple") && (decide (its.size ≤ sizeLine) && valsB κ.K ds its.toList)) = true from h)
              obtain ⟨h3, h4⟩ := ba2 h2
              obtain ⟨vs, k1, k2⟩ := valsB_ok h4
              exact ⟨.ref a, rfl, fun as H => ⟨a, vs, rfl, ⟨.inr ⟨_, its, n, q, congrArg Value.type (of_decide_eq_true h1), rfl, of_decide_eq_true h3, k1⟩, .inr ⟨_, q, rfl⟩⟩, k2 as H⟩⟩
            | _ => cases h
        | _ => cases od <;> cases dt <;> cases h
    | _ => simp [valB] at h
  | .ref _, u, h => by simp [valB] at h
  | .fn _, u, h => by simp [valB] at h
  | .lst _, u, h => by simp [valB] at h
  | .scr _, u, h => by simp [valB] at h
  | .dic _, u, h => by simp [valB] at h
  | .kdic _, u, h => by simp [valB] at h
  | .obj _ _, u, h => by simp [valB] at h
  | .exc _ _, u, h => by simp [valB] at h
theorem valsB_ok {κ : Kx} : ∀ {ds : List D} {us : List Value}, valsB κ.K ds us = true → ∃ vs, Vals vs us ∧ ∀ (as : List Addr) (H : Hp), IsDs κ as H ds vs
  | [], [], _ => ⟨[], .nil, fun _ _ => True.intro⟩
  | d :: ds, u :: us, h => by
    have h : (valB κ.K d u && valsB κ.K ds us) = true := by rw [valsB] at h; exact h
    obtain ⟨h1, h2⟩ := ba2 h
    obtain ⟨v, k1, k2⟩ := valB_ok h1
    obtain ⟨vs, k3, k4⟩ := valsB_ok h2
    exact ⟨v :: vs, .cons k1 k3, fun as H => ⟨k2 as H, k4 as H⟩⟩
  | [], _ :: _, h => by simp [valsB] at h
  | _ :: _, [], h => by simp [valsB] at h
end
theorem keysB_ok {K : PySem.W.Frag} {a : Addr} {ks : List Nm} (h : keysB K a ks = true) : ∀ z : Nm, z ∉ ks → PySem.W.nsIn K a (tx z) = some none := fun z hz => by
  unfold keysB at h
  unfold PySem.W.nsIn
  split at h
  · rename_i o es n sl q
    have key : ∀ e ∈ es.toList, e.key.isStr (tx z) = false ∧ e.refKey = false := fun e he => by
      have := List.all_eq_true.mp h e he
      split at this
      · rename_i x t qk
        refine ⟨?_, by unfold DictEntry.refKey; rw [qk]⟩
        rw [qk]
        obtain ⟨k, hk, ek⟩ := List.any_eq_true.mp this
        have ek := of_decide_eq_true ek
        rw [Bool.eq_false_iff]
        intro hs
        have : x = tx z := by
          unfold Value.isStr at hs
          simpa using hs
        rw [ek] at this
        exact hz (tx_inj this ▸ hk)
      · cases this
    have e1 : es.toList.find? (·.key.isStr (tx z)) = none := List.find?_eq_none.mpr fun e he => by rw [(key e he).1]; exact Bool.false_ne_true
    have e2 : es.toList.any (·.refKey) = false := List.any_eq_false.mpr fun e he => by rw [(key e he).2]; exact Bool.false_ne_true
    rw [q]
    simp only [e1, e2]
    rfl
  · cases h
theorem entB_ok {κ : Kx} {a : Addr} : ∀ {kvs : List (Nm × D)}, entB κ.K a kvs = true → ∀ (as : List Addr) (H : Hp), IsZs κ as H a kvs
  | [], _ => fun _ _ => True.intro
  | (k, d) :: r, h => fun as H => by
    obtain ⟨h1, h2⟩ := ba2 (show ((match PySem.W.nsIn κ.K a (tx k) with
      | some (some u) => valB κ.K d u
      | _ => false) && entB κ.K a r) = true from h)
    refine ⟨?_, entB_ok h2 as H⟩
    cases q : PySem.W.nsIn κ.K a (tx k) with
    | none => rw [q] at h1; cases h1
    | some o =>
      cases o with
      | none => rw [q] at h1; cases h1
      | some u =>
        rw [q] at h1
        obtain ⟨v, k1, k2⟩ := valB_ok h1
        exact ⟨u, v, rfl, k1, k2 as H⟩
theorem tab_ok {fa : List He.Fa} {fn : List He.DefD} {w : World} {K : PySem.W.Frag} {cs : List (String × D)} (c : He.SaysT fa fn (tabT cs) w K) {x : String} {kvs : List (Nm × D)} (h : (x, .kdic kvs) ∈ cs) : ∃ es n, KDict K w (He.ga K (Str.ofString x)) es n := by
  have m : ((fun K => He.ga K (Str.ofString x), kvs.map fun q => tx q.1) : He.Tab) ∈ tabT cs := List.mem_filterMap.mpr ⟨_, h, rfl⟩
  obtain ⟨i, hi, e⟩ := List.getElem_of_mem m
  exact He.SaysT.tab c i (by rw [List.getElem?_eq_getElem hi, e])
theorem cst_ok {fa : List He.Fa} {fn : List He.DefD} {w : World} {K : PySem.W.Frag} {h : Heap} {mg : Str → Option Value} (X : K.In h) (G : h.Ns mainGlobals mg) {κ : Kx} (hκ : κ.K = K) (hw : κ.w = w) {cs : List (String × D)} (ct : He.SaysT fa fn (tabT cs) w K) {x : String} {d : D} (hm : (x, d) ∈ cs) (c : cstB K x d = true) :
    ∃ u v, mg (Str.ofString x) = some u ∧ RelV v u ∧ ∀ (as : List Addr) (H : Hp), IsD κ as H d v := by
  subst hκ hw
  have go : ∀ d, (match PySem.W.nsIn κ.K mainGlobals (Str.ofString x) with
    | some (some u) => valB κ.K d u
    | _ => false) = true → ∃ u v, mg (Str.ofString x) = some u ∧ RelV v u ∧ ∀ (as : List Addr) (H : Hp), IsD κ as H d v := fun d c => by
    cases q : PySem.W.nsIn κ.K mainGlobals (Str.ofString x) with
    | none => rw [q] at c; cases c
    | some o =>
      cases o with
      | none => rw [q] at c; cases c
      | some u =>
        rw [q] at c
        obtain ⟨v, k1, k2⟩ := valB_ok c
        exact ⟨u, v, PySem.W.mg_of X G q, k1, k2⟩
  cases d with
  | kdic kvs =>
    obtain ⟨c1, c2⟩ := ba2 (show ((He.Fa.glo (Str.ofString x)).ok κ.K && (keysB κ.K (He.ga κ.K (Str.ofString x)) (kvs.map (·.1)) && entB κ.K (He.ga κ.K (Str.ofString x)) kvs)) = true from c)
    obtain ⟨c2, c3⟩ := ba2 c2
    obtain ⟨es, n, kd⟩ := tab_ok ct hm
    exact ⟨_, .ref _, He.glo_ok X G c1, rfl, fun as H => ⟨_, rfl, ⟨kd.low, keysB_ok c2, es, n, kd⟩, entB_ok c3 as H⟩⟩
  | _ => exact go _ c
/-! ### the law -/
theorem only_scr {K : PySem.W.Frag} {H : Hp} {a : Addr} {ns : List Int} {κ : Kx} (hκ : κ.K = K) (hO : Only H) (h : SqL K H a (ns.map V.int)) : IsD κ [] H (.scr ns) (.ref a) := by
  refine ⟨a, rfl, ?_⟩
  rcases h with h | h
  · rcases h with h | ⟨o, h⟩
    · rcases hO a with z | ⟨o, xs, z⟩
      · rw [h] at z; cases z
      · rw [h] at z; cases z
    · exact .inl ⟨o, h⟩
  · rw [hκ]; exact .inr h
theorem cit_ok {h : Heap} {K : PySem.W.Frag} {mg : Str → Option Value} {i : CI} (X : K.In h) (G : h.Ns mainGlobals mg) (c : ∀ f ∈ faC i, f.ok K = true) : CiT K mg i := by
  have m1 : ∀ f ∈ ([.glo (Str.ofString i.c), .cls (Str.ofString i.c)] : List He.Fa), f.ok K = true := fun f hf => c f (List.mem_append_left _ hf)
  refine ⟨He.glo_ok X G (m1 _ List.mem_cons_self), He.cls_ok (m1 _ (List.mem_cons_of_mem _ List.mem_cons_self)), fun f hf => ?_, fun m j hm => ?_, fun j hj => ?_⟩
  · exact He.noat_ok (c _ (List.mem_append_right _ (List.mem_append_left _ (List.mem_map.mpr ⟨f, hf, rfl⟩))))
  · exact He.meth_ok (c _ (List.mem_append_right _ (List.mem_append_right _ (List.mem_append_left _ (List.mem_map.mpr ⟨(m, j), hm, rfl⟩)))))
  · refine He.mkr_ok (c _ (List.mem_append_right _ (List.mem_append_right _ (List.mem_append_right _ ?_))))
    rw [hj]
    exact List.mem_cons_self
/-- the law's def keeps what its little program says -/
theorem law_fn {P : Program} {w : World} {h : Heap} {K : PySem.W.Frag} {mg : Str → Option Value} {T : List Ent} {cs : List (String × D)} {ci : List CI} {j n : Nat} {e : Ent} {fa : Addr} {x : Str} (hT : chkTab T cs ci = true) (hj : T[j]? = some e) (hcl : e.cls = none) (hin : e.fd.ini = none) (hx : (defArgs e.st).args.map (·.arg) = [x]) (X : K.In h) (G : h.Ns mainGlobals mg)
    (c : He.SaysX (faT T ci) (fnT T) (tabT cs) [] (exT cs) w h K) (hm : mg e.x = some (.ref fa)) :
    ∃ fdd : FuncData, (∀ (s : Shared) (u : Value), BindsTo s fdd ⟨[u], []⟩ [(x, u)]) ∧ ∀ base : Heap, K.In base → base.Ns mainGlobals mg → FnOk P w K mg base (L2.CX P w) (3 * n) fa fdd [x] (spOf ⟨K, w, fun _ => x, exN cs⟩ (call (progOf T) n j)) := by
  have hG : ∀ e ∈ T, e.cls = none → mg e.x = some (.ref (He.ga K e.x)) := fun e he hc => He.glo_ok X G (c.t.d.facts (List.mem_append_left _ (List.mem_map.mpr ⟨e, List.mem_filter.mpr ⟨he, by unfold isGlo; rw [hc]; rfl⟩, rfl⟩)))
  have hF : ∀ e ∈ T, ∃ fdd : FuncData, FunD K e.x e.qual (defArgs e.st) (defBody e.st) (defScope e.st) [] [] (He.fAd K e.loc) fdd := fun e he => c.t.d.defs (d := defE e) (List.mem_map.mpr ⟨e, he, rfl⟩)
  have hb : ∀ x ∈ bltNames, mg (Str.ofString x) = none := fun b hb => He.free_ok X G (c.t.d.facts (List.mem_append_right _ (List.mem_append_left _ (List.mem_map.mpr ⟨b, hb, rfl⟩))))
  have hC : ∀ i ∈ ci, CiT K mg i := fun i hi => cit_ok X G fun f hf => c.t.d.facts (List.mem_append_right _ (List.mem_append_right _ (List.mem_flatMap.mpr ⟨i, hi, hf⟩)))
  have hcs : CsOk K mg ⟨K, w, fun _ => x, exN cs⟩ cs := ⟨fun y d hy hn => cst_ok X G rfl rfl c.t hy (by
      have z := List.all_eq_true.mp c.more (y, d) hy
      cases d <;> first | exact z | cases hn), fun y c' l hy => exKB_ok X G (List.all_eq_true.mp c.more (y, D.exc c' l) hy), fun c => exN_mem⟩
  have he := List.mem_of_getElem? hj
  have g := hG e he hcl
  rw [hm] at g
  cases g
  obtain ⟨fdd, F⟩ := hF e he
  have hc := List.all_eq_true.mp (ba2 hT).1 e he
  have hbi : ∀ (s : Shared) (us : List Value), us.length = ((defArgs e.st).args.map (·.arg)).length → BindsTo s fdd ⟨us, []⟩ (((defArgs e.st).args.map (·.arg)).zip us) := FunD.bindsA F fun kV doc pm an cdv ct us hl => bind_plain (chkF_plain hc) (chkF_nd hc) hl
  rw [hx] at hbi
  refine ⟨fdd, fun s u => hbi s [u] rfl, fun base hKb hNb => ?_⟩
  have := (prog_ok (P := P) (w := w) (base := base) (κ := ⟨K, w, fun _ => x, exN cs⟩) rfl rfl hT hb hG hF hC hcs n j e hj fdd F).1
  have el : He.fAd K e.loc = He.ga K e.x := by unfold Ent.loc; rw [hcl]; rfl
  have es : ∀ φ, e.sp ⟨K, w, fun _ => x, exN cs⟩ φ = spOf ⟨K, w, fun _ => x, exN cs⟩ φ := fun φ => by unfold Ent.sp; rw [hin]
  rw [hx, el, es] at this
  exact this
theorem walk_ofEB {l : PySem.W.OpenLaw} {n k : Nat} {q : Program} {loose : List Str} {XP : (Str → Option Value) → Heap → Prop} {YP : World → Heap → Prop} {d : DefRec} {CX : World → CXT} {x : Str}
    (hn : l.most = some n) (hn2 : n ≤ sizeLine) (hdf : d.params.defaults = []) (hr : Room k callerA)
    (F : ∀ (w : World) (mg : Str → Option Value) (fa : Addr) (h : Heap), YP w h → h.Ns mainGlobals mg → mg d.name = some (.ref fa) →
      ∃ (K : PySem.W.Frag) (fd : FuncData) (sp : Sp), K.In h ∧ (∀ (s : Shared) (u : Value), BindsTo s fd ⟨[u], []⟩ [(x, u)]) ∧
        (∀ (H : Hp) (a : Addr) (ns : List Int), ns.length ≤ n → (∀ z ∈ ns, Builtin.Int.intBits z ≤ 1048576) → Only H → SqL K H a (ns.map V.int) → sp [.ref a] H (fun v _ => v = .bl true) fun _ _ _ => False) ∧
        ∀ base : Heap, K.In base → base.Ns mainGlobals mg → FnOk l.prog w K mg base (CX w) k fa fd [x] sp)
    (hCX : ∀ (w : World) (H : Hp) (s : Shared) (e : Value) (s' : Shared), CX w [] H s (fun _ _ _ => False) e s' → False) :
    PySem.W.WalkO q loose XP YP l.row.toRowW d [] (fun f vs => PySem.call f vs) := by
  refine Att.attach_callB hn hdf fun w s₀ s₁ mg mb fa o pm cd doc a vs ns G Y ho hd hcd hmg hobj hints hlen hbits hg => ?_
  obtain ⟨K, fd, sp, KX, hb, hsp, hF⟩ := F w mg fa _ Y G.T.g hmg
  exact law_call KX G.T.g G.T.b G.T.builtins G.T.nolimit hg hobj hints (Nat.le_trans hlen hn2) hr hF hb (fun H hO hS => hsp H a ns hlen hbits hO hS) fun H e s' => hCX w H s₁ e s'
theorem cx_none {P : Program} {w : World} {H : Hp} {s : Shared} {e : Value} {s' : Shared} (h : L2.CX P w [] H s (fun _ _ _ => False) e s') : False := by
  obtain ⟨_, _, _, _, _, _, _, _, _, _, _, _, z⟩ := h
  exact z
/-- a small int of the script -/
theorem bits_lt {z : Int} (h : Builtin.Int.intBits z ≤ 1048576) : z.natAbs < 2 ^ 1048576 := by
  unfold Builtin.Int.intBits at h
  by_cases q : (z == 0) = true
  · have : z = 0 := eq_of_beq q
    rw [this]
    exact Nat.pow_pos (by decide)
  · rw [if_neg q] at h
    have ne : z.natAbs ≠ 0 := fun e => q (by rw [Int.natAbs_eq_zero.mp e]; rfl)
    exact (Nat.log2_lt ne).mp (by omega)
end Ev
set_option maxHeartbeats 4000000
/-! Ev, part 30: to compute with the evaluator. -/
namespace Ev
def progT (tab : List Fd) : Nat → Fd := fun j => match tab[j]? with
  | some f => f
  | none => ⟨0, 0, [], none⟩
/-- what a function's end is -/
def endF : R Fl → R W
  | .ok (.nx _) S => .ok (.d .non) S
  | .ok (.rt w) S => .ok w S
  | .ok (.ex e _) S => .exc e S
  | _ => .bad
/-- behind an __init__ -/
def endI : R Fl → R W
  | .ok (.nx ρ) S => R.of S (ρ.get 0)
  | .ok (.ex e _) S => .exc e S
  | _ => .bad
section
variable {α β : Type} {S : Sto} {ρ : Env}
@[simp] theorem bind_okE {a : α} {f : α → Sto → R β} : (R.ok a S).bind f = f a S := id rfl
@[simp] theorem bind_excE {e : D} {f : α → Sto → R β} : (R.exc e S).bind f = .exc e S := id rfl
@[simp] theorem bind_badE {f : α → Sto → R β} : (R.bad).bind f = .bad := id rfl
@[simp] theorem lift_okE {a : α} {f : α → Sto → R Fl} : R.lift ρ (R.ok a S) f = f a S := id rfl
@[simp] theorem lift_excE {e : D} {f : α → Sto → R Fl} : R.lift ρ (R.exc e S) f = .ok (.ex e ρ) S := id rfl
@[simp] theorem lift_badE {f : α → Sto → R Fl} : R.lift ρ (R.bad) f = .bad := id rfl
@[simp] theorem nx_nx {f : Env → Sto → R Fl} : (R.ok (Fl.nx ρ) S).nx f = f ρ S := id rfl
@[simp] theorem nx_rt {w : W} {f : Env → Sto → R Fl} : (R.ok (Fl.rt w) S).nx f = .ok (.rt w) S := id rfl
@[simp] theorem nx_bk {f : Env → Sto → R Fl} : (R.ok (Fl.bk ρ) S).nx f = .ok (.bk ρ) S := id rfl
@[simp] theorem nx_ct {f : Env → Sto → R Fl} : (R.ok (Fl.ct ρ) S).nx f = .ok (.ct ρ) S := id rfl
@[simp] theorem nx_ex {e : D} {f : Env → Sto → R Fl} : (R.ok (Fl.ex e ρ) S).nx f = .ok (.ex e ρ) S := id rfl
@[simp] theorem nx_bad {f : Env → Sto → R Fl} : (R.bad : R Fl).nx f = .bad := id rfl
@[simp] theorem loop_nx {f : Env → Sto → R Fl} : (R.ok (Fl.nx ρ) S).loop f = f ρ S := id rfl
@[simp] theorem loop_ct {f : Env → Sto → R Fl} : (R.ok (Fl.ct ρ) S).loop f = f ρ S := id rfl
@[simp] theorem loop_bk {f : Env → Sto → R Fl} : (R.ok (Fl.bk ρ) S).loop f = .ok (.nx ρ) S := id rfl
@[simp] theorem loop_rt {w : W} {f : Env → Sto → R Fl} : (R.ok (Fl.rt w) S).loop f = .ok (.rt w) S := id rfl
@[simp] theorem loop_ex {e : D} {f : Env → Sto → R Fl} : (R.ok (Fl.ex e ρ) S).loop f = .ok (.ex e ρ) S := id rfl
@[simp] theorem loop_bad {f : Env → Sto → R Fl} : (R.bad : R Fl).loop f = .bad := id rfl
@[simp] theorem d_ok {x : D} : (R.ok (W.d x) S).d = .ok x S := id rfl
@[simp] theorem d_own {c : Cell} : (R.ok (W.own c) S).d = .bad := id rfl
@[simp] theorem d_exc {e : D} : (R.exc e S).d = .exc e S := id rfl
@[simp] theorem d_bad : (R.bad).d = .bad := id rfl
@[simp] theorem w_ok {x : D} : (R.ok x S).w = .ok (.d x) S := id rfl
@[simp] theorem w_exc {e : D} : (R.exc e S).w = .exc e S := id rfl
@[simp] theorem w_bad : (R.bad).w = .bad := id rfl
@[simp] theorem t_ok {w : W} : (R.ok w S).t = truD S (w.vw S) := id rfl
@[simp] theorem t_exc {e : D} : (R.exc e S).t = .exc e S := id rfl
@[simp] theorem t_bad : (R.bad).t = .bad := id rfl
@[simp] theorem chk_true {r : R α} : R.chk true r = r := id rfl
@[simp] theorem chk_false {r : R α} : R.chk false r = .bad := id rfl
@[simp] theorem of_some {a : α} : R.of S (some a) = .ok a S := id rfl
@[simp] theorem of_none : R.of S (none : Option α) = .bad := id rfl
@[simp] theorem noexc_ok' {a : α} : (R.ok a S).noexc = .ok a S := id rfl
@[simp] theorem noexc_bad : (R.bad : R α).noexc = .bad := id rfl
@[simp] theorem end_nx : endF (.ok (.nx ρ) S) = .ok (.d .non) S := id rfl
@[simp] theorem end_rt {w : W} : endF (.ok (.rt w) S) = .ok w S := id rfl
@[simp] theorem end_ex {e : D} : endF (.ok (.ex e ρ) S) = .exc e S := id rfl
@[simp] theorem end_bad : endF .bad = .bad := id rfl
@[simp] theorem get_zero {x : Option W} {r : Env} : Env.get (x :: r) 0 = x := id rfl
@[simp] theorem get_succ {x : Option W} {r : Env} {n : Nat} : Env.get (x :: r) (n + 1) = Env.get r n := id rfl
@[simp] theorem put_zero {x : Option W} {r : Env} {d : W} : Env.put (x :: r) 0 d = some d :: r := id rfl
@[simp] theorem put_succ {x : Option W} {r : Env} {n : Nat} {d : W} : Env.put (x :: r) (n + 1) d = x :: Env.put r n d := id rfl
@[simp] theorem del_zero {x : Option W} {r : Env} : Env.del (x :: r) 0 = none :: r := id rfl
@[simp] theorem del_succ {x : Option W} {r : Env} {n : Nat} : Env.del (x :: r) (n + 1) = x :: Env.del r n := id rfl
@[simp] theorem dels_nil : Env.dels ρ [] = ρ := id rfl
@[simp] theorem dels_cons {i : Nat} {is : List Nat} : Env.dels ρ (i :: is) = Env.dels (ρ.del i) is := id rfl
/-! what stands under a test -/
theorem ite_ok {c : Prop} [Decidable c] {a b : α} : (if c then R.ok a S else R.ok b S) = R.ok (if c then a else b) S := by by_cases h : c <;> simp [h]
theorem ite_Wd {c : Prop} [Decidable c] {a b : D} : (if c then W.d a else W.d b) = W.d (if c then a else b) := by by_cases h : c <;> simp [h]
theorem ite_bl {c : Prop} [Decidable c] {a b : Bool} : (if c then D.bl a else D.bl b) = D.bl (if c then a else b) := by by_cases h : c <;> simp [h]
theorem ite_int {c : Prop} [Decidable c] {a b : Int} : (if c then D.int a else D.int b) = D.int (if c then a else b) := by by_cases h : c <;> simp [h]
theorem ite_str {c : Prop} [Decidable c] {a b : Nm} : (if c then D.str a else D.str b) = D.str (if c then a else b) := by by_cases h : c <;> simp [h]
theorem bind_ite {c : Prop} [Decidable c] {a b : R α} {f : α → Sto → R β} : (if c then a else b).bind f = if c then a.bind f else b.bind f := by by_cases h : c <;> simp [h]
theorem lift_ite {c : Prop} [Decidable c] {a b : R α} {f : α → Sto → R Fl} : R.lift ρ (if c then a else b) f = if c then R.lift ρ a f else R.lift ρ b f := by by_cases h : c <;> simp [h]
theorem nx_ite {c : Prop} [Decidable c] {a b : R Fl} {f : Env → Sto → R Fl} : (if c then a else b).nx f = if c then a.nx f else b.nx f := by by_cases h : c <;> simp [h]
theorem loop_ite {c : Prop} [Decidable c] {a b : R Fl} {f : Env → Sto → R Fl} : (if c then a else b).loop f = if c then a.loop f else b.loop f := by by_cases h : c <;> simp [h]
theorem end_ite {c : Prop} [Decidable c] {a b : R Fl} : endF (if c then a else b) = if c then endF a else endF b := by by_cases h : c <;> simp [h]
end
@[simp] theorem vw_int {S : Sto} {i : Int} : vw S (.int i) = .int i := id rfl
@[simp] theorem vw_bl {S : Sto} {i : Bool} : vw S (.bl i) = .bl i := id rfl
@[simp] theorem vw_str {S : Sto} {i : Nm} : vw S (.str i) = .str i := id rfl
@[simp] theorem vw_non {S : Sto} : vw S .non = .non := id rfl
@[simp] theorem vw_tup {S : Sto} {i : List D} : vw S (.tup i) = .tup i := id rfl
@[simp] theorem vw_lst {S : Sto} {i : List D} : vw S (.lst i) = .lst i := id rfl
@[simp] theorem vw_scr {S : Sto} {i : List Int} : vw S (.scr i) = .scr i := id rfl
@[simp] theorem vw_dic {S : Sto} {i : List (Ky × D)} : vw S (.dic i) = .dic i := id rfl
@[simp] theorem Wvw_d {S : Sto} {x : D} : (W.d x).vw S = vw S x := id rfl
@[simp] theorem Wvw_own {S : Sto} {c : Cell} : (W.own c).vw S = c.vw := id rfl
@[simp] theorem cvw_lst {xs : List D} : (Cell.lst xs).vw = .lst xs := id rfl
@[simp] theorem cvw_dct {xs : List (Ky × D)} : (Cell.dct xs).vw = .dic xs := id rfl
theorem vw_ref {S : Sto} {a : Nat} {c : Cell} (h : S[a]? = some c) : vw S (.ref a) = c.vw := by unfold vw; simp only [h]
theorem call_eq {tab : List Fd} {n f : Nat} {ds : List D} {S : Sto} {fd : Fd} (h : tab[f]? = some fd) (hp : ds.length = fd.ps) (hi : fd.ini = none) :
    call (progT tab) (n + 1) f ds S = endF (evSs (call (progT tab) n) fd.body (ds.map (fun d => some (.d d)) ++ List.replicate (fd.nn - ds.length) none) S) := by
  have e : progT tab f = fd := by unfold progT; rw [h]
  show evF (call (progT tab) n) (progT tab f) ds S = _
  rw [e]
  unfold evF
  simp only [hi]
  rw [if_pos hp]
  cases evSs (call (progT tab) n) fd.body (ds.map (fun d => some (.d d)) ++ List.replicate (fd.nn - ds.length) none) S with
  | bad => rfl
  | exc e S1 => rfl
  | ok fl S1 => cases fl <;> rfl
theorem call_ini {tab : List Fd} {n f x : Nat} {c : String} {ds : List D} {S : Sto} {fd : Fd} (h : tab[f]? = some fd) (hp : ds.length + 1 = fd.ps) (hi : fd.ini = some c) :
    call (progT tab) (n + 1) f (.int (x : Nat) :: ds) S = endI (evSs (call (progT tab) n) fd.body (some (.own (.obj (some x) c [])) :: (ds.map (fun d => some (.d d)) ++ List.replicate (fd.nn - (ds.length + 1)) none)) S) := by
  have e : progT tab f = fd := by unfold progT; rw [h]
  show evF (call (progT tab) n) (progT tab f) (.int (x : Nat) :: ds) S = _
  rw [e]
  unfold evF
  simp only [hi]
  rw [if_pos (show (D.int (x : Nat) :: ds).length = fd.ps from hp)]
  have ex : (x : Int).toNat = x := rfl
  rw [ex]
  show _ = endI (evSs (call (progT tab) n) fd.body (some (.own (.obj (some x) c [])) :: (ds.map (fun d => some (.d d)) ++ List.replicate (fd.nn - (D.int (x : Nat) :: ds).length) none)) S)
  cases evSs (call (progT tab) n) fd.body (some (.own (.obj (some x) c [])) :: (ds.map (fun d => some (.d d)) ++ List.replicate (fd.nn - (D.int (x : Nat) :: ds).length) none)) S with
  | bad => rfl
  | exc e S1 => rfl
  | ok fl S1 => cases fl <;> rfl
theorem chk_of {α : Type} {b : Bool} {r : R α} (h : b = true) : R.chk b r = r := by rw [h]; rfl
theorem fdvOk_of {j : Int} (h1 : 0 < j) (h2 : j < 1073741824) : fdvOk j = true := by
  unfold fdvOk
  rw [decide_eq_true h1, decide_eq_true h2]
  rfl
theorem szOk_in {n : Nat} (h : n ≤ 16777216) : szOk n = true := decide_eq_true h
/-! ### the evaluator's rows -/
def srcK {β : Type} (o : Option (List D)) (f : List D → R β) : R β := match o with
  | none => .bad
  | some ds => f ds
theorem srcK_some {β : Type} {ds : List D} {f : List D → R β} : srcK (some ds) f = f ds := id rfl
section
variable {Φ : Fn} {ρ : Env} {o : Option W} {S : Sto}
theorem x_nil : evSs Φ [] ρ S = .ok (.nx ρ) S := by rw [evSs]
theorem x_cons {s : St} {ss : List St} : evSs Φ (s :: ss) (o :: ρ) S = (evS Φ s (o :: ρ) S).nx fun ρ1 S1 => evSs Φ ss ρ1 S1 := by rw [evSs]
theorem x_asg {t : Tg} {e : Ex} : evS Φ (.asg t e) (o :: ρ) S = R.lift (o :: ρ) (evW Φ (o :: ρ) e S).d fun d S1 => setT Φ d t (o :: ρ) S1 := by rw [evS] <;> rfl
theorem x_unp {ts : List Tg} {e : Ex} : evS Φ (.unp ts e) (o :: ρ) S = R.lift (o :: ρ) (evW Φ (o :: ρ) e S).d fun d S1 => match d with
    | .tup ds => R.chk (decide (ds.length = ts.length)) (setTs Φ ts ds (o :: ρ) S1)
    | .lst ds => R.chk (decide (ds.length = ts.length)) (setTs Φ ts ds (o :: ρ) S1)
    | _ => .bad := by rw [evS] <;> rfl
theorem x_par {is : List Nat} {es : List Ex} : evS Φ (.par is es) (o :: ρ) S = R.lift (o :: ρ) (evEs Φ (o :: ρ) es S) fun ds S1 => match setAll is ds (o :: ρ) with
    | some ρ' => .ok (.nx ρ') S1
    | none => .bad := by rw [evS] <;> rfl
theorem x_own {i : Nat} {n : Nw} : evS Φ (.own i n) (o :: ρ) S = R.lift (o :: ρ) (evN Φ (o :: ρ) n S) fun c S1 => .ok (.nx (Env.put (o :: ρ) i (.own c))) S1 := by rw [evS]
theorem x_omut {i : Nat} {m : Mu} {es : List Ex} : evS Φ (.omut i m es) (o :: ρ) S = match Env.get (o :: ρ) i with
    | some (.own (.lst xs)) => R.lift (o :: ρ) (evEs Φ (o :: ρ) es S) fun ds S1 => match mutC m (.lst xs) (if m matches .extend then ds.map (vw S1) else ds) with
      | some (c', _) => .ok (.nx (Env.put (o :: ρ) i (.own c'))) S1
      | none => .bad
    | _ => .bad := by cases m <;> rw [evS] <;> first | rfl | (intro z; cases z)
theorem x_fz {i : Nat} : evS Φ (.fz i) (o :: ρ) S = match Env.get (o :: ρ) i with
    | some (.own c) => .ok (.nx (Env.put (o :: ρ) i (.d c.vw))) S
    | some (.d _) => .ok (.nx (o :: ρ)) S
    | none => .bad := by rw [evS] <;> rfl
theorem x_kill {is : List Nat} : evS Φ (.kill is) (o :: ρ) S = .ok (.nx (Env.dels (o :: ρ) is)) S := by rw [evS]
theorem x_exp {e : Ex} : evS Φ (.exp e) (o :: ρ) S = R.lift (o :: ρ) (evW Φ (o :: ρ) e S).d fun _ S1 => .ok (.nx (o :: ρ)) S1 := by rw [evS] <;> rfl
theorem x_ret {e : Ex} : evS Φ (.ret e) (o :: ρ) S = R.lift (o :: ρ) (evW Φ (o :: ρ) e S).d fun d S1 => .ok (.rt (.d d)) S1 := by rw [evS] <;> rfl
theorem x_retN : evS Φ .retN (o :: ρ) S = .ok (.rt (.d .non)) S := by rw [evS]
theorem x_retO {i : Nat} : evS Φ (.retO i) (o :: ρ) S = match Env.get (o :: ρ) i with
    | some (.own c) => .ok (.rt (.own c)) S
    | _ => .bad := by rw [evS] <;> rfl
theorem x_retF {i : Nat} : evS Φ (.retF i) (o :: ρ) S = match Env.get (o :: ρ) i with
    | some (.own c) => .ok (.rt (.d c.vw)) S
    | some (.d x) => .ok (.rt (.d x)) S
    | none => .bad := by rw [evS] <;> rfl
theorem x_retW {n : Nw} : evS Φ (.retW n) (o :: ρ) S = R.lift (o :: ρ) (evN Φ (o :: ρ) n S) fun c S1 => .ok (.rt (.own c)) S1 := by rw [evS]
theorem x_ifS {c : Ex} {a b : List St} : evS Φ (.ifS c a b) (o :: ρ) S = R.lift (o :: ρ) (evW Φ (o :: ρ) c S).t fun r S1 => if r = true then evSs Φ a (o :: ρ) S1 else evSs Φ b (o :: ρ) S1 := by rw [evS] <;> rfl
/-- a while loop -/
noncomputable def runW (Φ : Fn) (c : Ex) (a : List St) (ρ : Env) (S : Sto) : R Fl := whl (fun ρ1 S1 => evT Φ ρ1 c S1) (fun ρ1 S1 => evSs Φ a ρ1 S1) ρ S
/-- a for loop over these -/
noncomputable def runF (Φ : Fn) (tg : List Nat) (a : List St) (g : Sto → Prop) (ds : List D) (ρ : Env) (S : Sto) : R Fl := forGo (fun d ρ => setTg tg d ρ) (fun ρ1 S1 => evSs Φ a ρ1 S1) g ds ρ S
theorem x_whl {c : Ex} {a : List St} : evS Φ (.whl c a) (o :: ρ) S = runW Φ c a (o :: ρ) S := by rw [evS] <;> rfl
theorem x_forS {tg : List Nat} {k : Sk} {src : List Ex} {a : List St} : evS Φ (.forS tg k src a) (o :: ρ) S = R.lift (o :: ρ) (evWs Φ (o :: ρ) src S) fun ws S1 => if allD ws = true then (srcK (srcD k ws S1) fun ds => runF Φ tg a (srcG ws S1) ds (o :: ρ) S1) else .bad := by rw [evS] <;> rfl
theorem x_pass : evS Φ .pass (o :: ρ) S = .ok (.nx (o :: ρ)) S := by rw [evS]
theorem x_nev : evS Φ .nev (o :: ρ) S = .bad := by rw [evS]
theorem x_brk : evS Φ .brk (o :: ρ) S = .ok (.bk (o :: ρ)) S := by rw [evS]
theorem x_cnt : evS Φ .cnt (o :: ρ) S = .ok (.ct (o :: ρ)) S := by rw [evS]
theorem t_nm {d : D} {i : Nat} : setT Φ d (.nm i) (o :: ρ) S = .ok (.nx (Env.put (o :: ρ) i (.d d))) S := id rfl
theorem t_sub {d : D} {a i : Ex} : setT Φ d (.sub a i) (o :: ρ) S = R.lift (o :: ρ) (evW Φ (o :: ρ) a S).d fun x S1 => R.lift (o :: ρ) (evW Φ (o :: ρ) i S1).d fun y S2 => R.lift (o :: ρ) (mutS .set x [y, d] S2) fun _ S3 => .ok (.nx (o :: ρ)) S3 := id rfl
theorem t_osub {d : D} {j : Nat} {i : Ex} : setT Φ d (.osub j i) (o :: ρ) S = match Env.get (o :: ρ) j with
    | some (.own c) => R.lift (o :: ρ) (evW Φ (o :: ρ) i S).d fun y S1 => match mutC .set c [y, d] with
      | some (c', _) => .ok (.nx (Env.put (o :: ρ) j (.own c'))) S1
      | none => .bad
    | _ => .bad := rfl
theorem t_nil : setTs Φ [] [] ρ S = .ok (.nx ρ) S := id rfl
theorem t_cons {t : Tg} {ts : List Tg} {d : D} {ds : List D} : setTs Φ (t :: ts) (d :: ds) (o :: ρ) S = (setT Φ d t (o :: ρ) S).nx fun ρ1 S1 => setTs Φ ts ds ρ1 S1 := id rfl
theorem sa_nil : setAll [] [] ρ = some ρ := id rfl
theorem sa_cons {i : Nat} {is : List Nat} {d : D} {ds : List D} : setAll (i :: is) (d :: ds) ρ = setAll is ds (ρ.put i (.d d)) := id rfl
theorem sg_one {i : Nat} {d : D} : setTg [i] d ρ = some (ρ.put i (.d d)) := id rfl
theorem sg_many {i j : Nat} {is : List Nat} {ds : List D} : setTg (i :: j :: is) (.tup ds) ρ = setAll (i :: j :: is) ds ρ := id rfl
/-! expressions -/
theorem e_var {i : Nat} : evW Φ ρ (.var i) S = R.of S (ρ.get i) := by rw [evW]
theorem e_cst {d : D} : evW Φ ρ (.cst d) S = .ok (.d d) S := by rw [evW]
theorem e_glo {x : String} {d : D} : evW Φ ρ (.glo x d) S = .ok (.d d) S := by rw [evW]
theorem e_bin {p : Bop} {a b : Ex} : evW Φ ρ (.bin p a b) S = (evW Φ ρ a S).bind fun x S1 => (evW Φ ρ b S1).bind fun y S2 => (binD p (x.vw S2) (y.vw S2) S2).w := by rw [evW]
theorem e_neg {a : Ex} : evW Φ ρ (.neg a) S = (evW Φ ρ a S).d.bind fun x S1 => match x with
    | .int i => .ok (.d (.int (-i))) S1
    | _ => .bad := by rw [evW] <;> rfl
theorem e_cmp {p : Cop} {a b : Ex} : evW Φ ρ (.cmp p a b) S = (evW Φ ρ a S).bind fun x S1 => (evW Φ ρ b S1).bind fun y S2 => (cmpD p (x.vw S2) (y.vw S2) S2).bind fun r S3 => .ok (.d (.bl r)) S3 := by rw [evW]
theorem e_chn {p p' : Cop} {a b c : Ex} : evW Φ ρ (.chn p p' a b c) S = (evW Φ ρ a S).bind fun x S1 => (evW Φ ρ b S1).bind fun y S2 => (cmpD p (x.vw S2) (y.vw S2) S2).bind fun r S3 =>
      if r = true then (evW Φ ρ c S3).bind fun z S4 => (cmpD p' (y.vw S4) (z.vw S4) S4).bind fun r S5 => .ok (.d (.bl r)) S5 else .ok (.d (.bl false)) S3 := by rw [evW]
theorem e_bop {b : Bool} {es : List Ex} : evW Φ ρ (.bop b es) S = evB Φ ρ b es S := by rw [evW]
theorem e_not {a : Ex} : evW Φ ρ (.not a) S = (evW Φ ρ a S).t.bind fun b S1 => .ok (.d (.bl !b)) S1 := by rw [evW]
theorem e_ife {c a b : Ex} : evW Φ ρ (.ife c a b) S = (evW Φ ρ c S).t.bind fun r S1 => if r = true then (evW Φ ρ a S1).d.w else (evW Φ ρ b S1).d.w := by rw [evW]
theorem e_tup {es : List Ex} : evW Φ ρ (.tup es) S = (evEs Φ ρ es S).bind fun ds S1 => .ok (.d (.tup ds)) S1 := by rw [evW]
theorem e_idx {a i : Ex} : evW Φ ρ (.idx a i) S = (evW Φ ρ a S).bind fun x S1 => (evW Φ ρ i S1).d.bind fun y S2 => (idxD (x.vw S2) y S2).w := by rw [evW]
theorem e_slc {a : Ex} {lo hi : List Ex} : evW Φ ρ (.slc a lo hi) S = (evW Φ ρ a S).bind fun x S1 => ((evEs Φ ρ lo S1).bind fun l S2 => R.of S2 (partD l)).bind fun l S2 => ((evEs Φ ρ hi S2).bind fun u S3 => R.of S3 (partD u)).bind fun u S3 => (slcD (x.vw S3) l u S3).w := by rw [evW]
theorem e_call {f : Nat} {es : List Ex} : evW Φ ρ (.call f es) S = (evEs Φ ρ es S).bind fun ds S1 => (Φ f ds S1).d.w := by rw [evW]
theorem e_blt {b : Blt} {es : List Ex} : evW Φ ρ (.blt b es) S = (evWs Φ ρ es S).bind fun ws S1 => (bltD b (ws.map (W.vw S1)) S1).w := by rw [evW]
theorem e_mth {m : Mth} {a : Ex} {es : List Ex} : evW Φ ρ (.mth m a es) S = (evW Φ ρ a S).bind fun x S1 => R.chk (rcv m (x.vw S1)) ((evEs Φ ρ es S1).bind fun ds S2 => (mthD m (x.vw S2) ds S2).w) := by rw [evW]
theorem e_join {a b : Ex} : evW Φ ρ (.join a b) S = (evW Φ ρ a S).d.bind fun x S1 => match x with
    | .str s => (evW Φ ρ b S1).bind fun y S2 => (joinD s (y.vw S2) S2).w
    | _ => .bad := by rw [evW] <;> rfl
theorem e_mut {m : Mu} {a : Ex} {es : List Ex} : evW Φ ρ (.mut m a es) S = (evW Φ ρ a S).d.bind fun x S1 => R.chk (rcvM m (vw S1 x)) ((evEs Φ ρ es S1).bind fun ds S2 => (mutS m x ds S2).w) := by rw [evW]
theorem e_isi {a : Ex} {cs : List String} : evW Φ ρ (.isi a cs) S = (evW Φ ρ a S).bind fun x S1 => R.chk (isiOk2 cs (x.vw S1)) (.ok (.d (.bl (cs.any (isiD (x.vw S1))))) S1) := by rw [evW]
theorem e_frz {n : Nw} : evW Φ ρ (.frz n) S = (evN Φ ρ n S).bind fun c S1 => .ok (.d c.vw) S1 := by rw [evW]
theorem e_cel {n : Nw} : evW Φ ρ (.cel n) S = (evN Φ ρ n S).bind fun c S1 => .ok (.d (.ref S1.length)) (S1 ++ [c]) := by rw [evW]
theorem es0 : evEs Φ ρ [] S = .ok [] S := by rw [evEs]
theorem es1 {e : Ex} {es : List Ex} : evEs Φ ρ (e :: es) S = (evW Φ ρ e S).d.bind fun d S1 => (evEs Φ ρ es S1).bind fun ds S2 => .ok (d :: ds) S2 := by rw [evEs]
theorem ws0 : evWs Φ ρ [] S = .ok [] S := by rw [evWs]
theorem ws1 {e : Ex} {es : List Ex} : evWs Φ ρ (e :: es) S = (evW Φ ρ e S).bind fun d S1 => (evWs Φ ρ es S1).bind fun ds S2 => .ok (d :: ds) S2 := by rw [evWs]
theorem eb1 {b : Bool} {e : Ex} : evB Φ ρ b [e] S = (evW Φ ρ e S).d.w := by rw [evB]
theorem eb2 {b : Bool} {e e2 : Ex} {es : List Ex} : evB Φ ρ b (e :: e2 :: es) S = (evW Φ ρ e S).d.bind fun x S1 => (truD S1 (vw S1 x)).bind fun r S2 => if r = b then evB Φ ρ b (e2 :: es) S2 else .ok (.d x) S2 := by rw [evB]
theorem n_lst {es : List Ex} : evN Φ ρ (.lst es) S = (evEs Φ ρ es S).bind fun ds S1 => .ok (.lst ds) S1 := by rw [evN]
theorem n_dic {es : List Ex} : evN Φ ρ (.dic es) S = (evEs Φ ρ es S).bind fun ds S1 => match pairUp ds with
    | some kvs => .ok (.dct (mergeK [] kvs)) S1
    | none => .bad := by rw [evN] <;> rfl
/-- a comprehension over these -/
noncomputable def runC (Φ : Fn) (tg : List Nat) (cond : List Ex) (elt : Ex) (g : Sto → Prop) (ds : List D) (ρ : Env) (S : Sto) : R (List D) :=
  lcGo (fun d S => (R.of S (setTg tg d (ρ.dels tg))).bind fun ρ' S => (evC Φ ρ' cond S).bind fun b S1 => if b = true then (evW Φ ρ' elt S1).d.bind fun x S2 => .ok (some x) S2 else .ok none S1) g ds S
theorem n_comp {tg : List Nat} {k : Sk} {src cond : List Ex} {elt : Ex} : evN Φ ρ (.comp tg k src cond elt) S = (evWs Φ ρ src S).bind fun xs S1 => srcK (srcD k xs S1) fun ds => (runC Φ tg cond elt (srcG xs S1) ds ρ S1).noexc.bind fun r S2 => .ok (.lst r) S2 := by rw [evN] <;> rfl
theorem n_cat {a b : Ex} : evN Φ ρ (.cat a b) S = (evW Φ ρ a S).bind fun x S1 => (evW Φ ρ b S1).bind fun y S2 => match x.vw S2, y.vw S2 with
    | .lst xs, .lst ys => R.chk (szOk (xs.length + ys.length)) (.ok (.lst (xs ++ ys)) S2)
    | _, _ => .bad := by rw [evN] <;> rfl
theorem n_rep {a b : Ex} : evN Φ ρ (.rep a b) S = (evW Φ ρ a S).bind fun x S1 => (evW Φ ρ b S1).d.bind fun y S2 => match x.vw S2, y with
    | .lst xs, .int j => R.chk (repOk xs.length j) (.ok (.lst (List.replicate j.toNat xs).flatten) S2)
    | _, _ => .bad := by rw [evN] <;> rfl
theorem n_slc {a : Ex} {lo hi : List Ex} : evN Φ ρ (.slc a lo hi) S = (evW Φ ρ a S).bind fun x S1 => ((evEs Φ ρ lo S1).bind fun l S2 => R.of S2 (partD l)).bind fun l S2 => ((evEs Φ ρ hi S2).bind fun u S3 => R.of S3 (partD u)).bind fun u S3 => match x.vw S3 with
    | .lst xs => .ok (.lst (cutL xs l u)) S3
    | .scr ns => .ok (.lst ((cutL ns l u).map .int)) S3
    | _ => .bad := by rw [evN] <;> rfl
theorem n_list {a : Ex} : evN Φ ρ (.list a) S = (evW Φ ρ a S).bind fun x S1 => (R.of S1 (itemsD (x.vw S1))).bind fun xs S1 => .ok (.lst xs) S1 := by rw [evN]
theorem n_call {f : Nat} {es : List Ex} : evN Φ ρ (.call f es) S = (evEs Φ ρ es S).bind fun ds S1 => (Φ f ds S1).bind wC := by rw [evN]
theorem wC_own {c : Cell} : wC (.own c) S = .ok c S := id rfl
theorem c_nil : evC Φ ρ [] S = .ok true S := by rw [evC]
theorem c_one {c : Ex} : evC Φ ρ [c] S = (evW Φ ρ c S).t := by rw [evC]
end
section
variable {S : Sto}
theorem b_add {i j : Int} : binD .add (.int i) (.int j) S = .ok (.int (i + j)) S := id rfl
theorem b_sub {i j : Int} : binD .sub (.int i) (.int j) S = .ok (.int (i - j)) S := id rfl
theorem b_mul {i j : Int} : binD .mul (.int i) (.int j) S = R.chk (mulOk i j) (.ok (.int (i * j)) S) := id rfl
theorem b_fdv {i j : Int} : binD .fdv (.int i) (.int j) S = R.chk (fdvOk j) (.ok (.int (i / j)) S) := id rfl
theorem b_mod {i j : Int} : binD .mod (.int i) (.int j) S = R.chk (decide (0 < j)) (.ok (.int (i % j)) S) := id rfl
theorem b_pow {i j : Int} : binD .pow (.int i) (.int j) S = R.chk (powOk i j) (.ok (.int (i ^ j.toNat)) S) := id rfl
theorem b_adds {i j : Nm} : binD .add (.str i) (.str j) S = R.chk (szOk (i.length + j.length)) (.ok (.str (i ++ j)) S) := id rfl
theorem b_addt {i j : List D} : binD .add (.tup i) (.tup j) S = R.chk (szOk (i.length + j.length)) (.ok (.tup (i ++ j)) S) := id rfl
theorem o_eqi {i j : Int} : cmpD .eq (.int i) (.int j) S = .ok (i == j) S := id rfl
theorem o_nei {i j : Int} : cmpD .ne (.int i) (.int j) S = .ok (!(i == j)) S := id rfl
theorem o_lti {i j : Int} : cmpD .lt (.int i) (.int j) S = .ok (decide (i < j)) S := id rfl
theorem o_lei {i j : Int} : cmpD .le (.int i) (.int j) S = .ok (decide (i ≤ j)) S := id rfl
theorem o_gti {i j : Int} : cmpD .gt (.int i) (.int j) S = .ok (decide (j < i)) S := id rfl
theorem o_gei {i j : Int} : cmpD .ge (.int i) (.int j) S = .ok (decide (j ≤ i)) S := id rfl
theorem o_eqs {i j : Nm} : cmpD .eq (.str i) (.str j) S = .ok (i == j) S := id rfl
theorem o_nes {i j : Nm} : cmpD .ne (.str i) (.str j) S = .ok (!(i == j)) S := id rfl
theorem tr_bl {b : Bool} : truD S (.bl b) = .ok b S := id rfl
theorem tr_int {i : Int} : truD S (.int i) = .ok (i != 0) S := id rfl
theorem tr_lst {xs : List D} : truD S (.lst xs) = .ok (!xs.isEmpty) S := id rfl
theorem tr_tup {xs : List D} : truD S (.tup xs) = .ok (!xs.isEmpty) S := id rfl
theorem i_lst {xs : List D} {i : Int} : idxD (.lst xs) (.int i) S = R.of S (atI xs i) := id rfl
theorem i_tup {xs : List D} {i : Int} : idxD (.tup xs) (.int i) S = R.of S (atI xs i) := id rfl
theorem i_scr {xs : List Int} {i : Int} : idxD (.scr xs) (.int i) S = R.of S ((atI xs i).map .int) := id rfl
theorem i_str {xs : Nm} {i : Int} : idxD (.str xs) (.int i) S = R.of S ((atI xs i).map fun c => .str [c]) := id rfl
theorem i_dics {xs : List (Ky × D)} {i : Nm} : idxD (.dic xs) (.str i) S = R.of S (lookK xs (.inr i)) := id rfl
theorem l1 {b : Blt} {x : D} : bltD b [x] S = blt1 b x S := id rfl
theorem l2 {b : Blt} {x y : D} : bltD b [x, y] S = blt2 b x y S := id rfl
theorem l_lenl {xs : List D} : blt1 .len (.lst xs) S = .ok (.int xs.length) S := id rfl
theorem l_lent {xs : List D} : blt1 .len (.tup xs) S = .ok (.int xs.length) S := id rfl
theorem l_lenc {xs : List Int} : blt1 .len (.scr xs) S = .ok (.int xs.length) S := id rfl
theorem l_lens {xs : Nm} : blt1 .len (.str xs) S = .ok (.int xs.length) S := id rfl
theorem l_inti {i : Int} : blt1 .int (.int i) S = .ok (.int i) S := id rfl
theorem l_intb {b : Bool} : blt1 .int (.bl b) S = .ok (.int (if b then 1 else 0)) S := id rfl
theorem l_min {i j : Int} : blt2 .min (.int i) (.int j) S = .ok (.int (if j < i then j else i)) S := id rfl
theorem l_max {i j : Int} : blt2 .max (.int i) (.int j) S = .ok (.int (if i < j then j else i)) S := id rfl
theorem l_dm {i j : Int} : blt2 .divmod (.int i) (.int j) S = R.chk (fdvOk j) (.ok (.tup [.int (i / j), .int (i % j)]) S) := id rfl
theorem l_sum {x : D} : blt1 .sum x S = R.of S (((listD x).bind toInts).map fun ns => .int ns.sum) := id rfl
end
/-! loops -/
theorem runF_nil {Φ : Fn} {tg : List Nat} {a : List St} {g : Sto → Prop} {ρ : Env} {S : Sto} : runF Φ tg a g [] ρ S = .ok (.nx ρ) S := id rfl
open Classical in
theorem runF_cons {Φ : Fn} {tg : List Nat} {a : List St} {g : Sto → Prop} {d : D} {ds : List D} {ρ : Env} {S : Sto} : runF Φ tg a g (d :: ds) ρ S = match setTg tg d ρ with
    | none => .bad
    | some ρ1 => (evSs Φ a ρ1 S).loop fun ρ2 S2 => if g S2 then runF Φ tg a g ds ρ2 S2 else .bad := rfl
theorem runC_nil {Φ : Fn} {tg : List Nat} {c : List Ex} {e : Ex} {g : Sto → Prop} {ρ : Env} {S : Sto} : runC Φ tg c e g [] ρ S = .ok [] S := id rfl
open Classical in
theorem runC_cons {Φ : Fn} {tg : List Nat} {c : List Ex} {e : Ex} {g : Sto → Prop} {d : D} {ds : List D} {ρ : Env} {S : Sto} : runC Φ tg c e g (d :: ds) ρ S = ((R.of S (setTg tg d (ρ.dels tg))).bind fun ρ' S => (evC Φ ρ' c S).bind fun b S1 => if b = true then (evW Φ ρ' e S1).d.bind fun x S2 => .ok (some x) S2 else .ok none S1).bind fun r S1 => if g S1 then (runC Φ tg c e g ds ρ S1).bind fun ys S2 => .ok (r.toList ++ ys) S2 else .bad := id rfl
/-- a comprehension without a test that leaves the store -/
theorem runC_map {Φ : Fn} {tg : List Nat} {e : Ex} {g : Sto → Prop} {ρ : Env} {S : Sto} {f : D → D} (hg : g S) : ∀ {ds : List D}, (∀ d ∈ ds, ∃ ρ', setTg tg d (ρ.dels tg) = some ρ' ∧ evW Φ ρ' e S = .ok (.d (f d)) S) → runC Φ tg [] e g ds ρ S = .ok (ds.map f) S
  | [], _ => rfl
  | d :: ds, h => by
    obtain ⟨ρ', h1, h2⟩ := h d List.mem_cons_self
    rw [runC_cons, h1]
    simp only [of_some, bind_okE, c_nil, if_true, h2, d_ok]
    rw [if_pos hg, runC_map hg fun x hx => h x (List.mem_cons_of_mem _ hx)]
    rfl
theorem srcG_refl {ws : List W} {S : Sto} : srcG ws S S := fun x _ => by
  cases x with
  | d x => cases x <;> trivial
  | own c => trivial
/-- one turn of a while loop -/
theorem whl_of {test : Env → Sto → R Bool} {body : Env → Sto → R Fl} {ρ : Env} {S : Sto} {n : Nat} (h : whlN test body n ρ S ≠ .bad) : whl test body ρ S = whlN test body n ρ S := by
  have mono : ∀ (k : Nat) (ρ : Env) (S : Sto), whlN test body k ρ S ≠ .bad → whlN test body (k + 1) ρ S = whlN test body k ρ S := by
    intro k
    induction k with
    | zero => intro ρ S h; exact absurd rfl h
    | succ k ih =>
      intro ρ S h
      unfold whlN at h ⊢
      cases q : test ρ S with
      | bad => rfl
      | exc e S1 => rfl
      | ok b S1 =>
        rw [q] at h
        simp only [lift_okE] at h ⊢
        cases b with
        | false => rfl
        | true =>
          simp only [if_true] at h ⊢
          cases r : body ρ S1 with
          | bad => rfl
          | exc e S2 => rfl
          | ok f S2 =>
            rw [r] at h
            cases f with
            | nx ρ2 => exact ih ρ2 S2 h
            | ct ρ2 => exact ih ρ2 S2 h
            | bk ρ2 => rfl
            | rt w => rfl
            | ex e ρ2 => rfl
  have up : ∀ j k, whlN test body k ρ S ≠ .bad → whlN test body (k + j) ρ S = whlN test body k ρ S := by
    intro j
    induction j with
    | zero => intro k _; rfl
    | succ j ih =>
      intro k hk
      have e := ih k hk
      have : whlN test body (k + j + 1) ρ S = whlN test body (k + j) ρ S := mono _ _ _ (by rw [e]; exact hk)
      exact this.trans e
  unfold whl
  have ex : ∃ n, whlN test body n ρ S ≠ .bad := ⟨n, h⟩
  rw [dif_pos ex]
  have h2 := Classical.choose_spec ex
  generalize Classical.choose ex = m at h2 ⊢
  rcases Nat.le_total n m with z | z
  · obtain ⟨j, rfl⟩ := Nat.exists_eq_add_of_le z
    exact up j n h
  · obtain ⟨j, rfl⟩ := Nat.exists_eq_add_of_le z
    exact (up j m h2).symm
theorem log_small {n k : Nat} (hk : 0 < k) (h : n < 2 ^ k) : n.log2 < k := by
  by_cases z : n = 0
  · rw [z]; exact hk
  · exact (Nat.log2_lt z).mpr h
theorem mulOk_bits {i j : Int} (h1 : i.natAbs < 2 ^ 2000000) (h2 : j.natAbs < 2 ^ 2000000) : mulOk i j = true := by
  unfold mulOk
  have a := log_small (by decide) h1
  have b := log_small (by decide) h2
  rw [decide_eq_true (show i.natAbs.log2 < 30000000 by omega), decide_eq_true (show j.natAbs.log2 < 30000000 by omega)]
  rfl
theorem mulOk_small {i j : Int} (h1 : -(10 ^ 60) ≤ i) (h2 : i ≤ 10 ^ 60) (h3 : -(10 ^ 60) ≤ j) (h4 : j ≤ 10 ^ 60) : mulOk i j = true := by
  unfold mulOk
  have p : (2 : Nat) ^ 200 > 10 ^ 60 := by decide
  have a := log_small (n := i.natAbs) (k := 200) (by decide) (by omega)
  have b := log_small (n := j.natAbs) (k := 200) (by decide) (by omega)
  rw [decide_eq_true (show i.natAbs.log2 < 30000000 by omega), decide_eq_true (show j.natAbs.log2 < 30000000 by omega)]
  rfl
theorem src_rng2 {m n : Int} {S : Sto} (h : rngOk m n = true) : srcD .range [.d (.int m), .d (.int n)] S = some (rngD m n) := by
  show (if rngOk m n = true then _ else _) = _
  rw [if_pos h]
theorem src_rng1 {n : Int} {S : Sto} (h : rngOk 0 n = true) : srcD .range [.d (.int n)] S = some (rngD 0 n) := by
  show (if rngOk 0 n = true then _ else _) = _
  rw [if_pos h]
theorem rngOk_in {m n : Int} (h1 : -1000000000 ≤ m) (h2 : m ≤ 1000000000) (h3 : -1000000000 ≤ n) (h4 : n ≤ 1000000000) (h5 : n - m < 16777216) : rngOk m n = true := by
  unfold rngOk
  simp only [Bool.and_eq_true, decide_eq_true_eq]
  omega
theorem toInts_map {α : Type} (f : α → Int) : ∀ l : List α, toInts (l.map fun x => D.int (f x)) = some (l.map f)
  | [] => rfl
  | a :: l => by
    show (toInts (l.map fun x => D.int (f x))).map (f a :: ·) = _
    rw [toInts_map f l]
    rfl
theorem listD_lst {xs : List D} : listD (.lst xs) = some xs := id rfl
theorem runC_rng {Φ : Fn} {tg : List Nat} {e : Ex} {g : Sto → Prop} {ρ : Env} {S : Sto} {f : Int → D} {a b : Int} (hg : g S) (h : ∀ i : Int, a ≤ i → i < b → ∃ ρ', setTg tg (.int i) (ρ.dels tg) = some ρ' ∧ evW Φ ρ' e S = .ok (.d (f i)) S) :
    runC Φ tg [] e g (rngD a b) ρ S = .ok ((List.range (b - a).toNat).map fun (k : Nat) => f (a + (k : Int))) S := by
  have := runC_map (Φ := Φ) (tg := tg) (e := e) (g := g) (ρ := ρ) (S := S) (f := fun d => match d with
    | .int i => f i
    | d => d) hg (ds := rngD a b) (fun d hd => by
      obtain ⟨k, hk, rfl⟩ := List.mem_map.mp hd
      have := List.mem_range.mp hk
      exact h (a + (k : Int)) (by omega) (by omega))
  rw [this]
  unfold rngD
  rw [List.map_map]
  rfl
theorem whlN_succ {test : Env → Sto → R Bool} {body : Env → Sto → R Fl} {k : Nat} {ρ : Env} {S : Sto} : whlN test body (k + 1) ρ S = R.lift ρ (test ρ S) fun b S1 => if b = true then (body ρ S1).loop (whlN test body k) else .ok (.nx ρ) S1 := id rfl
theorem x_T {Φ : Fn} {ρ : Env} {c : Ex} {S : Sto} : evT Φ ρ c S = (evW Φ ρ c S).t := id rfl
theorem runW_of {Φ : Fn} {c : Ex} {a : List St} {ρ ρ' : Env} {S S' : Sto} (k : Nat) (h : whlN (fun ρ1 S1 => evT Φ ρ1 c S1) (fun ρ1 S1 => evSs Φ a ρ1 S1) k ρ S = .ok (.nx ρ') S') : runW Φ c a ρ S = .ok (.nx ρ') S' := by
  unfold runW
  rw [whl_of (n := k) (by rw [h]; simp), h]
theorem atI_in {α : Type} {xs : List α} {i : Int} (h1 : 0 ≤ i) : atI xs i = xs[i.toNat]? := by unfold atI; rw [if_pos h1]
end Ev
namespace Ev
theorem run_is_long {n : Nat} {a0 : D} {S : Sto} : call (progT tab) (n + 1) F_is_long [a0] S = endF (evSs (call (progT tab) n) b_is_long.body [some (.d a0)] S) := call_eq (fd := b_is_long) rfl rfl rfl
theorem run_length_of {n : Nat} {a0 a1 : D} {S : Sto} : call (progT tab) (n + 1) F_length_of [a0, a1] S = endF (evSs (call (progT tab) n) b_length_of.body [some (.d a0), some (.d a1)] S) := call_eq (fd := b_length_of) rfl rfl rfl
theorem run_long_years {n : Nat} {a0 : D} {S : Sto} : call (progT tab) (n + 1) F_long_years [a0] S = endF (evSs (call (progT tab) n) b_long_years.body [some (.d a0)] S) := call_eq (fd := b_long_years) rfl rfl rfl
theorem run_days_ahead {n : Nat} {a0 : D} {S : Sto} : call (progT tab) (n + 1) F_days_ahead [a0] S = endF (evSs (call (progT tab) n) b_days_ahead.body [some (.d a0)] S) := call_eq (fd := b_days_ahead) rfl rfl rfl
theorem run_is_date {n : Nat} {a0 a1 a2 : D} {S : Sto} : call (progT tab) (n + 1) F_is_date [a0, a1, a2] S = endF (evSs (call (progT tab) n) b_is_date.body [some (.d a0), some (.d a1), some (.d a2)] S) := call_eq (fd := b_is_date) rfl rfl rfl
theorem run_day_at {n : Nat} {a0 a1 a2 : D} {S : Sto} : call (progT tab) (n + 1) F_day_at [a0, a1, a2] S = endF (evSs (call (progT tab) n) b_day_at.body [some (.d a0), some (.d a1), some (.d a2), none] S) := call_eq (fd := b_day_at) rfl rfl rfl
theorem run_day_of {n : Nat} {a0 a1 a2 : D} {S : Sto} : call (progT tab) (n + 1) F_day_of [a0, a1, a2] S = endF (evSs (call (progT tab) n) b_day_of.body [some (.d a0), some (.d a1), some (.d a2)] S) := call_eq (fd := b_day_of) rfl rfl rfl
theorem run_date_of {n : Nat} {a0 : D} {S : Sto} : call (progT tab) (n + 1) F_date_of [a0] S = endF (evSs (call (progT tab) n) b_date_of.body [some (.d a0), none, none, none] S) := call_eq (fd := b_date_of) rfl rfl rfl
theorem run__law_mixed {n : Nat} {a0 : D} {S : Sto} : call (progT tab) (n + 1) F__law_mixed [a0] S = endF (evSs (call (progT tab) n) b__law_mixed.body [some (.d a0)] S) := call_eq (fd := b__law_mixed) rfl rfl rfl
theorem run__law_pack {n : Nat} {a0 a1 : D} {S : Sto} : call (progT tab) (n + 1) F__law_pack [a0, a1] S = endF (evSs (call (progT tab) n) b__law_pack.body [some (.d a0), some (.d a1)] S) := call_eq (fd := b__law_pack) rfl rfl rfl
theorem run__law_take {n : Nat} {a0 a1 : D} {S : Sto} : call (progT tab) (n + 1) F__law_take [a0, a1] S = endF (evSs (call (progT tab) n) b__law_take.body [some (.d a0), some (.d a1), none] S) := call_eq (fd := b__law_take) rfl rfl rfl
theorem run__law_length {n : Nat} {a0 a1 : D} {S : Sto} : call (progT tab) (n + 1) F__law_length [a0, a1] S = endF (evSs (call (progT tab) n) b__law_length.body [some (.d a0), some (.d a1)] S) := call_eq (fd := b__law_length) rfl rfl rfl
theorem run__law_ahead {n : Nat} {a0 : D} {S : Sto} : call (progT tab) (n + 1) F__law_ahead [a0] S = endF (evSs (call (progT tab) n) b__law_ahead.body [some (.d a0), none] S) := call_eq (fd := b__law_ahead) rfl rfl rfl
theorem run__law_day {n : Nat} {a0 : D} {S : Sto} : call (progT tab) (n + 1) F__law_day [a0] S = endF (evSs (call (progT tab) n) b__law_day.body [some (.d a0), none, none, none, none] S) := call_eq (fd := b__law_day) rfl rfl rfl
theorem run__law_date {n : Nat} {a0 : D} {S : Sto} : call (progT tab) (n + 1) F__law_date [a0] S = endF (evSs (call (progT tab) n) b__law_date.body [some (.d a0), none, none, none] S) := call_eq (fd := b__law_date) rfl rfl rfl
theorem run__law_drawn_date {n : Nat} {a0 a1 : D} {S : Sto} : call (progT tab) (n + 1) F__law_drawn_date [a0, a1] S = endF (evSs (call (progT tab) n) b__law_drawn_date.body [some (.d a0), some (.d a1), none, none, none, none, none, none] S) := call_eq (fd := b__law_drawn_date) rfl rfl rfl
theorem run__law_whole {n : Nat} {a0 : D} {S : Sto} : call (progT tab) (n + 1) F__law_whole [a0] S = endF (evSs (call (progT tab) n) b__law_whole.body [some (.d a0)] S) := call_eq (fd := b__law_whole) rfl rfl rfl
theorem run__law_refused {n : Nat} {a0 : D} {S : Sto} : call (progT tab) (n + 1) F__law_refused [a0] S = endF (evSs (call (progT tab) n) b__law_refused.body [some (.d a0), none, none] S) := call_eq (fd := b__law_refused) rfl rfl rfl
theorem run__law_no_date {n : Nat} {a0 a1 : D} {S : Sto} : call (progT tab) (n + 1) F__law_no_date [a0, a1] S = endF (evSs (call (progT tab) n) b__law_no_date.body [some (.d a0), some (.d a1), none, none, none, none, none, none, none] S) := call_eq (fd := b__law_no_date) rfl rfl rfl
theorem run__law_right {n : Nat} {a0 : D} {S : Sto} : call (progT tab) (n + 1) F__law_right [a0] S = endF (evSs (call (progT tab) n) b__law_right.body [some (.d a0), none, none, none, none] S) := call_eq (fd := b__law_right) rfl rfl rfl
theorem run_law {n : Nat} {a0 : D} {S : Sto} : call (progT tab) (n + 1) F_law [a0] S = endF (evSs (call (progT tab) n) b_law.body [some (.d a0), none, none, none, none, none] S) := call_eq (fd := b_law) rfl rfl rfl
end Ev
namespace HT
open PySem PySem.Spec PyProof.Rows L2 Ev
theorem progOf_tab {T : List Ent} {tab : List Fd} (h : T.map (·.fd) = tab) : progOf T = progT tab := by
  funext j
  unfold progOf progT
  rw [← h, List.getElem?_map]
  cases T[j]? <;> rfl
def lawE : Ent := ⟨"law", b_law, ["_law_script", "_law_k", "_law_pack_here", "_law_most", "_law_date_here", "_law_behind"], top 38, none⟩
theorem chk : chkTab ents cs ci = true := by kernel_rfl
theorem prog_eq : progOf ents = progT tab := by
  have e : ents.map (·.fd) = tab := by rfl
  exact progOf_tab e
end HT
set_option maxHeartbeats 4000000
/-! Ev, part 31: more to compute with. -/
namespace Ev
theorem vw_isi {S : Sto} {x : D} (h : isiOk x = true) : vw S x = x := by
  cases x <;> first | rfl | cases h
mutual
/-- data without cells, objects and the like -/
def clD : D → Bool
  | .non => true
  | .bl _ => true
  | .int _ => true
  | .str _ => true
  | .dic _ => true
  | .tup xs => clDs xs
  | .lst xs => clDs xs
  | _ => false
def clDs : List D → Bool
  | [] => true
  | x :: xs => clD x && clDs xs
end
theorem clD_isi {x : D} (h : clD x = true) : isiOk x = true := by
  cases x <;> first | rfl | cases h
theorem clDs_cons {x : D} {xs : List D} (h : clDs (x :: xs) = true) : clD x = true ∧ clDs xs = true := by
  have h : (clD x && clDs xs) = true := h
  simpa using h
theorem clD_vw {S : Sto} {x : D} (h : clD x = true) : vw S x = x := vw_isi (clD_isi h)
theorem clDs_get : ∀ {xs : List D} {i : Nat} {x : D}, clDs xs = true → xs[i]? = some x → clD x = true
  | [], _, _, _, h => by simp at h
  | y :: ys, 0, x, h, e => by simp at e; subst e; exact (clDs_cons h).1
  | y :: ys, i + 1, x, h, e => clDs_get (clDs_cons h).2 (by simpa using e)
theorem sub_one {c : Nat} {b : Nm} : subS [c] b = decide (c ∈ b) := by
  unfold subS
  have := PySem.StrLaws.found_one ⟨b.toArray⟩ c
  have e : (⟨b.toArray⟩ : PySem.Str).length = b.length := by show b.toArray.size = b.length; simp
  rw [e] at this
  rw [show (⟨[c].toArray⟩ : PySem.Str) = ⟨#[c]⟩ from rfl, this]
theorem toBools_map {α : Type} (f : α → Bool) : ∀ l : List α, toBools (l.map fun x => D.bl (f x)) = some (l.map f)
  | [] => rfl
  | a :: l => by
    show (toBools (l.map fun x => D.bl (f x))).map (f a :: ·) = _
    rw [toBools_map f l]
    rfl
theorem toStrs_map {α : Type} (f : α → Nm) : ∀ l : List α, toStrs (l.map fun x => D.str (f x)) = some (l.map f)
  | [] => rfl
  | a :: l => by
    show (toStrs (l.map fun x => D.str (f x))).map (f a :: ·) = _
    rw [toStrs_map f l]
    rfl
theorem q_nn   : eqv (.non) (.non) = true := id rfl
theorem q_nb  {b : Bool} : eqv (.non) (.bl b) = false := id rfl
theorem q_ni  {b : Int} : eqv (.non) (.int b) = false := id rfl
theorem q_ns  {b : Nm} : eqv (.non) (.str b) = false := id rfl
theorem q_nt  {b : List D} : eqv (.non) (.tup b) = false := id rfl
theorem q_nl  {b : List D} : eqv (.non) (.lst b) = false := id rfl
theorem q_nd  {b : List (Ky × D)} : eqv (.non) (.dic b) = false := id rfl
theorem q_bn {a : Bool}  : eqv (.bl a) (.non) = false := id rfl
theorem q_bb {a : Bool} {b : Bool} : eqv (.bl a) (.bl b) = (a == b) := id rfl
theorem q_bi {a : Bool} {b : Int} : eqv (.bl a) (.int b) = ((if a then 1 else 0) == b) := id rfl
theorem q_bs {a : Bool} {b : Nm} : eqv (.bl a) (.str b) = false := id rfl
theorem q_bt {a : Bool} {b : List D} : eqv (.bl a) (.tup b) = false := id rfl
theorem q_bl {a : Bool} {b : List D} : eqv (.bl a) (.lst b) = false := id rfl
theorem q_bd {a : Bool} {b : List (Ky × D)} : eqv (.bl a) (.dic b) = false := id rfl
theorem q_in {a : Int}  : eqv (.int a) (.non) = false := id rfl
theorem q_ib {a : Int} {b : Bool} : eqv (.int a) (.bl b) = (a == (if b then 1 else 0)) := id rfl
theorem q_ii {a : Int} {b : Int} : eqv (.int a) (.int b) = (a == b) := id rfl
theorem q_is {a : Int} {b : Nm} : eqv (.int a) (.str b) = false := id rfl
theorem q_it {a : Int} {b : List D} : eqv (.int a) (.tup b) = false := id rfl
theorem q_il {a : Int} {b : List D} : eqv (.int a) (.lst b) = false := id rfl
theorem q_id {a : Int} {b : List (Ky × D)} : eqv (.int a) (.dic b) = false := id rfl
theorem q_sn {a : Nm}  : eqv (.str a) (.non) = false := id rfl
theorem q_sb {a : Nm} {b : Bool} : eqv (.str a) (.bl b) = false := id rfl
theorem q_si {a : Nm} {b : Int} : eqv (.str a) (.int b) = false := id rfl
theorem q_ss {a : Nm} {b : Nm} : eqv (.str a) (.str b) = (a == b) := id rfl
theorem q_st {a : Nm} {b : List D} : eqv (.str a) (.tup b) = false := id rfl
theorem q_sl {a : Nm} {b : List D} : eqv (.str a) (.lst b) = false := id rfl
theorem q_sd {a : Nm} {b : List (Ky × D)} : eqv (.str a) (.dic b) = false := id rfl
theorem q_tn {a : List D}  : eqv (.tup a) (.non) = false := id rfl
theorem q_tb {a : List D} {b : Bool} : eqv (.tup a) (.bl b) = false := id rfl
theorem q_ti {a : List D} {b : Int} : eqv (.tup a) (.int b) = false := id rfl
theorem q_ts {a : List D} {b : Nm} : eqv (.tup a) (.str b) = false := id rfl
theorem q_tt {a : List D} {b : List D} : eqv (.tup a) (.tup b) = eqvs a b := id rfl
theorem q_tl {a : List D} {b : List D} : eqv (.tup a) (.lst b) = false := id rfl
theorem q_td {a : List D} {b : List (Ky × D)} : eqv (.tup a) (.dic b) = false := id rfl
theorem q_ln {a : List D}  : eqv (.lst a) (.non) = false := id rfl
theorem q_lb {a : List D} {b : Bool} : eqv (.lst a) (.bl b) = false := id rfl
theorem q_li {a : List D} {b : Int} : eqv (.lst a) (.int b) = false := id rfl
theorem q_ls {a : List D} {b : Nm} : eqv (.lst a) (.str b) = false := id rfl
theorem q_lt {a : List D} {b : List D} : eqv (.lst a) (.tup b) = false := id rfl
theorem q_ll {a : List D} {b : List D} : eqv (.lst a) (.lst b) = eqvs a b := id rfl
theorem q_ld {a : List D} {b : List (Ky × D)} : eqv (.lst a) (.dic b) = false := id rfl
theorem q_dn {a : List (Ky × D)}  : eqv (.dic a) (.non) = false := id rfl
theorem q_db {a : List (Ky × D)} {b : Bool} : eqv (.dic a) (.bl b) = false := id rfl
theorem q_di {a : List (Ky × D)} {b : Int} : eqv (.dic a) (.int b) = false := id rfl
theorem q_ds {a : List (Ky × D)} {b : Nm} : eqv (.dic a) (.str b) = false := id rfl
theorem q_dt {a : List (Ky × D)} {b : List D} : eqv (.dic a) (.tup b) = false := id rfl
theorem q_dl {a : List (Ky × D)} {b : List D} : eqv (.dic a) (.lst b) = false := id rfl
theorem q_dd {a : List (Ky × D)} {b : List (Ky × D)} : eqv (.dic a) (.dic b) = false := id rfl
theorem qs_nn : eqvs [] [] = true := id rfl
theorem qs_nc {x : D} {xs : List D} : eqvs [] (x :: xs) = false := id rfl
theorem qs_cn {x : D} {xs : List D} : eqvs (x :: xs) [] = false := id rfl
theorem qs_cc {x y : D} {xs ys : List D} : eqvs (x :: xs) (y :: ys) = (eqv x y && eqvs xs ys) := id rfl
@[simp] theorem vw_kdic {S : Sto} {i : List (Nm × D)} : vw S (.kdic i) = .kdic i := id rfl
theorem o_ins {S : Sto} {a b : Nm} : cmpD .inn (.str a) (.str b) S = .ok (subS a b) S := id rfl
theorem o_nis {S : Sto} {a b : Nm} : cmpD .nin (.str a) (.str b) S = .ok (!subS a b) S := id rfl
theorem o_int {S : Sto} {x : D} {ys : List D} : cmpD .inn x (.tup ys) S = R.chk (pl x && pls ys) (.ok (ys.any fun y => eqv y x) S) := by cases x <;> rfl
theorem o_nit {S : Sto} {x : D} {ys : List D} : cmpD .nin x (.tup ys) S = R.chk (pl x && pls ys) (.ok (!ys.any fun y => eqv y x) S) := by cases x <;> rfl
theorem o_inl {S : Sto} {x : D} {ys : List D} : cmpD .inn x (.lst ys) S = R.chk (pl x && pls ys) (.ok (ys.any fun y => eqv y x) S) := by cases x <;> rfl
theorem o_nil {S : Sto} {x : D} {ys : List D} : cmpD .nin x (.lst ys) S = R.chk (pl x && pls ys) (.ok (!ys.any fun y => eqv y x) S) := by cases x <;> rfl
theorem o_eq {S : Sto} {x y : D} : cmpD .eq x y S = R.chk (eqOk x y) (.ok (eqv x y) S) := id rfl
theorem o_ne {S : Sto} {x y : D} : cmpD .ne x y S = R.chk (eqOk x y) (.ok (!eqv x y) S) := id rfl
theorem o_eq_nn {S : Sto}   : cmpD .eq (.non) (.non) S = .ok (true) S := id rfl
theorem o_ne_nn {S : Sto}   : cmpD .ne (.non) (.non) S = .ok (!true) S := id rfl
theorem o_eq_nb {S : Sto}  {b : Bool} : cmpD .eq (.non) (.bl b) S = .ok (false) S := id rfl
theorem o_ne_nb {S : Sto}  {b : Bool} : cmpD .ne (.non) (.bl b) S = .ok (!false) S := id rfl
theorem o_eq_ni {S : Sto}  {b : Int} : cmpD .eq (.non) (.int b) S = .ok (false) S := id rfl
theorem o_ne_ni {S : Sto}  {b : Int} : cmpD .ne (.non) (.int b) S = .ok (!false) S := id rfl
theorem o_eq_ns {S : Sto}  {b : Nm} : cmpD .eq (.non) (.str b) S = .ok (false) S := id rfl
theorem o_ne_ns {S : Sto}  {b : Nm} : cmpD .ne (.non) (.str b) S = .ok (!false) S := id rfl
theorem o_eq_bn {S : Sto} {a : Bool}  : cmpD .eq (.bl a) (.non) S = .ok (false) S := id rfl
theorem o_ne_bn {S : Sto} {a : Bool}  : cmpD .ne (.bl a) (.non) S = .ok (!false) S := id rfl
theorem o_eq_bb {S : Sto} {a : Bool} {b : Bool} : cmpD .eq (.bl a) (.bl b) S = .ok ((a == b)) S := id rfl
theorem o_ne_bb {S : Sto} {a : Bool} {b : Bool} : cmpD .ne (.bl a) (.bl b) S = .ok (!(a == b)) S := id rfl
theorem o_eq_bi {S : Sto} {a : Bool} {b : Int} : cmpD .eq (.bl a) (.int b) S = .ok (((if a then 1 else 0) == b)) S := id rfl
theorem o_ne_bi {S : Sto} {a : Bool} {b : Int} : cmpD .ne (.bl a) (.int b) S = .ok (!((if a then 1 else 0) == b)) S := id rfl
theorem o_eq_bs {S : Sto} {a : Bool} {b : Nm} : cmpD .eq (.bl a) (.str b) S = .ok (false) S := id rfl
theorem o_ne_bs {S : Sto} {a : Bool} {b : Nm} : cmpD .ne (.bl a) (.str b) S = .ok (!false) S := id rfl
theorem o_eq_in {S : Sto} {a : Int}  : cmpD .eq (.int a) (.non) S = .ok (false) S := id rfl
theorem o_ne_in {S : Sto} {a : Int}  : cmpD .ne (.int a) (.non) S = .ok (!false) S := id rfl
theorem o_eq_ib {S : Sto} {a : Int} {b : Bool} : cmpD .eq (.int a) (.bl b) S = .ok ((a == (if b then 1 else 0))) S := id rfl
theorem o_ne_ib {S : Sto} {a : Int} {b : Bool} : cmpD .ne (.int a) (.bl b) S = .ok (!(a == (if b then 1 else 0))) S := id rfl
theorem o_eq_is {S : Sto} {a : Int} {b : Nm} : cmpD .eq (.int a) (.str b) S = .ok (false) S := id rfl
theorem o_ne_is {S : Sto} {a : Int} {b : Nm} : cmpD .ne (.int a) (.str b) S = .ok (!false) S := id rfl
theorem o_eq_sn {S : Sto} {a : Nm}  : cmpD .eq (.str a) (.non) S = .ok (false) S := id rfl
theorem o_ne_sn {S : Sto} {a : Nm}  : cmpD .ne (.str a) (.non) S = .ok (!false) S := id rfl
theorem o_eq_sb {S : Sto} {a : Nm} {b : Bool} : cmpD .eq (.str a) (.bl b) S = .ok (false) S := id rfl
theorem o_ne_sb {S : Sto} {a : Nm} {b : Bool} : cmpD .ne (.str a) (.bl b) S = .ok (!false) S := id rfl
theorem o_eq_si {S : Sto} {a : Nm} {b : Int} : cmpD .eq (.str a) (.int b) S = .ok (false) S := id rfl
theorem o_ne_si {S : Sto} {a : Nm} {b : Int} : cmpD .ne (.str a) (.int b) S = .ok (!false) S := id rfl
theorem o_eqT0 {S : Sto} {xs : List D} : cmpD .eq (.tup xs) (.tup []) S = .ok (eqvs xs []) S := id rfl
theorem o_neT0 {S : Sto} {xs : List D} : cmpD .ne (.tup xs) (.tup []) S = .ok (!eqvs xs []) S := id rfl
theorem pl_n : pl .non = true := id rfl
theorem pl_b {b : Bool} : pl (.bl b) = true := id rfl
theorem pl_i {b : Int} : pl (.int b) = true := id rfl
theorem pl_s {b : Nm} : pl (.str b) = true := id rfl
theorem pl_t {b : List D} : pl (.tup b) = okDs b 59 := id rfl
theorem pl_l {b : List D} : pl (.lst b) = okDs b 59 := id rfl
theorem pls_nil : pls [] = true := id rfl
theorem pls_cons {x : D} {xs : List D} : pls (x :: xs) = (pl x && pls xs) := id rfl
theorem ok_n {n : Nat} : okD .non n = true := id rfl
theorem ok_b {n : Nat} {b : Bool} : okD (.bl b) n = true := id rfl
theorem ok_i {n : Nat} {b : Int} : okD (.int b) n = true := id rfl
theorem ok_s {n : Nat} {b : Nm} : okD (.str b) n = true := id rfl
theorem ok_t {n : Nat} {b : List D} : okD (.tup b) (n + 1) = okDs b n := by show (decide (0 < n + 1) && okDs b n) = _; simp
theorem ok_l {n : Nat} {b : List D} : okD (.lst b) (n + 1) = okDs b n := by show (decide (0 < n + 1) && okDs b n) = _; simp
theorem oks_nil {n : Nat} : okDs [] n = true := id rfl
theorem oks_cons {n : Nat} {x : D} {xs : List D} : okDs (x :: xs) n = (okD x n && okDs xs n) := id rfl
theorem o_isN {S : Sto} {x : D} : cmpD .is x .non S = .ok (isNon x) S := id rfl
theorem o_isnN {S : Sto} {x : D} : cmpD .isn x .non S = .ok (!isNon x) S := id rfl
theorem eqOk_t0 {xs : List D} : eqOk (.tup xs) (.tup []) = true := id rfl
section
variable {Φ : Fn} {tg : List Nat} {c e : Ex} {g : Sto → Prop} {ρ : Env} {S : Sto} {α : Type}
theorem runC_mapL {v f : α → D} (hg : g S) : ∀ {l : List α}, (∀ a ∈ l, ∃ ρ', setTg tg (v a) (ρ.dels tg) = some ρ' ∧ evW Φ ρ' e S = .ok (.d (f a)) S) → runC Φ tg [] e g (l.map v) ρ S = .ok (l.map f) S
  | [], _ => rfl
  | a :: l, h => by
    obtain ⟨ρ', h1, h2⟩ := h a List.mem_cons_self
    rw [List.map_cons, runC_cons, h1]
    simp only [of_some, bind_okE, c_nil, if_true, h2, d_ok]
    rw [if_pos hg, runC_mapL hg fun x hx => h x (List.mem_cons_of_mem _ hx)]
    rfl
theorem runC_filL {v f : α → D} {p : α → Bool} (hg : g S) : ∀ {l : List α}, (∀ a ∈ l, ∃ ρ', setTg tg (v a) (ρ.dels tg) = some ρ' ∧ (evW Φ ρ' c S).t = .ok (p a) S ∧ (p a = true → evW Φ ρ' e S = .ok (.d (f a)) S)) → runC Φ tg [c] e g (l.map v) ρ S = .ok ((l.filter p).map f) S
  | [], _ => rfl
  | a :: l, h => by
    obtain ⟨ρ', h1, h2, h3⟩ := h a List.mem_cons_self
    have ih := runC_filL hg (l := l) fun x hx => h x (List.mem_cons_of_mem _ hx)
    rw [List.map_cons, runC_cons, h1]
    simp only [of_some, bind_okE, c_one, h2]
    by_cases q : p a = true
    · rw [if_pos q]
      simp only [h3 q, d_ok, bind_okE]
      rw [if_pos hg, ih, List.filter_cons, if_pos q]
      rfl
    · rw [if_neg q]
      simp only [bind_okE]
      rw [if_pos hg, ih, List.filter_cons, if_neg q]
      rfl
end
/-! comprehensions with a changing store -/
inductive Fa2 {α β : Type} (R : α → β → Prop) : List α → List β → Prop
  | nil : Fa2 R [] []
  | cons {a : α} {b : β} {l : List α} {m : List β} : R a b → Fa2 R l m → Fa2 R (a :: l) (b :: m)
theorem runC_inv {Φ : Fn} {tg : List Nat} {e : Ex} {g : Sto → Prop} {ρ : Env} {α : Type} {v : α → D} {Inv : Sto → Prop} {Pr : α → D → Prop} (hg : ∀ S, Inv S → g S) : ∀ (l : List α) (S : Sto), Inv S →
    (∀ a ∈ l, ∃ ρ', setTg tg (v a) (ρ.dels tg) = some ρ' ∧ ∀ S, Inv S → ∃ r S', evW Φ ρ' e S = .ok (.d r) S' ∧ Inv S' ∧ Pr a r) → ∃ rs S', runC Φ tg [] e g (l.map v) ρ S = .ok rs S' ∧ Inv S' ∧ Fa2 Pr l rs
  | [], S, i, _ => ⟨[], S, rfl, i, .nil⟩
  | a :: l, S, i, h => by
    obtain ⟨ρ', h1, h2⟩ := h a List.mem_cons_self
    obtain ⟨r, S1, h3, i1, p⟩ := h2 S i
    obtain ⟨rs, S2, h4, i2, q⟩ := runC_inv hg l S1 i1 fun x hx => h x (List.mem_cons_of_mem _ hx)
    refine ⟨r :: rs, S2, ?_, i2, .cons p q⟩
    rw [List.map_cons, runC_cons, h1]
    simp only [of_some, bind_okE, c_nil, if_true, h3, d_ok]
    rw [if_pos (hg _ i1), h4]
    rfl
/-- walked things that are no cells -/
def nrW : W → Bool
  | .d (.ref _) => false
  | _ => true
theorem srcG_nr {ws : List W} {S S' : Sto} (h : ws.all nrW = true) : srcG ws S S' := fun x hx => by
  have := List.all_eq_true.mp h x hx
  cases x with
  | d x => cases x <;> first | trivial | cases this
  | own c => trivial
theorem rngD_map {a b : Int} : rngD a b = (List.range (b - a).toNat).map fun (k : Nat) => D.int (a + (k : Int)) := id rfl
theorem join_one {α : Type} (f : α → Nat) : ∀ l : List α, joinS [] (l.map fun x => [f x]) = l.map f
  | [] => rfl
  | [a] => rfl
  | a :: b :: l => by
    have ih := join_one f (b :: l)
    show [f a] ++ [] ++ joinS [] ((b :: l).map fun x => [f x]) = _
    rw [ih]
    rfl
/-! one counter in the store -/
def pk (S : Sto) (a : Nat) (v : Int) : Sto := S.set a (.lst [.int v])
theorem pk_get {S : Sto} {a : Nat} {v : Int} (h : a < S.length) : (pk S a v)[a]? = some (.lst [.int v]) := by unfold pk; rw [List.getElem?_set_self h]
theorem pk_len {S : Sto} {a : Nat} {v : Int} : (pk S a v).length = S.length := by unfold pk; simp
theorem pk_pk {S : Sto} {a : Nat} {v w : Int} : (pk S a v).set a (.lst [.int w]) = pk S a w := by unfold pk; rw [List.set_set]
theorem pk_new {S : Sto} {v : Int} : S ++ [.lst [.int v]] = pk (S ++ [.lst [.int 0]]) S.length v := by
  unfold pk
  rw [List.set_append_right _ _ (Nat.le_refl _), Nat.sub_self]
  rfl
theorem pk_vw {S : Sto} {a : Nat} {v : Int} (h : a < S.length) : vw (pk S a v) (.ref a) = .lst [.int v] := vw_ref (c := .lst [.int v]) (pk_get h)
theorem pk_mut {S : Sto} {a : Nat} {v : Int} {q : Int} (h : a < S.length) : mutS .set (.ref a) [.int 0, .int q] (pk S a v) = .ok .non (pk S a q) := by
  unfold mutS
  simp only [pk_get h]
  show R.ok D.non ((pk S a v).set a (.lst [.int q])) = _
  rw [pk_pk]
theorem cut_map {α β : Type} (f : α → β) (l : List α) (lo hi : Option Int) : cutL (l.map f) lo hi = (cutL l lo hi).map f := by
  unfold cutL
  rw [List.map_take, List.map_drop, List.length_map]
theorem ex_map {α β : Type} {f : α → β} {p : β → Prop} {rs : List β} (h : ∀ r ∈ rs, ∃ a, r = f a ∧ p r) : ∃ l : List α, rs = l.map f ∧ ∀ a ∈ l, p (f a) := by
  induction rs with
  | nil => exact ⟨[], rfl, fun a h => by simp at h⟩
  | cons r rs ih =>
    obtain ⟨a, e, q⟩ := h r List.mem_cons_self
    obtain ⟨l, e2, q2⟩ := ih fun x hx => h x (List.mem_cons_of_mem _ hx)
    refine ⟨a :: l, by rw [e, e2]; rfl, fun b hb => ?_⟩
    rcases List.mem_cons.mp hb with rfl | hb
    · rw [← e]; exact q
    · exact q2 b hb
theorem fa2_right {α β : Type} {P : α → β → Prop} {l : List α} {rs : List β} (h : Fa2 P l rs) : ∀ r ∈ rs, ∃ a ∈ l, P a r := by
  induction h with
  | nil => intro r h; simp at h
  | cons p _ ih =>
    intro r hr
    rcases List.mem_cons.mp hr with rfl | hr
    · exact ⟨_, List.mem_cons_self, p⟩
    · obtain ⟨a, ha, q⟩ := ih r hr
      exact ⟨a, List.mem_cons_of_mem _ ha, q⟩
theorem fa2_len {α β : Type} {P : α → β → Prop} {l : List α} {rs : List β} (h : Fa2 P l rs) : l.length = rs.length := by
  induction h with
  | nil => rfl
  | cons _ _ ih => simp [ih]
theorem s_str {S : Sto} {z : Nm} {l u : Option Int} : slcD (.str z) l u S = .ok (.str (cutL z l u)) S := id rfl
theorem s_tup {S : Sto} {z : List D} {l u : Option Int} : slcD (.tup z) l u S = .ok (.tup (cutL z l u)) S := id rfl
theorem pd0 : partD [] = some none := id rfl
theorem pd1 {i : Int} : partD [.int i] = some (some i) := id rfl
theorem j_it {S : Sto} {a : Nm} {x : D} : joinD a x S = R.of S (((itemsD x).bind toStrs).bind fun zs => if szOk ((zs.map (·.length)).sum + zs.length * a.length) = true then some (.str (joinS a zs)) else none) := id rfl
theorem it_lst {xs : List D} : itemsD (.lst xs) = some xs := id rfl
theorem it_tup {xs : List D} : itemsD (.tup xs) = some xs := id rfl
theorem m_up {S : Sto} {z : Nm} : mthD .upper (.str z) [] S = R.chk (z.all (fun c => decide (c < 128)) && decide (z.length ≤ 5592405)) (.ok (.str (upS z)) S) := id rfl
theorem rc_up {z : Nm} : rcv .upper (.str z) = true := id rfl
theorem b_mult {S : Sto} {a : List D} {j : Int} : binD .mul (.tup a) (.int j) S = R.chk (decide (2 ≤ j) && decide (j ≤ 1000) && decide (a.length ≤ 1000) && !a.isEmpty) (.ok (.tup (List.replicate j.toNat a).flatten) S) := id rfl
theorem b_muls {S : Sto} {a : Nm} {j : Int} : binD .mul (.str a) (.int j) S = R.chk (repOk a.length j) (.ok (.str (List.replicate j.toNat a).flatten) S) := id rfl
theorem pu0 : pairUp [] = some [] := id rfl
theorem mk0 {kvs : List (Ky × D)} : mergeK kvs [] = kvs := id rfl
section
variable {Φ : Fn} {ρ : Env} {o : Option W} {S : Sto}
theorem e_rev {a : Ex} : evW Φ ρ (.rev a) S = (evW Φ ρ a S).bind fun x S1 => match x.vw S1 with
    | .tup xs => .ok (.d (.tup xs.reverse)) S1
    | _ => .bad := by rw [evW] <;> rfl
theorem n_rev {a : Ex} : evN Φ ρ (.rev a) S = (evW Φ ρ a S).bind fun x S1 => match x.vw S1 with
    | .lst xs => .ok (.lst xs.reverse) S1
    | _ => .bad := by rw [evN] <;> rfl
theorem n_range {es : List Ex} : evN Φ ρ (.range es) S = (evEs Φ ρ es S).bind fun ds S1 => (R.of S1 (srcD .range (ds.map W.d) S1)).bind fun xs S1 => .ok (.lst xs) S1 := by rw [evN]
theorem n_sorted {a : Ex} : evN Φ ρ (.sorted a) S = (evW Φ ρ a S).bind fun x S1 => (R.of S1 (itemsS (x.vw S1))).bind fun xs S1 => R.chk (ordOk xs) (.ok (.lst (sortD xs)) S1) := by rw [evN]
theorem n_dict {a : Ex} : evN Φ ρ (.dict a) S = (evW Φ ρ a S).bind fun x S1 => match x.vw S1 with
    | .dic kvs => .ok (.dct kvs) S1
    | .lst xs => (R.of S1 (pairsOf xs)).bind fun ps S1 => .ok (.dct (mergeK [] ps)) S1
    | _ => .bad := by rw [evN] <;> rfl
theorem n_sortBy {f : Nat} {a : Ex} : evN Φ ρ (.sortBy f a) S = (evW Φ ρ a S).bind fun x S1 => (R.of S1 (listD (x.vw S1))).bind fun xs S1 => (R.of S1 (if okDs xs 60 = true then keysP (fun d => Φ f [d] []) xs else none)).bind fun ns S1 => .ok (.lst (sortK (ns.zip xs))) S1 := by rw [evN]
theorem n_sortSet {a : Ex} : evN Φ ρ (.sortSet a) S = (evW Φ ρ a S).bind fun x S1 => (R.of S1 (itemsD (x.vw S1))).bind fun xs S1 => R.chk ((xs.all isI || xs.all isS) && decide (xs.length < 4000)) (.ok (.lst (sortD (dedup xs))) S1) := by rw [evN]
theorem x_rais {c : String} {fs : List String} {es : List Ex} : evS Φ (.rais c fs es) (o :: ρ) S = R.lift (o :: ρ) (evEs Φ (o :: ρ) es S) fun ds S1 => .ok (.ex (.exc c (fs.zip ds)) (o :: ρ)) S1 := by rw [evS]
end
theorem tr_str {S : Sto} {z : Nm} : truD S (.str z) = .ok (!z.isEmpty) S := id rfl
theorem tr_non {S : Sto} : truD S .non = .ok false S := id rfl
theorem src_seqR {S : Sto} {w : W} : srcD .seq [w] S = seqD S w := id rfl
theorem seq_lst {S : Sto} {xs : List D} : seqD S (.d (.lst xs)) = some xs := id rfl
theorem seq_tup {S : Sto} {xs : List D} : seqD S (.d (.tup xs)) = some xs := id rfl
theorem seq_str {S : Sto} {z : Nm} : seqD S (.d (.str z)) = some (z.map fun c => .str [c]) := id rfl
theorem seq_own {S : Sto} {xs : List D} : seqD S (.own (.lst xs)) = some xs := id rfl
theorem l_all {S : Sto} {x : D} : blt1 .all x S = R.of S (((listD x).bind toBools).map fun bs => .bl (bs.all id)) := id rfl
theorem l_any {S : Sto} {x : D} : blt1 .any x S = R.of S (((listD x).bind toBools).map fun bs => .bl (bs.any id)) := id rfl
theorem l_tupl {S : Sto} {xs : List D} : blt1 .tup (.lst xs) S = .ok (.tup xs) S := id rfl
theorem l_tupt {S : Sto} {xs : List D} : blt1 .tup (.tup xs) S = .ok (.tup xs) S := id rfl
theorem l_tup {S : Sto} {x : D} : blt1 .tup x S = R.of S ((itemsD x).map .tup) := id rfl
theorem cutL_mem {α : Type} {l : List α} {lo hi : Option Int} {x : α} (h : x ∈ cutL l lo hi) : x ∈ l := List.mem_of_mem_drop (List.mem_of_mem_take h)
theorem cutL_len {α : Type} {l : List α} {lo hi : Option Int} : (cutL l lo hi).length ≤ l.length := by
  unfold cutL
  rw [List.length_take, List.length_drop]
  omega
theorem cutL_hi {α : Type} {l : List α} {i : Int} (h : 0 ≤ i) : cutL l none (some i) = l.take i.toNat := by
  unfold cutL slcI
  simp only [List.drop_zero, Nat.sub_zero]
  rw [if_neg (by omega)]
  by_cases z : i.toNat ≤ l.length
  · rw [Nat.min_eq_left z]
  · rw [Nat.min_eq_right (by omega), List.take_length, List.take_of_length_le (by omega)]
theorem cutL_lo {α : Type} {l : List α} {i : Int} (h : 0 ≤ i) : cutL l (some i) none = l.drop i.toNat := by
  unfold cutL slcI
  simp only
  rw [if_neg (by omega)]
  by_cases z : i.toNat ≤ l.length
  · rw [Nat.min_eq_left z, List.take_of_length_le (by rw [List.length_drop]; omega)]
  · rw [Nat.min_eq_right (by omega), List.drop_eq_nil_of_le (by omega), List.drop_eq_nil_of_le (by omega)]
    simp
theorem join_chars : ∀ cs : Nm, joinS [] (cs.map fun c => [c]) = cs := fun cs => by
  have := join_one (fun c => c) cs
  rw [this]
  simp
theorem sum_one : ∀ cs : Nm, ((cs.map fun c => [c]).map (·.length)).sum = cs.length
  | [] => rfl
  | c :: cs => by
    have ih := sum_one cs
    simp only [List.map_cons, List.sum_cons, List.length_cons, List.length_nil] at ih ⊢
    omega
/-- "".join of signs -/
theorem joinD_chars {S : Sto} {cs : Nm} (h : cs.length ≤ 1000000) : joinD [] (.lst (cs.map fun c => D.str [c])) S = .ok (.str cs) S := by
  have e : toStrs (cs.map fun c => D.str [c]) = some (cs.map fun c => [c]) := toStrs_map (fun c => [c]) cs
  rw [j_it, it_lst, Option.bind_some, e, Option.bind_some, sum_one, join_chars]
  rw [if_pos (szOk_in (by simp; omega))]
  rfl
theorem sg_l {S S' : Sto} {xs : List D} : srcG [.d (.lst xs)] S S' = True := eq_true (srcG_nr rfl)
theorem sg_t {S S' : Sto} {xs : List D} : srcG [.d (.tup xs)] S S' = True := eq_true (srcG_nr rfl)
theorem sg_s {S S' : Sto} {xs : Nm} : srcG [.d (.str xs)] S S' = True := eq_true (srcG_nr rfl)
theorem sg_d {S S' : Sto} {xs : List (Ky × D)} : srcG [.d (.dic xs)] S S' = True := eq_true (srcG_nr rfl)
theorem sg_i {S S' : Sto} {i : Int} : srcG [.d (.int i)] S S' = True := eq_true (srcG_nr rfl)
theorem sg_ii {S S' : Sto} {i j : Int} : srcG [.d (.int i), .d (.int j)] S S' = True := eq_true (srcG_nr rfl)
theorem sg_ll {S S' : Sto} {i j : List D} : srcG [.d (.lst i), .d (.lst j)] S S' = True := eq_true (srcG_nr rfl)
theorem sg_tt {S S' : Sto} {i j : List D} : srcG [.d (.tup i), .d (.tup j)] S S' = True := eq_true (srcG_nr rfl)
theorem sg_o {S S' : Sto} {c : Cell} : srcG [.own c] S S' = True := eq_true (srcG_nr rfl)
theorem sg_refl {S : Sto} {ws : List W} : srcG ws S S = True := eq_true srcG_refl
theorem st_one {i : Nat} {d : D} {ρ : Env} : setTg [i] d ρ = some (ρ.put i (.d d)) := id rfl
theorem st_two {i j : Nat} {d e : D} {ρ : Env} : setTg [i, j] (.tup [d, e]) ρ = some ((ρ.put i (.d d)).put j (.d e)) := id rfl
theorem st_three {i j k : Nat} {d e f : D} {ρ : Env} : setTg [i, j, k] (.tup [d, e, f]) ρ = some (((ρ.put i (.d d)).put j (.d e)).put k (.d f)) := id rfl
theorem mu_app {ds es : List D} : mutC .append (.lst ds) [.lst es] = if szOk (ds.length + 1) = true then some (.lst (ds ++ [.lst es]), .non) else none := id rfl
theorem mu_appd {ds : List D} {x : D} (h : szOk (ds.length + 1) = true) : mutC .append (.lst ds) [x] = some (.lst (ds ++ [x]), .non) := by show (if szOk (ds.length + 1) = true then _ else _) = _; rw [if_pos h]
theorem mu_ext {ds es : List D} (h : szOk (ds.length + es.length) = true) : mutC .extend (.lst ds) [.lst es] = some (.lst (ds ++ es), .non) := by show (if szOk (ds.length + es.length) = true then _ else _) = _; rw [if_pos h]
/-- a loop by what holds at each turn -/
theorem runF_inv {Φ : Fn} {tg : List Nat} {body : List St} {g : Sto → Prop} {α : Type} {v : α → D} {Inv : List α → Env → Sto → Prop} (hg : ∀ l ρ S, Inv l ρ S → g S) (h : ∀ a l ρ S, Inv (a :: l) ρ S → ∃ ρ1 ρ2 S2, setTg tg (v a) ρ = some ρ1 ∧ evSs Φ body ρ1 S = .ok (.nx ρ2) S2 ∧ Inv l ρ2 S2) :
    ∀ l ρ S, Inv l ρ S → ∃ ρ' S', runF Φ tg body g (l.map v) ρ S = .ok (.nx ρ') S' ∧ Inv [] ρ' S'
  | [], ρ, S, i => ⟨ρ, S, rfl, i⟩
  | a :: l, ρ, S, i => by
    obtain ⟨ρ1, ρ2, S2, h1, h2, h3⟩ := h a l ρ S i
    obtain ⟨ρ', S', h4, h5⟩ := runF_inv hg h l ρ2 S2 h3
    refine ⟨ρ', S', ?_, h5⟩
    rw [List.map_cons, runF_cons, h1]
    simp only [h2, loop_nx]
    rw [if_pos (hg _ _ _ h3), h4]
/-- a loop that appends one thing a turn -/
theorem runF_map {Φ : Fn} {tg : List Nat} {body : List St} {g : Sto → Prop} {S : Sto} {α : Type} {v f : α → D} {E : Option W → List D → Env} {B : Nat} (hg : g S) (hs : ∀ x o acc, setTg tg x (E o acc) = some (E (some (.d x)) acc)) :
    ∀ (l : List α) (o : Option W) (acc : List D), (∀ a ∈ l, ∀ acc, acc.length < B → evSs Φ body (E (some (.d (v a))) acc) S = .ok (.nx (E (some (.d (v a))) (acc ++ [f a]))) S) → acc.length + l.length ≤ B → ∃ o', runF Φ tg body g (l.map v) (E o acc) S = .ok (.nx (E o' (acc ++ l.map f))) S
  | [], o, acc, _, _ => ⟨o, by rw [List.map_nil, List.map_nil, List.append_nil]; rfl⟩
  | a :: l, o, acc, hb, hl => by
    rw [List.length_cons] at hl
    obtain ⟨o', e⟩ := runF_map hg hs l (some (.d (v a))) (acc ++ [f a]) (fun x hx => hb x (List.mem_cons_of_mem _ hx)) (by rw [List.length_append, List.length_cons, List.length_nil]; omega)
    refine ⟨o', ?_⟩
    rw [List.map_cons, runF_cons, hs]
    simp only [hb a List.mem_cons_self acc (by omega), loop_nx]
    rw [if_pos hg, e, List.map_cons, List.append_assoc]
    rfl
theorem runC_true {Φ : Fn} {tg : List Nat} {e : Ex} {g : Sto → Prop} {ρ : Env} {S : Sto} {b : Bool} (hg : g S) {xs : List D} (h : ∀ x ∈ xs, ∃ ρ', setTg tg x (ρ.dels tg) = some ρ' ∧ evW Φ ρ' e S = .ok (.d (.bl b)) S) : runC Φ tg [] e g xs ρ S = .ok (xs.map fun _ => D.bl b) S := by
  have := runC_mapL (Φ := Φ) (tg := tg) (e := e) (g := g) (ρ := ρ) (S := S) (v := id) (f := fun _ => D.bl b) hg (l := xs) h
  rw [List.map_id] at this
  exact this
theorem all_tt {S : Sto} {α : Type} {xs : List α} : blt1 .all (.lst (xs.map fun _ => D.bl true)) S = .ok (.bl true) S := by
  rw [l_all, listD_lst, Option.bind_some, toBools_map]
  have : (xs.map fun _ => true).all id = true := List.all_eq_true.mpr fun x hx => by obtain ⟨_, _, rfl⟩ := List.mem_map.mp hx; rfl
  rw [Option.map_some, this]
  rfl
theorem any_ff {S : Sto} {α : Type} {xs : List α} : blt1 .any (.lst (xs.map fun _ => D.bl false)) S = .ok (.bl false) S := by
  rw [l_any, listD_lst, Option.bind_some, toBools_map]
  have : (xs.map fun _ => false).any id = false := by
    rw [List.any_eq_false]
    intro x hx
    obtain ⟨_, _, rfl⟩ := List.mem_map.mp hx
    simp
  rw [Option.map_some, this]
  rfl
/-- a loop that only looks -/
theorem runF_look {Φ : Fn} {tg : List Nat} {body : List St} {g : Sto → Prop} {S : Sto} {E : Option W → Env} (hg : g S) (hs : ∀ x o, setTg tg x (E o) = some (E (some (.d x)))) :
    ∀ (l : List D) (o : Option W), (∀ a ∈ l, evSs Φ body (E (some (.d a))) S = .ok (.nx (E (some (.d a)))) S) → ∃ o', runF Φ tg body g l (E o) S = .ok (.nx (E o')) S
  | [], o, _ => ⟨o, rfl⟩
  | a :: l, o, hb => by
    obtain ⟨o', e⟩ := runF_look hg hs l (some (.d a)) fun x hx => hb x (List.mem_cons_of_mem _ hx)
    refine ⟨o', ?_⟩
    rw [runF_cons, hs]
    simp only [hb a List.mem_cons_self, loop_nx]
    rw [if_pos hg, e]
theorem at_mem {α : Type} {xs : List α} {i : Int} (h0 : 0 ≤ i) (h1 : i < xs.length) : ∃ x, x ∈ xs ∧ atI xs i = some x := by
  have h : i.toNat < xs.length := by omega
  exact ⟨xs[i.toNat], List.getElem_mem h, by rw [atI_in h0, List.getElem?_eq_getElem h]⟩
/-- the law's outermost range -/
theorem outer_K {len : Nat} {m : Int} (hm : 1 ≤ m) (hm2 : m ≤ 100) : ∃ K : Int, (if 1 < (if m < (len : Int) then m else (len : Int)) then (if m < (len : Int) then m else (len : Int)) else 1) = K ∧ 1 ≤ K ∧ K ≤ 100 := ⟨_, rfl, by split <;> omega, by split <;> (try split) <;> omega⟩
theorem al_0 {S : Sto} : blt1 .all (.lst []) S = .ok (.bl true) S := id rfl
theorem al_t {S : Sto} {xs : List D} : blt1 .all (.lst (.bl true :: xs)) S = blt1 .all (.lst xs) S := by
  rw [l_all, l_all, listD_lst, listD_lst, Option.bind_some, Option.bind_some]
  show R.of S (Option.map _ ((toBools xs).map (true :: ·))) = _
  cases toBools xs <;> rfl
theorem an_0 {S : Sto} : blt1 .any (.lst []) S = .ok (.bl false) S := id rfl
theorem an_f {S : Sto} {xs : List D} : blt1 .any (.lst (.bl false :: xs)) S = blt1 .any (.lst xs) S := by
  rw [l_any, l_any, listD_lst, listD_lst, Option.bind_some, Option.bind_some]
  show R.of S (Option.map _ ((toBools xs).map (false :: ·))) = _
  cases toBools xs <;> rfl
/-! written words -/
theorem lb_cc {a b : Nat} {as bs : Nm} : ((a :: as : Nm) == (b :: bs)) = (a == b && as == bs) := by
  rw [Bool.eq_iff_iff]
  simp
theorem lb_nn : (([] : Nm) == []) = true := id rfl
theorem lb_nc {b : Nat} {bs : Nm} : (([] : Nm) == b :: bs) = false := id rfl
theorem lb_cn {b : Nat} {bs : Nm} : ((b :: bs : Nm) == []) = false := id rfl
/-! a turn of the law's loop: what is fixed, and how many names there are beside -/
def EndsNx (fix : List (Option W)) (m : Nat) (r : R Fl) : Prop := ∃ os S', os.length = m ∧ r = .ok (.nx (fix ++ os)) S'
theorem law_outer {Φ : Fn} {body : List St} {g : Sto → Prop} {a : Option W} {m : Nat} (hg : ∀ S, g S) (h : ∀ (k : Int), 0 ≤ k → k ≤ 1000 → ∀ (os : List (Option W)) (S : Sto), os.length = m → EndsNx [a, some (.d (.int k))] m (evSs Φ body (a :: some (.d (.int k)) :: os) S)) :
    ∀ (ks : List Int) (o : Option W) (os : List (Option W)) (S : Sto), os.length = m → (∀ k ∈ ks, 0 ≤ k ∧ k ≤ 1000) → ∃ ρ' S', runF Φ [1] body g (ks.map D.int) (a :: o :: os) S = .ok (.nx (a :: ρ')) S'
  | [], o, os, S, _, _ => ⟨o :: os, S, rfl⟩
  | k :: ks, o, os, S, hl, hk => by
    have hk0 := hk k List.mem_cons_self
    obtain ⟨os1, S1, hl1, c⟩ := h k hk0.1 hk0.2 os S hl
    obtain ⟨ρ', S', ih⟩ := law_outer hg h ks (some (.d (.int k))) os1 S1 hl1 fun w hw => hk w (List.mem_cons_of_mem _ hw)
    refine ⟨ρ', S', ?_⟩
    rw [List.map_cons, runF_cons, st_one]
    show R.loop (evSs Φ body (a :: some (.d (.int k)) :: os) S) _ = _
    rw [c, loop_nx, if_pos (hg _)]
    exact ih
theorem rng_ints {K : Int} : ((List.range (K - 0).toNat).map fun (i : Nat) => 0 + (i : Int)).map D.int = rngD 0 K := by unfold rngD; rw [List.map_map]; rfl
theorem rng_in {K : Int} (h : K ≤ 1000) : ∀ k ∈ (List.range (K - 0).toNat).map fun (i : Nat) => 0 + (i : Int), 0 ≤ k ∧ k ≤ 1000 := fun k hk => by
  obtain ⟨i, hi, rfl⟩ := List.mem_map.mp hk
  have := List.mem_range.mp hi
  omega
theorem src_zts {S : Sto} {xs : List D} {z : Nm} : srcD .zip [.d (.tup xs), .d (.str z)] S = some (List.zipWith (fun a b => D.tup [a, b]) xs (z.map fun c => .str [c])) := id rfl
theorem src_ztt {S : Sto} {xs ys : List D} : srcD .zip [.d (.tup xs), .d (.tup ys)] S = some (List.zipWith (fun a b => D.tup [a, b]) xs ys) := id rfl
theorem src_zll {S : Sto} {xs ys : List D} : srcD .zip [.d (.lst xs), .d (.lst ys)] S = some (List.zipWith (fun a b => D.tup [a, b]) xs ys) := id rfl
theorem m_getk {S : Sto} {kvs : List (Nm × D)} {z : Nm} : mthD .get (.kdic kvs) [.str z] S = .ok ((lookN kvs z).getD .non) S := id rfl
theorem rc_getk {kvs : List (Nm × D)} : rcv .get (.kdic kvs) = true := id rfl
theorem is_lst {xs : List D} : itemsS (.lst xs) = some xs := id rfl
end Ev
set_option maxHeartbeats 4000000
/-! Ev, part 67: things of classes, to compute with. -/
namespace Ev
section
variable {Φ : Fn} {ρ : Env} {S : Sto} {o : Option W}
theorem e_att {a : Ex} {f : String} {cs : List String} : evW Φ ρ (.att a f cs) S = (evW Φ ρ a S).bind fun x S1 => (attD cs f (x.vw S1) S1).w := by rw [evW]
theorem e_meth {c m : String} {f : Nat} {a : Ex} {es : List Ex} : evW Φ ρ (.meth c m f a es) S = (evW Φ ρ a S).d.bind fun x S1 => R.chk (isO c m (vw S1 x)) ((evEs Φ ρ es S1).bind fun ds S2 => (Φ f (x :: ds) S2).d.w) := by rw [evW]
theorem n_make {c : String} {f : Nat} {es : List Ex} : evN Φ ρ (.make c f es) S = (evEs Φ ρ es S).bind fun ds S1 => mkR c fun x => Φ f (.int x :: ds) S1 := by rw [evN]
theorem x_retK {a x : Ex} {l : Nat} : evS Φ (.retK a x l) (o :: ρ) S = R.lift (o :: ρ) (evW Φ (o :: ρ) a S).d fun d S1 => R.lift (o :: ρ) (evW Φ (o :: ρ) x S1).d fun y S2 => keyR d y S2 := by rw [evS] <;> rfl
theorem t_oatt {d : D} {j : Nat} {f : String} {cs : List String} : setT Φ d (.oatt j f cs) (o :: ρ) S = match Env.get (o :: ρ) j with
    | some (.own (.obj g c fs)) => R.chk (decide (fs.length < 900) && cs.contains c) (.ok (.nx (Env.put (o :: ρ) j (.own (.obj g c (putF fs f d))))) S)
    | _ => .bad := id rfl
theorem a_obj {cs : List String} {f c : String} {fs : List (String × D)} : attD cs f (.obj c fs) S = R.chk (cs.contains c) (R.of S (lookF fs f)) := id rfl
theorem is_obj {c m c' : String} {fs : List (String × D)} : isO c m (.obj c' fs) = (c' == c && (lookF fs m).isNone) := id rfl
theorem vw_obj {c : String} {fs : List (String × D)} : vw S (.obj c fs) = .obj c fs := id rfl
theorem cvw_obj {g : Option Nat} {c : String} {fs : List (String × D)} : (Cell.obj g c fs).vw = .obj c fs := id rfl
theorem lf_nil {q : String} : lookF [] q = none := id rfl
theorem lf_cons {k q : String} {v : D} {r : List (String × D)} : lookF ((k, v) :: r) q = if k = q then some v else lookF r q := id rfl
theorem pf_nil {q : String} {d : D} : putF [] q d = [(q, d)] := id rfl
theorem pf_cons {k q : String} {v d : D} {r : List (String × D)} : putF ((k, v) :: r) q d = if k = q then (k, d) :: replF r q d else (k, v) :: putF r q d := id rfl
theorem rf_nil {q : String} {d : D} : replF [] q d = [] := id rfl
theorem rf_cons {k q : String} {v d : D} {r : List (String × D)} : replF ((k, v) :: r) q d = (if k = q then (k, d) else (k, v)) :: replF r q d := id rfl
theorem ct_nil {c : String} : ([] : List String).contains c = false := by simp
theorem ct_cons {a c : String} {l : List String} : (a :: l).contains c = (c == a || l.contains c) := List.contains_cons
theorem in_some {α : Type} {a : α} : (some a).isNone = false := id rfl
theorem in_none {α : Type} : (none : Option α).isNone = true := id rfl
theorem ei_nx : endI (.ok (.nx ρ) S) = R.of S (ρ.get 0) := id rfl
theorem ei_ex {e : D} : endI (.ok (.ex e ρ) S) = .exc e S := id rfl
theorem ei_bad : endI .bad = .bad := id rfl
theorem rcm_a {xs : List D} : rcvM .append (.lst xs) = true := id rfl
theorem rcm_e {xs : List D} : rcvM .extend (.lst xs) = true := id rfl
theorem m_idxl {ys : List D} {x : D} : mthD .index (.lst ys) [x] S = R.chk (pl x && pls ys) (R.of S ((indexD ys x).map fun (n : Nat) => D.int (n : Int))) := id rfl
theorem m_idxt {ys : List D} {x : D} : mthD .index (.tup ys) [x] S = R.chk (pl x && pls ys) (R.of S ((indexD ys x).map fun (n : Nat) => D.int (n : Int))) := id rfl
theorem rc_idxl {ys : List D} : rcv .index (.lst ys) = true := id rfl
theorem rc_idxt {ys : List D} : rcv .index (.tup ys) = true := id rfl
end
theorem mk_of {c : String} {g : Nat → R W} {fs : List (String × D)} {S : Sto} (h : ∀ x, g x = .ok (.own (.obj (some x) c fs)) S) : mkR c g = .ok (.obj none c fs) S := by
  have h1 : ∃ p : List (String × D) × Sto, ∀ x, g x = .ok (.own (.obj (some x) c p.1)) p.2 := ⟨(fs, S), h⟩
  unfold mkR
  rw [dif_pos h1]
  have e := Classical.choose_spec h1 0
  rw [h 0] at e
  injection e with e1 e2
  injection e1 with e1
  injection e1 with _ _ e1
  rw [← e1, ← e2]
section
variable {d : D}
theorem i2_bool : isiOk2 ["bool"] d = isiOk d := id rfl
theorem i2_int : isiOk2 ["int"] d = isiOk d := id rfl
theorem i2_str : isiOk2 ["str"] d = isiOk d := id rfl
theorem i2_tuple : isiOk2 ["tuple"] d = isiOk d := id rfl
theorem i2_list : isiOk2 ["list"] d = isiOk d := id rfl
theorem i2_dict : isiOk2 ["dict"] d = isiOk d := id rfl
end
/-- behind a try's body -/
noncomputable def R.tr (r : R Fl) (c : String) (f : D → Env → Sto → R Fl) : R Fl := match r with
  | .ok (.ex e ρ1) S1 => if isiD e c = true then f e ρ1 S1 else .ok (.ex e ρ1) S1
  | r => r
section
variable {Φ : Fn} {o : Option W} {ρ : Env} {S : Sto} {c : String}
theorem x_try {a b : List St} {i : Nat} : evS Φ (.tryS a c [i] b) (o :: ρ) S = (evSs Φ a (o :: ρ) S).tr c fun e ρ1 S1 => R.chk (isE0 e) (evSs Φ b (ρ1.put i (.d e)) S1) := by rw [evS] <;> rfl
theorem x_rais0 : evS Φ (.rais c [] []) (o :: ρ) S = .ok (.ex (.exc c []) (o :: ρ)) S := by rw [evS, evEs] <;> rfl
theorem tr_nx {f : D → Env → Sto → R Fl} : R.tr (.ok (.nx ρ) S) c f = .ok (.nx ρ) S := id rfl
theorem tr_rt {w : W} {f : D → Env → Sto → R Fl} : R.tr (.ok (.rt w) S) c f = .ok (.rt w) S := id rfl
theorem tr_ex {e : D} {f : D → Env → Sto → R Fl} : R.tr (.ok (.ex e ρ) S) c f = if isiD e c = true then f e ρ S else .ok (.ex e ρ) S := id rfl
theorem isE0_exc {x : String} : isE0 (.exc x []) = true := id rfl
end
end Ev
set_option maxHeartbeats 4000000
/-! Ev, part 32: all rows in one (printed by genrows.py). -/
namespace Ev
theorem r_map_cons {α β : Type} {f : α → β} {a : α} {l : List α} : List.map f (a :: l) = f a :: List.map f l := by simp
theorem r_map_nil {α β : Type} {f : α → β} : List.map f [] = [] := by simp
theorem r_len_cons {α : Type} {a : α} {l : List α} : (a :: l).length = l.length + 1 := by simp
theorem r_len_nil {α : Type} : ([] : List α).length = 0 := by simp
theorem r_ie_nil {α : Type} : ([] : List α).isEmpty = true := by simp
theorem r_ie_cons {α : Type} {a : α} {l : List α} : (a :: l).isEmpty = false := by simp
theorem r_any_cons {α : Type} {a : α} {l : List α} {p : α → Bool} : (a :: l).any p = (p a || l.any p) := by simp
theorem r_omap_some {α β : Type} {f : α → β} {a : α} : Option.map f (some a) = some (f a) := by simp
theorem r_obind_some {α β : Type} {f : α → Option β} {a : α} : (some a).bind f = f a := by simp
theorem r_any_nil {α : Type} {p : α → Bool} : ([] : List α).any p = false := by simp
theorem EVR : type_of% (And.intro @r_map_cons (And.intro @r_map_nil (And.intro @r_len_cons (And.intro @r_len_nil (And.intro @r_ie_nil (And.intro @r_ie_cons (And.intro @r_any_cons (And.intro @r_omap_some (And.intro @r_obind_some (And.intro @r_any_nil (And.intro @bind_okE (And.intro @bind_excE (And.intro @bind_badE (And.intro @lift_okE (And.intro @lift_excE (And.intro @lift_badE (And.intro @nx_nx (And.intro @nx_rt (And.intro @nx_bk (And.intro @nx_ct (And.intro @nx_ex (And.intro @nx_bad (And.intro @loop_nx (And.intro @loop_ct (And.intro @loop_bk (And.intro @loop_rt (And.intro @loop_ex (And.intro @loop_bad (And.intro @d_ok (And.intro @d_own (And.intro @d_exc (And.intro @d_bad (And.intro @w_ok (And.intro @w_exc (And.intro @w_bad (And.intro @t_ok (And.intro @t_exc (And.intro @t_bad (And.intro @chk_true (And.intro @chk_false (And.intro @of_some (And.intro @of_none (And.intro @noexc_ok' (And.intro @noexc_bad (And.intro @end_nx (And.intro @end_rt (And.intro @end_ex (And.intro @end_bad (And.intro @get_zero (And.intro @get_succ (And.intro @put_zero (And.intro @put_succ (And.intro @del_zero (And.intro @del_succ (And.intro @dels_nil (And.intro @dels_cons (And.intro @vw_int (And.intro @vw_bl (And.intro @vw_str (And.intro @vw_non (And.intro @vw_tup (And.intro @vw_lst (And.intro @vw_scr (And.intro @vw_dic (And.intro @Wvw_d (And.intro @Wvw_own (And.intro @cvw_lst (And.intro @cvw_dct (And.intro @call_ini (And.intro @chk_of (And.intro @srcK_some (And.intro @x_nil (And.intro @x_cons (And.intro @x_asg (And.intro @x_unp (And.intro @x_par (And.intro @x_own (And.intro @x_omut (And.intro @x_fz (And.intro @x_kill (And.intro @x_exp (And.intro @x_ret (And.intro @x_retN (And.intro @x_retO (And.intro @x_retF (And.intro @x_retW (And.intro @x_ifS (And.intro @x_whl (And.intro @x_forS (And.intro @x_pass (And.intro @x_nev (And.intro @x_brk (And.intro @x_cnt (And.intro @t_nm (And.intro @t_sub (And.intro @t_osub (And.intro @t_nil (And.intro @t_cons (And.intro @sa_nil (And.intro @sa_cons (And.intro @sg_one (And.intro @sg_many (And.intro @e_var (And.intro @e_cst (And.intro @e_glo (And.intro @e_bin (And.intro @e_neg (And.intro @e_cmp (And.intro @e_chn (And.intro @e_bop (And.intro @e_not (And.intro @e_ife (And.intro @e_tup (And.intro @e_idx (And.intro @e_slc (And.intro @e_call (And.intro @e_blt (And.intro @e_mth (And.intro @e_join (And.intro @e_mut (And.intro @e_isi (And.intro @e_frz (And.intro @e_cel (And.intro @es0 (And.intro @es1 (And.intro @ws0 (And.intro @ws1 (And.intro @eb1 (And.intro @eb2 (And.intro @n_lst (And.intro @n_dic (And.intro @n_comp (And.intro @n_cat (And.intro @n_rep (And.intro @n_slc (And.intro @n_list (And.intro @n_call (And.intro @wC_own (And.intro @c_nil (And.intro @c_one (And.intro @b_add (And.intro @b_sub (And.intro @b_mul (And.intro @b_fdv (And.intro @b_mod (And.intro @b_pow (And.intro @b_adds (And.intro @b_addt (And.intro @o_eqi (And.intro @o_nei (And.intro @o_lti (And.intro @o_lei (And.intro @o_gti (And.intro @o_gei (And.intro @o_eqs (And.intro @o_nes (And.intro @tr_bl (And.intro @tr_int (And.intro @tr_lst (And.intro @tr_tup (And.intro @i_lst (And.intro @i_tup (And.intro @i_scr (And.intro @i_str (And.intro @i_dics (And.intro @l1 (And.intro @l2 (And.intro @l_lenl (And.intro @l_lent (And.intro @l_lenc (And.intro @l_lens (And.intro @l_inti (And.intro @l_intb (And.intro @l_min (And.intro @l_max (And.intro @l_dm (And.intro @l_sum (And.intro @src_rng2 (And.intro @src_rng1 (And.intro @listD_lst (And.intro @x_T (And.intro @q_nn (And.intro @q_nb (And.intro @q_ni (And.intro @q_ns (And.intro @q_nt (And.intro @q_nl (And.intro @q_nd (And.intro @q_bn (And.intro @q_bb (And.intro @q_bi (And.intro @q_bs (And.intro @q_bt (And.intro @q_bl (And.intro @q_bd (And.intro @q_in (And.intro @q_ib (And.intro @q_ii (And.intro @q_is (And.intro @q_it (And.intro @q_il (And.intro @q_id (And.intro @q_sn (And.intro @q_sb (And.intro @q_si (And.intro @q_ss (And.intro @q_st (And.intro @q_sl (And.intro @q_sd (And.intro @q_tn (And.intro @q_tb (And.intro @q_ti (And.intro @q_ts (And.intro @q_tt (And.intro @q_tl (And.intro @q_td (And.intro @q_ln (And.intro @q_lb (And.intro @q_li (And.intro @q_ls (And.intro @q_lt (And.intro @q_ll (And.intro @q_ld (And.intro @q_dn (And.intro @q_db (And.intro @q_di (And.intro @q_ds (And.intro @q_dt (And.intro @q_dl (And.intro @q_dd (And.intro @qs_nn (And.intro @qs_nc (And.intro @qs_cn (And.intro @qs_cc (And.intro @vw_kdic (And.intro @o_ins (And.intro @o_nis (And.intro @o_int (And.intro @o_nit (And.intro @o_inl (And.intro @o_nil (And.intro @o_eq_nn (And.intro @o_ne_nn (And.intro @o_eq_nb (And.intro @o_ne_nb (And.intro @o_eq_ni (And.intro @o_ne_ni (And.intro @o_eq_ns (And.intro @o_ne_ns (And.intro @o_eq_bn (And.intro @o_ne_bn (And.intro @o_eq_bb (And.intro @o_ne_bb (And.intro @o_eq_bi (And.intro @o_ne_bi (And.intro @o_eq_bs (And.intro @o_ne_bs (And.intro @o_eq_in (And.intro @o_ne_in (And.intro @o_eq_ib (And.intro @o_ne_ib (And.intro @o_eq_is (And.intro @o_ne_is (And.intro @o_eq_sn (And.intro @o_ne_sn (And.intro @o_eq_sb (And.intro @o_ne_sb (And.intro @o_eq_si (And.intro @o_ne_si (And.intro @o_eqT0 (And.intro @o_neT0 (And.intro @pl_n (And.intro @pl_b (And.intro @pl_i (And.intro @pl_s (And.intro @pl_t (And.intro @pl_l (And.intro @pls_nil (And.intro @pls_cons (And.intro @ok_n (And.intro @ok_b (And.intro @ok_i (And.intro @ok_s (And.intro @ok_t (And.intro @ok_l (And.intro @oks_nil (And.intro @oks_cons (And.intro @o_isN (And.intro @o_isnN (And.intro @eqOk_t0 (And.intro @s_str (And.intro @s_tup (And.intro @pd0 (And.intro @pd1 (And.intro @it_lst (And.intro @it_tup (And.intro @m_up (And.intro @rc_up (And.intro @b_mult (And.intro @b_muls (And.intro @pu0 (And.intro @mk0 (And.intro @e_rev (And.intro @n_rev (And.intro @n_range (And.intro @n_sorted (And.intro @n_dict (And.intro @n_sortBy (And.intro @n_sortSet (And.intro @tr_str (And.intro @tr_non (And.intro @src_seqR (And.intro @seq_lst (And.intro @seq_tup (And.intro @seq_str (And.intro @seq_own (And.intro @l_tupl (And.intro @l_tupt (And.intro @st_one (And.intro @st_two (And.intro @st_three (And.intro @mu_appd (And.intro @mu_ext (And.intro @all_tt (And.intro @any_ff (And.intro @al_0 (And.intro @al_t (And.intro @an_0 (And.intro @an_f (And.intro @lb_cc (And.intro @lb_nn (And.intro @lb_nc (And.intro @lb_cn (And.intro @src_zts (And.intro @src_ztt (And.intro @src_zll (And.intro @m_getk (And.intro @rc_getk (And.intro @is_lst (And.intro @e_att (And.intro @e_meth (And.intro @n_make (And.intro @x_retK (And.intro @t_oatt (And.intro @a_obj (And.intro @is_obj (And.intro @vw_obj (And.intro @cvw_obj (And.intro @lf_nil (And.intro @lf_cons (And.intro @pf_nil (And.intro @pf_cons (And.intro @rf_nil (And.intro @rf_cons (And.intro @ct_nil (And.intro @ct_cons (And.intro @in_some (And.intro @in_none (And.intro @ei_nx (And.intro @ei_ex (And.intro @ei_bad (And.intro @rcm_a (And.intro @rcm_e (And.intro @m_idxl (And.intro @m_idxt (And.intro @rc_idxl (And.intro @rc_idxt (And.intro @i2_bool (And.intro @i2_int (And.intro @i2_str (And.intro @i2_tuple (And.intro @i2_list (And.intro @i2_dict (And.intro @x_try (And.intro @x_rais0 (And.intro @tr_nx (And.intro @tr_rt (And.intro @tr_ex (@isE0_exc))))))))))))))))))))))))))))))))))))))))))))))))))))))))))))))))))))))))))))))))))))))))))))))))))))))))))))))))))))))))))))))))))))))))))))))))))))))))))))))))))))))))))))))))))))))))))))))))))))))))))))))))))))))))))))))))))))))))))))))))))))))))))))))))))))))))))))))))))))))))))))))))))))))))))))))))))))))))))))))))))))))))))))))))))))))))))))))))))))))))))))))))))))))))))) := And.intro @r_map_cons (And.intro @r_map_nil (And.intro @r_len_cons (And.intro @r_len_nil (And.intro @r_ie_nil (And.intro @r_ie_cons (And.intro @r_any_cons (And.intro @r_omap_some (And.intro @r_obind_some (And.intro @r_any_nil (And.intro @bind_okE (And.intro @bind_excE (And.intro @bind_badE (And.intro @lift_okE (And.intro @lift_excE (And.intro @lift_badE (And.intro @nx_nx (And.intro @nx_rt (And.intro @nx_bk (And.intro @nx_ct (And.intro @nx_ex (And.intro @nx_bad (And.intro @loop_nx (And.intro @loop_ct (And.intro @loop_bk (And.intro @loop_rt (And.intro @loop_ex (And.intro @loop_bad (And.intro @d_ok (And.intro @d_own (And.intro @d_exc (And.intro @d_bad (And.intro @w_ok (And.intro @w_exc (And.intro @w_bad (And.intro @t_ok (And.intro @t_exc (And.intro @t_bad (And.intro @chk_true (And.intro @chk_false (And.intro @of_some (And.intro @of_none (And.intro @noexc_ok' (And.intro @noexc_bad (And.intro @end_nx (And.intro @end_rt (And.intro @end_ex (And.intro @end_bad (And.intro @get_zero (And.intro @get_succ (And.intro @put_zero (And.intro @put_succ (And.intro @del_zero (And.intro @del_succ (And.intro @dels_nil (And.intro @dels_cons (And.intro @vw_int (And.intro @vw_bl (And.intro @vw_str (And.intro @vw_non (And.intro @vw_tup (And.intro @vw_lst (And.intro @vw_scr (And.intro @vw_dic (And.intro @Wvw_d (And.intro @Wvw_own (And.intro @cvw_lst (And.intro @cvw_dct (And.intro @call_ini (And.intro @chk_of (And.intro @srcK_some (And.intro @x_nil (And.intro @x_cons (And.intro @x_asg (And.intro @x_unp (And.intro @x_par (And.intro @x_own (And.intro @x_omut (And.intro @x_fz (And.intro @x_kill (And.intro @x_exp (And.intro @x_ret (And.intro @x_retN (And.intro @x_retO (And.intro @x_retF (And.intro @x_retW (And.intro @x_ifS (And.intro @x_whl (And.intro @x_forS (And.intro @x_pass (And.intro @x_nev (And.intro @x_brk (And.intro @x_cnt (And.intro @t_nm (And.intro @t_sub (And.intro @t_osub (And.intro @t_nil (And.intro @t_cons (And.intro @sa_nil (And.intro @sa_cons (And.intro @sg_one (And.intro @sg_many (And.intro @e_var (And.intro @e_cst (And.intro @e_glo (And.intro @e_bin (And.intro @e_neg (And.intro @e_cmp (And.intro @e_chn (And.intro @e_bop (And.intro @e_not (And.intro @e_ife (And.intro @e_tup (And.intro @e_idx (And.intro @e_slc (And.intro @e_call (And.intro @e_blt (And.intro @e_mth (And.intro @e_join (And.intro @e_mut (And.intro @e_isi (And.intro @e_frz (And.intro @e_cel (And.intro @es0 (And.intro @es1 (And.intro @ws0 (And.intro @ws1 (And.intro @eb1 (And.intro @eb2 (And.intro @n_lst (And.intro @n_dic (And.intro @n_comp (And.intro @n_cat (And.intro @n_rep (And.intro @n_slc (And.intro @n_list (And.intro @n_call (And.intro @wC_own (And.intro @c_nil (And.intro @c_one (And.intro @b_add (And.intro @b_sub (And.intro @b_mul (And.intro @b_fdv (And.intro @b_mod (And.intro @b_pow (And.intro @b_adds (And.intro @b_addt (And.intro @o_eqi (And.intro @o_nei (And.intro @o_lti (And.intro @o_lei (And.intro @o_gti (And.intro @o_gei (And.intro @o_eqs (And.intro @o_nes (And.intro @tr_bl (And.intro @tr_int (And.intro @tr_lst (And.intro @tr_tup (And.intro @i_lst (And.intro @i_tup (And.intro @i_scr (And.intro @i_str (And.intro @i_dics (And.intro @l1 (And.intro @l2 (And.intro @l_lenl (And.intro @l_lent (And.intro @l_lenc (And.intro @l_lens (And.intro @l_inti (And.intro @l_intb (And.intro @l_min (And.intro @l_max (And.intro @l_dm (And.intro @l_sum (And.intro @src_rng2 (And.intro @src_rng1 (And.intro @listD_lst (And.intro @x_T (And.intro @q_nn (And.intro @q_nb (And.intro @q_ni (And.intro @q_ns (And.intro @q_nt (And.intro @q_nl (And.intro @q_nd (And.intro @q_bn (And.intro @q_bb (And.intro @q_bi (And.intro @q_bs (And.intro @q_bt (And.intro @q_bl (And.intro @q_bd (And.intro @q_in (And.intro @q_ib (And.intro @q_ii (And.intro @q_is (And.intro @q_it (And.intro @q_il (And.intro @q_id (And.intro @q_sn (And.intro @q_sb (And.intro @q_si (And.intro @q_ss (And.intro @q_st (And.intro @q_sl (And.intro @q_sd (And.intro @q_tn (And.intro @q_tb (And.intro @q_ti (And.intro @q_ts (And.intro @q_tt (And.intro @q_tl (And.intro @q_td (And.intro @q_ln (And.intro @q_lb (And.intro @q_li (And.intro @q_ls (And.intro @q_lt (And.intro @q_ll (And.intro @q_ld (And.intro @q_dn (And.intro @q_db (And.intro @q_di (And.intro @q_ds (And.intro @q_dt (And.intro @q_dl (And.intro @q_dd (And.intro @qs_nn (And.intro @qs_nc (And.intro @qs_cn (And.intro @qs_cc (And.intro @vw_kdic (And.intro @o_ins (And.intro @o_nis (And.intro @o_int (And.intro @o_nit (And.intro @o_inl (And.intro @o_nil (And.intro @o_eq_nn (And.intro @o_ne_nn (And.intro @o_eq_nb (And.intro @o_ne_nb (And.intro @o_eq_ni (And.intro @o_ne_ni (And.intro @o_eq_ns (And.intro @o_ne_ns (And.intro @o_eq_bn (And.intro @o_ne_bn (And.intro @o_eq_bb (And.intro @o_ne_bb (And.intro @o_eq_bi (And.intro @o_ne_bi (And.intro @o_eq_bs (And.intro @o_ne_bs (And.intro @o_eq_in (And.intro @o_ne_in (And.intro @o_eq_ib (And.intro @o_ne_ib (And.intro @o_eq_is (And.intro @o_ne_is (And.intro @o_eq_sn (And.intro @o_ne_sn (And.intro @o_eq_sb (And.intro @o_ne_sb (And.intro @o_eq_si (And.intro @o_ne_si (And.intro @o_eqT0 (And.intro @o_neT0 (And.intro @pl_n (And.intro @pl_b (And.intro @pl_i (And.intro @pl_s (And.intro @pl_t (And.intro @pl_l (And.intro @pls_nil (And.intro @pls_cons (And.intro @ok_n (And.intro @ok_b (And.intro @ok_i (And.intro @ok_s (And.intro @ok_t (And.intro @ok_l (And.intro @oks_nil (And.intro @oks_cons (And.intro @o_isN (And.intro @o_isnN (And.intro @eqOk_t0 (And.intro @s_str (And.intro @s_tup (And.intro @pd0 (And.intro @pd1 (And.intro @it_lst (And.intro @it_tup (And.intro @m_up (And.intro @rc_up (And.intro @b_mult (And.intro @b_muls (And.intro @pu0 (And.intro @mk0 (And.intro @e_rev (And.intro @n_rev (And.intro @n_range (And.intro @n_sorted (And.intro @n_dict (And.intro @n_sortBy (And.intro @n_sortSet (And.intro @tr_str (And.intro @tr_non (And.intro @src_seqR (And.intro @seq_lst (And.intro @seq_tup (And.intro @seq_str (And.intro @seq_own (And.intro @l_tupl (And.intro @l_tupt (And.intro @st_one (And.intro @st_two (And.intro @st_three (And.intro @mu_appd (And.intro @mu_ext (And.intro @all_tt (And.intro @any_ff (And.intro @al_0 (And.intro @al_t (And.intro @an_0 (And.intro @an_f (And.intro @lb_cc (And.intro @lb_nn (And.intro @lb_nc (And.intro @lb_cn (And.intro @src_zts (And.intro @src_ztt (And.intro @src_zll (And.intro @m_getk (And.intro @rc_getk (And.intro @is_lst (And.intro @e_att (And.intro @e_meth (And.intro @n_make (And.intro @x_retK (And.intro @t_oatt (And.intro @a_obj (And.intro @is_obj (And.intro @vw_obj (And.intro @cvw_obj (And.intro @lf_nil (And.intro @lf_cons (And.intro @pf_nil (And.intro @pf_cons (And.intro @rf_nil (And.intro @rf_cons (And.intro @ct_nil (And.intro @ct_cons (And.intro @in_some (And.intro @in_none (And.intro @ei_nx (And.intro @ei_ex (And.intro @ei_bad (And.intro @rcm_a (And.intro @rcm_e (And.intro @m_idxl (And.intro @m_idxt (And.intro @rc_idxl (And.intro @rc_idxt (And.intro @i2_bool (And.intro @i2_int (And.intro @i2_str (And.intro @i2_tuple (And.intro @i2_list (And.intro @i2_dict (And.intro @x_try (And.intro @x_rais0 (And.intro @tr_nx (And.intro @tr_rt (And.intro @tr_ex (@isE0_exc))))))))))))))))))))))))))))))))))))))))))))))))))))))))))))))))))))))))))))))))))))))))))))))))))))))))))))))))))))))))))))))))))))))))))))))))))))))))))))))))))))))))))))))))))))))))))))))))))))))))))))))))))))))))))))))))))))))))))))))))))))))))))))))))))))))))))))))))))))))))))))))))))))))))))))))))))))))))))))))))))))))))))))))))))))))))))))))))))))))))))))))))))))))))))
end Ev
set_option maxHeartbeats 4000000
/-! Ev, part 33: what sorted gives: texts, numbers. -/
namespace Ev
open PySem PySem.W PyProof.Rows
theorem le_str {a b : Nm} : dataLe false pdD (.str a) (.str b) = !decide (b < a) := by
  have h : ∀ x y : Nm, PyProof.Rows.strKind.blt x y = decide (x < y) := fun x y => by first | rfl | (simp [PyProof.Rows.strKind])
  show (!(PyProof.Rows.lexLt itemOrd [.inr b] [.inr a])) = _
  rw [PyProof.Rows.lex_cons]
  show (!(PyProof.Rows.strKind.blt b a || (!PyProof.Rows.strKind.blt a b && false))) = _
  rw [h, h, Bool.and_false, Bool.or_false]
theorem le_int {a b : Int} : dataLe false pdD (.int a) (.int b) = !decide (b < a) := by
  show (!(PyProof.Rows.lexLt itemOrd [.inl b] [.inl a])) = _
  rw [PyProof.Rows.lex_cons]
  show (!(decide (b < a) || (!decide (a < b) && false))) = _
  rw [Bool.and_false, Bool.or_false]
theorem tot (a b : D) : dataLe false pdD a b = true ∨ dataLe false pdD b a = true := (sortLe_total (listOrd itemOrd) false fun b => keyToks (pdD b)).total a b
theorem tra (a b c : D) (h1 : dataLe false pdD a b = true) (h2 : dataLe false pdD b c = true) : dataLe false pdD a c = true := (sortLe_total (listOrd itemOrd) false fun b => keyToks (pdD b)).trans a b c h1 h2
theorem sortD_pair (xs : List D) : (sortD xs).Pairwise fun a b => dataLe false pdD a b = true :=
  List.pairwise_mergeSort (fun a b c h1 h2 => tra a b c h1 h2) (fun a b => by simpa using tot a b) xs
theorem sortD_perm (xs : List D) : (sortD xs).Perm xs := List.mergeSort_perm ..
theorem sortD_strs (ns : List Nm) : ∃ zs : List Nm, sortD (ns.map D.str) = zs.map D.str ∧ zs.Perm ns ∧ zs.Pairwise fun a b => ¬ b < a := by
  refine ⟨ns.mergeSort fun a b => dataLe false pdD (.str a) (.str b), (List.map_mergeSort (f := D.str) (s := dataLe false pdD) (r := fun a b => dataLe false pdD (.str a) (.str b)) (l := ns) fun _ _ _ _ => rfl).symm, List.mergeSort_perm .., ?_⟩
  have := List.pairwise_mergeSort (le := fun a b : Nm => dataLe false pdD (.str a) (.str b)) (fun a b c h1 h2 => tra _ _ _ h1 h2) (fun a b => by simpa using tot _ _) ns
  refine this.imp fun h => ?_
  rw [le_str] at h
  simpa using h
theorem sortD_ints (ns : List Int) : ∃ zs : List Int, sortD (ns.map D.int) = zs.map D.int ∧ zs.Perm ns ∧ zs.Pairwise fun a b => a ≤ b := by
  refine ⟨ns.mergeSort fun a b => dataLe false pdD (.int a) (.int b), (List.map_mergeSort (f := D.int) (s := dataLe false pdD) (r := fun a b => dataLe false pdD (.int a) (.int b)) (l := ns) fun _ _ _ _ => rfl).symm, List.mergeSort_perm .., ?_⟩
  have := List.pairwise_mergeSort (le := fun a b : Int => dataLe false pdD (.int a) (.int b)) (fun a b c h1 h2 => tra _ _ _ h1 h2) (fun a b => by simpa using tot _ _) ns
  refine this.imp fun {a b} h => ?_
  rw [le_int] at h
  have h : ¬ b < a := by simpa using h
  omega
theorem okDs_strs {n : Nat} : ∀ ns : List Nm, okDs (ns.map D.str) n = true
  | [] => rfl
  | _ :: ns => by
    show (true && okDs (ns.map D.str) n) = true
    rw [okDs_strs ns]; rfl
theorem okDs_ints {n : Nat} : ∀ ns : List Int, okDs (ns.map D.int) n = true
  | [] => rfl
  | _ :: ns => by
    show (true && okDs (ns.map D.int) n) = true
    rw [okDs_ints ns]; rfl
theorem ordOk_strs (ns : List Nm) : ordOk (ns.map D.str) = true := by
  have h1 : (ns.map D.str).all isS = true := by rw [List.all_map]; exact List.all_eq_true.mpr fun _ _ => rfl
  have h2 : ((ns.map D.str).all fun x => (ns.map D.str).all fun y => alike (pdD x) (pdD y)) = true := by
    rw [List.all_map]
    refine List.all_eq_true.mpr fun _ _ => ?_
    show ((ns.map D.str).all _) = true
    rw [List.all_map]
    exact List.all_eq_true.mpr fun _ _ => rfl
  unfold ordOk
  rw [okDs_strs, h1, h2, Bool.true_or, Bool.or_true]
  rfl
theorem ordOk_ints (ns : List Int) : ordOk (ns.map D.int) = true := by
  have h1 : (ns.map D.int).all isI = true := by rw [List.all_map]; exact List.all_eq_true.mpr fun _ _ => rfl
  have h2 : ((ns.map D.int).all fun x => (ns.map D.int).all fun y => alike (pdD x) (pdD y)) = true := by
    rw [List.all_map]
    refine List.all_eq_true.mpr fun _ _ => ?_
    show ((ns.map D.int).all _) = true
    rw [List.all_map]
    exact List.all_eq_true.mpr fun _ _ => rfl
  unfold ordOk
  rw [okDs_ints, h1, h2, Bool.true_or]
  rfl
end Ev
set_option maxHeartbeats 4000000
namespace Ev
local macro_rules | `(tactic| trivial) => `(tactic| first | assumption | omega | (apply rngOk_in <;> omega) | (apply mulOk_small <;> omega) | (apply fdvOk_of <;> omega) | (exact decide_eq_true (by omega)) | (apply szOk_in; omega) | (apply szOk_in; simp only [List.length_cons, List.length_nil, List.length_append, List.length_map]; omega) | rfl)
abbrev P : Nat → Fd := progT tab
variable {n : Nat} {S : Sto}
def isLong (y : Int) : Bool := y % 400 == 0 || (y % 4 == 0 && !(y % 100 == 0))
theorem k_is_long {y : Int} : call P (n + 1) F_is_long [.int y] S = .ok (.d (.bl (isLong y))) S := by
  rw [run_is_long]
  simp (config := { maxSteps := 4000000 }) (disch := trivial) only [EVR, reduceIte, Bool.false_eq_true, Bool.true_eq_false, if_true, if_false, decide_true, decide_false, allD, isiD, isiOk, String.reduceBEq, String.reduceEq, Bool.or_true, Bool.true_or, Bool.or_false, Bool.false_or, Bool.and_true, Bool.true_and, Bool.and_false, Bool.false_and, Bool.not_true, Bool.not_false, Int.cast_ofNat_Int, Int.reduceBEq, Int.reduceBNe, Int.reduceEq, Int.reduceLT, Int.reduceLE, Int.reduceAdd, Int.reduceSub, Int.reduceMul, Int.reduceNeg, Int.reduceToNat, beq_self_eq_true, Nat.add_eq, Nat.reduceBEq, Nat.reduceAdd, Nat.reduceLeDiff, Nat.reduceLT, Nat.reduceEqDiff, Nat.reduceSub, Nat.reduceMul, b_is_long, ite_ok, ite_Wd, ite_bl, ite_int, ite_str, bind_ite, lift_ite, nx_ite, loop_ite, end_ite]
  unfold isLong
  cases y % 400 == 0 <;> cases y % 4 == 0 <;> cases y % 100 == 0 <;> rfl
theorem k_long_years {y : Int} : call P (n + 1) F_long_years [.int y] S = .ok (.d (.int (y / 4 - y / 100 + y / 400))) S := by
  rw [run_long_years]
  simp (config := { maxSteps := 4000000 }) (disch := trivial) only [EVR, reduceIte, Bool.false_eq_true, Bool.true_eq_false, if_true, if_false, decide_true, decide_false, allD, isiD, isiOk, String.reduceBEq, String.reduceEq, Bool.or_true, Bool.true_or, Bool.or_false, Bool.false_or, Bool.and_true, Bool.true_and, Bool.and_false, Bool.false_and, Bool.not_true, Bool.not_false, Int.cast_ofNat_Int, Int.reduceBEq, Int.reduceBNe, Int.reduceEq, Int.reduceLT, Int.reduceLE, Int.reduceAdd, Int.reduceSub, Int.reduceMul, Int.reduceNeg, Int.reduceToNat, beq_self_eq_true, Nat.add_eq, Nat.reduceBEq, Nat.reduceAdd, Nat.reduceLeDiff, Nat.reduceLT, Nat.reduceEqDiff, Nat.reduceSub, Nat.reduceMul, b_long_years]
def lens : List Int := [31, 28, 31, 30, 31, 30, 31, 31, 30, 31, 30, 31]
def lengthOf (y m : Int) : Int := lens.getD (m - 1).toNat 0 + (if m = 2 ∧ isLong y = true then 1 else 0)
theorem k_length_of {y m : Int} (h1 : 1 ≤ m) (h2 : m ≤ 12) : call P (n + 2) F_length_of [.int y, .int m] S = .ok (.d (.int (lengthOf y m))) S := by
  rw [run_length_of]
  have e : atI [D.int 31, .int 28, .int 31, .int 30, .int 31, .int 30, .int 31, .int 31, .int 30, .int 31, .int 30, .int 31] (m - 1) = some (.int (lens.getD (m - 1).toNat 0)) := by
    obtain ⟨k, rfl⟩ : ∃ k : Nat, m = (k : Int) + 1 := ⟨(m - 1).toNat, by omega⟩
    have : k < 12 := by omega
    have e2 : ((k : Int) + 1 - 1) = (k : Int) := by omega
    rw [e2]
    match k, this with
    | 0, _ => rfl
    | 1, _ => rfl
    | 2, _ => rfl
    | 3, _ => rfl
    | 4, _ => rfl
    | 5, _ => rfl
    | 6, _ => rfl
    | 7, _ => rfl
    | 8, _ => rfl
    | 9, _ => rfl
    | 10, _ => rfl
    | 11, _ => rfl
  simp (config := { maxSteps := 4000000 }) (disch := trivial) only [EVR, reduceIte, Bool.false_eq_true, Bool.true_eq_false, if_true, if_false, decide_true, decide_false, allD, isiD, isiOk, String.reduceBEq, String.reduceEq, Bool.or_true, Bool.true_or, Bool.or_false, Bool.false_or, Bool.and_true, Bool.true_and, Bool.and_false, Bool.false_and, Bool.not_true, Bool.not_false, Int.cast_ofNat_Int, Int.reduceBEq, Int.reduceBNe, Int.reduceEq, Int.reduceLT, Int.reduceLE, Int.reduceAdd, Int.reduceSub, Int.reduceMul, Int.reduceNeg, Int.reduceToNat, beq_self_eq_true, Nat.add_eq, Nat.reduceBEq, Nat.reduceAdd, Nat.reduceLeDiff, Nat.reduceLT, Nat.reduceEqDiff, Nat.reduceSub, Nat.reduceMul, b_length_of, c_LENGTHS, e, k_is_long, ite_ok, ite_Wd, ite_bl, ite_int, ite_str, bind_ite, lift_ite, nx_ite, loop_ite, end_ite]
  unfold lengthOf
  by_cases h : m = 2 <;> cases h2 : isLong y <;> simp [h, h2]
def daysAhead (y : Int) : Int := 365 * (y - 2000) + ((y - 1) / 4 - (y - 1) / 100 + (y - 1) / 400) - 484
theorem k_days_ahead {y : Int} (h1 : -1000000 ≤ y) (h2 : y ≤ 1000000) : call P (n + 2) F_days_ahead [.int y] S = .ok (.d (.int (daysAhead y))) S := by
  rw [run_days_ahead]
  simp (config := { maxSteps := 4000000 }) (disch := trivial) only [EVR, reduceIte, Bool.false_eq_true, Bool.true_eq_false, if_true, if_false, decide_true, decide_false, allD, isiD, isiOk, String.reduceBEq, String.reduceEq, Bool.or_true, Bool.true_or, Bool.or_false, Bool.false_or, Bool.and_true, Bool.true_and, Bool.and_false, Bool.false_and, Bool.not_true, Bool.not_false, Int.cast_ofNat_Int, Int.reduceBEq, Int.reduceBNe, Int.reduceEq, Int.reduceLT, Int.reduceLE, Int.reduceAdd, Int.reduceSub, Int.reduceMul, Int.reduceNeg, Int.reduceToNat, beq_self_eq_true, Nat.add_eq, Nat.reduceBEq, Nat.reduceAdd, Nat.reduceLeDiff, Nat.reduceLT, Nat.reduceEqDiff, Nat.reduceSub, Nat.reduceMul, b_days_ahead, c_FIRST_YEAR, k_long_years]
  unfold daysAhead
  congr 3
def sumL (y : Int) (k : Nat) : Int := ((List.range k).map fun (i : Nat) => lengthOf y (1 + (i : Int))).sum
def dayAt (y m d : Int) : Int := daysAhead y + sumL y (m - 1).toNat + d - 1
theorem k_day_at {y m d : Int} (h1 : 1 ≤ m) (h2 : m ≤ 12) (h3 : -1000000 ≤ y) (h4 : y ≤ 1000000) : call P (n + 3) F_day_at [.int y, .int m, .int d] S = .ok (.d (.int (dayAt y m d))) S := by
  rw [run_day_at]
  have hc : runC (call P (n + 2)) [3] [] m_day_at_1 (srcG [.d (.int 1), .d (.int m)] S) (rngD 1 m) [some (.d (.int y)), some (.d (.int m)), some (.d (.int d)), none] S = .ok ((List.range (m - 1).toNat).map fun (k : Nat) => D.int (lengthOf y (1 + (k : Int)))) S :=
    runC_rng (f := fun i => .int (lengthOf y i)) srcG_refl fun i a b => ⟨_, rfl, by simp (config := { maxSteps := 4000000 }) (disch := trivial) only [EVR, reduceIte, Bool.false_eq_true, Bool.true_eq_false, if_true, if_false, decide_true, decide_false, allD, isiD, isiOk, String.reduceBEq, String.reduceEq, Bool.or_true, Bool.true_or, Bool.or_false, Bool.false_or, Bool.and_true, Bool.true_and, Bool.and_false, Bool.false_and, Bool.not_true, Bool.not_false, Int.cast_ofNat_Int, Int.reduceBEq, Int.reduceBNe, Int.reduceEq, Int.reduceLT, Int.reduceLE, Int.reduceAdd, Int.reduceSub, Int.reduceMul, Int.reduceNeg, Int.reduceToNat, beq_self_eq_true, Nat.add_eq, Nat.reduceBEq, Nat.reduceAdd, Nat.reduceLeDiff, Nat.reduceLT, Nat.reduceEqDiff, Nat.reduceSub, Nat.reduceMul, m_day_at_1, k_length_of]⟩
  simp (config := { maxSteps := 4000000 }) (disch := trivial) only [EVR, reduceIte, Bool.false_eq_true, Bool.true_eq_false, if_true, if_false, decide_true, decide_false, allD, isiD, isiOk, String.reduceBEq, String.reduceEq, Bool.or_true, Bool.true_or, Bool.or_false, Bool.false_or, Bool.and_true, Bool.true_and, Bool.and_false, Bool.false_and, Bool.not_true, Bool.not_false, Int.cast_ofNat_Int, Int.reduceBEq, Int.reduceBNe, Int.reduceEq, Int.reduceLT, Int.reduceLE, Int.reduceAdd, Int.reduceSub, Int.reduceMul, Int.reduceNeg, Int.reduceToNat, beq_self_eq_true, Nat.add_eq, Nat.reduceBEq, Nat.reduceAdd, Nat.reduceLeDiff, Nat.reduceLT, Nat.reduceEqDiff, Nat.reduceSub, Nat.reduceMul, b_day_at, k_days_ahead, hc, listD_lst, toInts_map, Option.bind_some, Option.map_some]
  rfl
theorem isLong_iff {y : Int} : isLong y = true ↔ y % 400 = 0 ∨ (y % 4 = 0 ∧ y % 100 ≠ 0) := by
  unfold isLong
  simp
theorem sumL_eq {y : Int} {k : Nat} (h : k ≤ 12) : sumL y k = [0, 31, 59, 90, 120, 151, 181, 212, 243, 273, 304, 334, 365].getD k 0 + (if 2 ≤ k ∧ isLong y = true then 1 else 0) := by
  have : k = 0 ∨ k = 1 ∨ k = 2 ∨ k = 3 ∨ k = 4 ∨ k = 5 ∨ k = 6 ∨ k = 7 ∨ k = 8 ∨ k = 9 ∨ k = 10 ∨ k = 11 ∨ k = 12 := by omega
  cases q : isLong y <;> rcases this with rfl | rfl | rfl | rfl | rfl | rfl | rfl | rfl | rfl | rfl | rfl | rfl | rfl <;> simp [sumL, List.range_succ, lengthOf, lens, q]
theorem year_len {y : Int} : daysAhead (y + 1) = daysAhead y + 365 + (if isLong y = true then 1 else 0) := by
  unfold daysAhead
  by_cases h : isLong y = true
  · rw [if_pos h]
    have := isLong_iff.mp h
    omega
  · rw [if_neg h]
    have : ¬ (y % 400 = 0 ∨ (y % 4 = 0 ∧ y % 100 ≠ 0)) := fun z => h (isLong_iff.mpr z)
    omega
theorem len_eq {y m : Int} (h1 : 1 ≤ m) (h2 : m ≤ 12) : lengthOf y m = sumL y m.toNat - sumL y (m - 1).toNat := by
  obtain ⟨k, rfl⟩ : ∃ k : Nat, m = (k : Int) + 1 := ⟨(m - 1).toNat, by omega⟩
  have e1 : ((k : Int) + 1).toNat = k + 1 := by omega
  have e2 : ((k : Int) + 1 - 1).toNat = k := by omega
  rw [e1, e2]
  unfold sumL
  rw [List.range_succ, List.map_append, List.sum_append]
  simp only [List.map_cons, List.map_nil, List.sum_cons, List.sum_nil]
  have : (1 + (k : Int)) = (k : Int) + 1 := by omega
  rw [this]
  omega
theorem sumL_mono {y : Int} {j k : Nat} (h : j ≤ k) (hk : k ≤ 12) : sumL y j + 28 * ((k : Int) - j) ≤ sumL y k := by
  rw [sumL_eq (by omega), sumL_eq hk]
  have a : k = 0 ∨ k = 1 ∨ k = 2 ∨ k = 3 ∨ k = 4 ∨ k = 5 ∨ k = 6 ∨ k = 7 ∨ k = 8 ∨ k = 9 ∨ k = 10 ∨ k = 11 ∨ k = 12 := by omega
  have b : j = 0 ∨ j = 1 ∨ j = 2 ∨ j = 3 ∨ j = 4 ∨ j = 5 ∨ j = 6 ∨ j = 7 ∨ j = 8 ∨ j = 9 ∨ j = 10 ∨ j = 11 ∨ j = 12 := by omega
  cases isLong y <;> rcases a with rfl | rfl | rfl | rfl | rfl | rfl | rfl | rfl | rfl | rfl | rfl | rfl | rfl <;> rcases b with rfl | rfl | rfl | rfl | rfl | rfl | rfl | rfl | rfl | rfl | rfl | rfl | rfl <;> first | (exfalso; omega) | (simp)
theorem len_pos {y m : Int} (h1 : 1 ≤ m) (h2 : m ≤ 12) : 28 ≤ lengthOf y m := by
  rw [len_eq h1 h2]
  have := sumL_mono (y := y) (j := (m - 1).toNat) (k := m.toNat) (by omega) (by omega)
  omega
theorem ahead_mono {y : Int} (k : Nat) : daysAhead y + 365 * (k : Int) ≤ daysAhead (y + k) := by
  induction k with
  | zero => simp
  | succ k ih =>
    have e : y + ((k + 1 : Nat) : Int) = (y + k) + 1 := by omega
    rw [e, year_len]
    split <;> omega
theorem ahead_up {y : Int} (k : Nat) : daysAhead (y + k) ≤ daysAhead y + 366 * (k : Int) := by
  induction k with
  | zero => simp
  | succ k ih =>
    have e : y + ((k + 1 : Nat) : Int) = (y + k) + 1 := by omega
    rw [e, year_len]
    split <;> omega
/-- a date and its day -/
structure Good (y m d x : Int) : Prop where
  m1 : 1 ≤ m
  m2 : m ≤ 12
  d1 : 1 ≤ d
  d2 : d ≤ lengthOf y m
  x : x = dayAt y m d
theorem Good.year {y m d x : Int} (g : Good y m d x) : daysAhead y ≤ x ∧ x < daysAhead (y + 1) := by
  have h1 := g.m1
  have h2 := g.m2
  have h3 := g.d1
  have h4 := g.d2
  have e := g.x
  unfold dayAt at e
  rw [len_eq h1 h2] at h4
  have a := sumL_mono (y := y) (j := 0) (k := (m - 1).toNat) (by omega) (by omega)
  have b := sumL_mono (y := y) (j := m.toNat) (k := 12) (by omega) (by omega)
  have z : sumL y 0 = 0 := rfl
  have t : sumL y 12 = 365 + (if isLong y = true then 1 else 0) := by
    rw [sumL_eq (by omega)]
    cases isLong y <;> simp
  rw [year_len]
  have : (((m - 1).toNat : Nat) : Int) = m - 1 := by omega
  have : ((m.toNat : Nat) : Int) = m := by omega
  omega
theorem year_loop {x Y : Int} (hY : Y ≤ 900000) (b1 : daysAhead Y ≤ x) (b2 : x < daysAhead (Y + 1)) : ∀ (k : Nat) (y : Int), Y = y + k → -900000 ≤ y →
    whlN (fun ρ1 S1 => evT (call P (n + 2)) ρ1 w_date_of_1 S1) (fun ρ1 S1 => evSs (call P (n + 2)) l_date_of_2 ρ1 S1) (k + 1) [some (.d (.int x)), some (.d (.int y)), none, none] S = .ok (.nx [some (.d (.int x)), some (.d (.int Y)), none, none]) S
  | 0, y, e, hy => by
    have e : Y = y := by omega
    subst e
    have : ¬ (daysAhead (Y + 1) ≤ x) := by omega
    rw [whlN_succ]
    simp (config := { maxSteps := 4000000 }) (disch := trivial) only [EVR, reduceIte, Bool.false_eq_true, Bool.true_eq_false, if_true, if_false, decide_true, decide_false, allD, isiD, isiOk, String.reduceBEq, String.reduceEq, Bool.or_true, Bool.true_or, Bool.or_false, Bool.false_or, Bool.and_true, Bool.true_and, Bool.and_false, Bool.false_and, Bool.not_true, Bool.not_false, Int.cast_ofNat_Int, Int.reduceBEq, Int.reduceBNe, Int.reduceEq, Int.reduceLT, Int.reduceLE, Int.reduceAdd, Int.reduceSub, Int.reduceMul, Int.reduceNeg, Int.reduceToNat, beq_self_eq_true, Nat.add_eq, Nat.reduceBEq, Nat.reduceAdd, Nat.reduceLeDiff, Nat.reduceLT, Nat.reduceEqDiff, Nat.reduceSub, Nat.reduceMul, x_T, w_date_of_1, k_days_ahead, this]
  | k + 1, y, e, hy => by
    have h : daysAhead (y + 1) ≤ x := by
      have := ahead_mono (y := y + 1) k
      have e2 : y + 1 + (k : Int) = Y := by omega
      rw [e2] at this
      omega
    rw [whlN_succ]
    simp (config := { maxSteps := 4000000 }) (disch := trivial) only [EVR, reduceIte, Bool.false_eq_true, Bool.true_eq_false, if_true, if_false, decide_true, decide_false, allD, isiD, isiOk, String.reduceBEq, String.reduceEq, Bool.or_true, Bool.true_or, Bool.or_false, Bool.false_or, Bool.and_true, Bool.true_and, Bool.and_false, Bool.false_and, Bool.not_true, Bool.not_false, Int.cast_ofNat_Int, Int.reduceBEq, Int.reduceBNe, Int.reduceEq, Int.reduceLT, Int.reduceLE, Int.reduceAdd, Int.reduceSub, Int.reduceMul, Int.reduceNeg, Int.reduceToNat, beq_self_eq_true, Nat.add_eq, Nat.reduceBEq, Nat.reduceAdd, Nat.reduceLeDiff, Nat.reduceLT, Nat.reduceEqDiff, Nat.reduceSub, Nat.reduceMul, x_T, w_date_of_1, l_date_of_2, k_days_ahead, h]
    exact year_loop hY b1 b2 k (y + 1) (by omega) (by omega)
theorem month_loop {x y m d : Int} (h1 : 1 ≤ m) (h2 : m ≤ 12) (d1 : 1 ≤ d) (d2 : d ≤ lengthOf y m) : ∀ (k : Nat) (j : Int), m = j + k → 1 ≤ j →
    whlN (fun ρ1 S1 => evT (call P (n + 2)) ρ1 w_date_of_3 S1) (fun ρ1 S1 => evSs (call P (n + 2)) l_date_of_4 ρ1 S1) (k + 1) [some (.d (.int x)), some (.d (.int y)), some (.d (.int (sumL y (m - 1).toNat - sumL y (j - 1).toNat + d - 1))), some (.d (.int j))] S = .ok (.nx [some (.d (.int x)), some (.d (.int y)), some (.d (.int (d - 1))), some (.d (.int m))]) S
  | 0, j, e, hj => by
    have e : m = j := by omega
    subst e
    have e2 : sumL y (m - 1).toNat - sumL y (m - 1).toNat + d - 1 = d - 1 := by omega
    have : ¬ (lengthOf y m ≤ d - 1) := by omega
    rw [whlN_succ, e2]
    simp (config := { maxSteps := 4000000 }) (disch := trivial) only [EVR, reduceIte, Bool.false_eq_true, Bool.true_eq_false, if_true, if_false, decide_true, decide_false, allD, isiD, isiOk, String.reduceBEq, String.reduceEq, Bool.or_true, Bool.true_or, Bool.or_false, Bool.false_or, Bool.and_true, Bool.true_and, Bool.and_false, Bool.false_and, Bool.not_true, Bool.not_false, Int.cast_ofNat_Int, Int.reduceBEq, Int.reduceBNe, Int.reduceEq, Int.reduceLT, Int.reduceLE, Int.reduceAdd, Int.reduceSub, Int.reduceMul, Int.reduceNeg, Int.reduceToNat, beq_self_eq_true, Nat.add_eq, Nat.reduceBEq, Nat.reduceAdd, Nat.reduceLeDiff, Nat.reduceLT, Nat.reduceEqDiff, Nat.reduceSub, Nat.reduceMul, x_T, w_date_of_3, k_length_of, this]
  | k + 1, j, e, hj => by
    have l := len_eq (y := y) (m := j) (by omega) (by omega)
    have mo := sumL_mono (y := y) (j := j.toNat) (k := (m - 1).toNat) (by omega) (by omega)
    have h : lengthOf y j ≤ sumL y (m - 1).toNat - sumL y (j - 1).toNat + d - 1 := by
      rw [l]
      omega
    have e3 : sumL y (m - 1).toNat - sumL y (j - 1).toNat + d - 1 - lengthOf y j = sumL y (m - 1).toNat - sumL y ((j + 1) - 1).toNat + d - 1 := by
      rw [l]
      have : (j + 1 - 1).toNat = j.toNat := by omega
      rw [this]
      omega
    have ih := month_loop (x := x) h1 h2 d1 d2 k (j + 1) (by omega) (by omega)
    rw [whlN_succ]
    simp (config := { maxSteps := 4000000 }) (disch := trivial) only [EVR, reduceIte, Bool.false_eq_true, Bool.true_eq_false, if_true, if_false, decide_true, decide_false, allD, isiD, isiOk, String.reduceBEq, String.reduceEq, Bool.or_true, Bool.true_or, Bool.or_false, Bool.false_or, Bool.and_true, Bool.true_and, Bool.and_false, Bool.false_and, Bool.not_true, Bool.not_false, Int.cast_ofNat_Int, Int.reduceBEq, Int.reduceBNe, Int.reduceEq, Int.reduceLT, Int.reduceLE, Int.reduceAdd, Int.reduceSub, Int.reduceMul, Int.reduceNeg, Int.reduceToNat, beq_self_eq_true, Nat.add_eq, Nat.reduceBEq, Nat.reduceAdd, Nat.reduceLeDiff, Nat.reduceLT, Nat.reduceEqDiff, Nat.reduceSub, Nat.reduceMul, x_T, w_date_of_3, l_date_of_4, k_length_of, h, e3]
    exact ih
theorem start_year {y x : Int} (b1 : daysAhead y ≤ x) (hx : 0 ≤ x) (b2 : x < daysAhead (y + 1)) : 2000 + x / 366 ≤ y := by
  have z : daysAhead 2000 = 0 := rfl
  have ge : 2000 ≤ y := by
    by_cases h : 2000 ≤ y
    · exact h
    · exfalso
      have := ahead_mono (y := y + 1) (2000 - (y + 1)).toNat
      have e : y + 1 + (((2000 - (y + 1)).toNat : Nat) : Int) = 2000 := by omega
      rw [e] at this
      omega
  have up := ahead_up (y := 2000) (y + 1 - 2000).toNat
  have e : (2000 : Int) + (((y + 1 - 2000).toNat : Nat) : Int) = y + 1 := by omega
  rw [e] at up
  omega
theorem k_date_of {y m d x : Int} (g : Good y m d x) (hx : 0 ≤ x) (hy : y ≤ 900000) : call P (n + 3) F_date_of [.int x] S = .ok (.d (.tup [.int y, .int m, .int d])) S := by
  obtain ⟨b1, b2⟩ := g.year
  have sy := start_year b1 hx b2
  have e := g.x
  have hxx : x ≤ 366 * 1000000 := by
    have := g.year.2
    unfold daysAhead at this
    omega
  rw [run_date_of]
  have w1 := runW_of (Φ := call P (n + 2)) ((y - (2000 + x / 366)).toNat + 1) (year_loop (n := n) (S := S) hy b1 b2 (y - (2000 + x / 366)).toNat (2000 + x / 366) (by omega) (by omega))
  have ml := month_loop (n := n) (S := S) (x := x) (y := y) g.m1 g.m2 g.d1 g.d2 (m - 1).toNat 1 (by have := g.m1; omega) (by omega)
  have e2 : sumL y (m - 1).toNat - sumL y ((1 : Int) - 1).toNat + d - 1 = x - daysAhead y := by
    have z : sumL y ((1 : Int) - 1).toNat = 0 := rfl
    rw [z, e]
    unfold dayAt
    omega
  rw [e2] at ml
  have w2 := runW_of (Φ := call P (n + 2)) _ ml
  simp (config := { maxSteps := 4000000 }) (disch := trivial) only [EVR, reduceIte, Bool.false_eq_true, Bool.true_eq_false, if_true, if_false, decide_true, decide_false, allD, isiD, isiOk, String.reduceBEq, String.reduceEq, Bool.or_true, Bool.true_or, Bool.or_false, Bool.false_or, Bool.and_true, Bool.true_and, Bool.and_false, Bool.false_and, Bool.not_true, Bool.not_false, Int.cast_ofNat_Int, Int.reduceBEq, Int.reduceBNe, Int.reduceEq, Int.reduceLT, Int.reduceLE, Int.reduceAdd, Int.reduceSub, Int.reduceMul, Int.reduceNeg, Int.reduceToNat, beq_self_eq_true, Nat.add_eq, Nat.reduceBEq, Nat.reduceAdd, Nat.reduceLeDiff, Nat.reduceLT, Nat.reduceEqDiff, Nat.reduceSub, Nat.reduceMul, b_date_of, c_FIRST_YEAR, w1, k_days_ahead, w2]
  congr 5
  simp
/-! later -/
theorem k_take {v s : Int} (s0 : 0 < s) (s1 : s < 1073741824) : call P (n + 1) F__law_take [.ref S.length, .int s] (S ++ [.lst [.int v]]) = .ok (.d (.int (v % s))) (S ++ [.lst [.int (v / s)]]) := by
  rw [run__law_take]
  have e1 : vw (S ++ [.lst [.int v]]) (.ref S.length) = .lst [.int v] := vw_ref (c := .lst [.int v]) (by simp)
  have e2 : atI [D.int v] 0 = some (.int v) := rfl
  have e3 : ∀ q : D, mutS .set (.ref S.length) [.int 0, q] (S ++ [.lst [.int v]]) = .ok .non (S ++ [.lst [q]]) := fun q => by
    unfold mutS
    have : (S ++ [Cell.lst [.int v]])[S.length]? = some (.lst [.int v]) := by simp
    simp only [this]
    show R.ok D.non ((S ++ [Cell.lst [.int v]]).set S.length (.lst [q])) = _
    rw [List.set_append_right _ _ (Nat.le_refl _), Nat.sub_self]
    rfl
  simp (config := { maxSteps := 4000000 }) (disch := trivial) only [EVR, reduceIte, Bool.false_eq_true, Bool.true_eq_false, if_true, if_false, decide_true, decide_false, allD, isiD, isiOk, String.reduceBEq, String.reduceEq, Bool.or_true, Bool.true_or, Bool.or_false, Bool.false_or, Bool.and_true, Bool.true_and, Bool.and_false, Bool.false_and, Bool.not_true, Bool.not_false, Int.cast_ofNat_Int, Int.reduceBEq, Int.reduceBNe, Int.reduceEq, Int.reduceLT, Int.reduceLE, Int.reduceAdd, Int.reduceSub, Int.reduceMul, Int.reduceNeg, Int.reduceToNat, beq_self_eq_true, Nat.add_eq, Nat.reduceBEq, Nat.reduceAdd, Nat.reduceLeDiff, Nat.reduceLT, Nat.reduceEqDiff, Nat.reduceSub, Nat.reduceMul, b__law_take, e1, e2, e3]
theorem k_lawlen {y m : Int} (h1 : 1 ≤ m) (h2 : m ≤ 12) : call P (n + 1) F__law_length [.int y, .int m] S = .ok (.d (.int (lengthOf y m))) S := by
  rw [run__law_length]
  have e : atI [D.int 31, .int 29, .int 31, .int 30, .int 31, .int 30, .int 31, .int 31, .int 30, .int 31, .int 30, .int 31] (m - 1) = some (.int (lens.getD (m - 1).toNat 0 + if m = 2 then 1 else 0)) := by
    obtain ⟨k, rfl⟩ : ∃ k : Nat, m = (k : Int) + 1 := ⟨(m - 1).toNat, by omega⟩
    have : k < 12 := by omega
    have e2 : ((k : Int) + 1 - 1) = (k : Int) := by omega
    rw [e2]
    match k, this with
    | 0, _ => rfl
    | 1, _ => rfl
    | 2, _ => rfl
    | 3, _ => rfl
    | 4, _ => rfl
    | 5, _ => rfl
    | 6, _ => rfl
    | 7, _ => rfl
    | 8, _ => rfl
    | 9, _ => rfl
    | 10, _ => rfl
    | 11, _ => rfl
  by_cases h : m = 2
  · subst h
    have l : lengthOf y 2 = 28 + (if isLong y = true then 1 else 0) := by unfold lengthOf; simp [lens]
    rw [l]
    unfold isLong
    cases q1 : y % 4 == 0 <;> cases q2 : y % 100 == 0 <;> cases q3 : y % 400 == 0 <;> (have a1 := q1; have a2 := q2; have a3 := q3; simp at a1 a2 a3; first | (exfalso; omega) | (simp (config := { maxSteps := 4000000 }) (disch := trivial) only [EVR, reduceIte, Bool.false_eq_true, Bool.true_eq_false, if_true, if_false, decide_true, decide_false, allD, isiD, isiOk, String.reduceBEq, String.reduceEq, Bool.or_true, Bool.true_or, Bool.or_false, Bool.false_or, Bool.and_true, Bool.true_and, Bool.and_false, Bool.false_and, Bool.not_true, Bool.not_false, Int.cast_ofNat_Int, Int.reduceBEq, Int.reduceBNe, Int.reduceEq, Int.reduceLT, Int.reduceLE, Int.reduceAdd, Int.reduceSub, Int.reduceMul, Int.reduceNeg, Int.reduceToNat, beq_self_eq_true, Nat.add_eq, Nat.reduceBEq, Nat.reduceAdd, Nat.reduceLeDiff, Nat.reduceLT, Nat.reduceEqDiff, Nat.reduceSub, Nat.reduceMul, b__law_length, e, q1, q2, q3, beq_self_eq_true]; try rfl))
  · have h' : (m == 2) = false := by simpa using h
    simp (config := { maxSteps := 4000000 }) (disch := trivial) only [EVR, reduceIte, Bool.false_eq_true, Bool.true_eq_false, if_true, if_false, decide_true, decide_false, allD, isiD, isiOk, String.reduceBEq, String.reduceEq, Bool.or_true, Bool.true_or, Bool.or_false, Bool.false_or, Bool.and_true, Bool.true_and, Bool.and_false, Bool.false_and, Bool.not_true, Bool.not_false, Int.cast_ofNat_Int, Int.reduceBEq, Int.reduceBNe, Int.reduceEq, Int.reduceLT, Int.reduceLE, Int.reduceAdd, Int.reduceSub, Int.reduceMul, Int.reduceNeg, Int.reduceToNat, beq_self_eq_true, Nat.add_eq, Nat.reduceBEq, Nat.reduceAdd, Nat.reduceLeDiff, Nat.reduceLT, Nat.reduceEqDiff, Nat.reduceSub, Nat.reduceMul, b__law_length, e, h', if_neg h]
    unfold lengthOf
    simp [h]
theorem k_lawahead {y : Int} (h1 : -1000000 ≤ y) (h2 : y ≤ 1000000) : call P (n + 1) F__law_ahead [.int y] S = .ok (.d (.int (daysAhead y))) S := by
  rw [run__law_ahead]
  simp (config := { maxSteps := 4000000 }) (disch := trivial) only [EVR, reduceIte, Bool.false_eq_true, Bool.true_eq_false, if_true, if_false, decide_true, decide_false, allD, isiD, isiOk, String.reduceBEq, String.reduceEq, Bool.or_true, Bool.true_or, Bool.or_false, Bool.false_or, Bool.and_true, Bool.true_and, Bool.and_false, Bool.false_and, Bool.not_true, Bool.not_false, Int.cast_ofNat_Int, Int.reduceBEq, Int.reduceBNe, Int.reduceEq, Int.reduceLT, Int.reduceLE, Int.reduceAdd, Int.reduceSub, Int.reduceMul, Int.reduceNeg, Int.reduceToNat, beq_self_eq_true, Nat.add_eq, Nat.reduceBEq, Nat.reduceAdd, Nat.reduceLeDiff, Nat.reduceLT, Nat.reduceEqDiff, Nat.reduceSub, Nat.reduceMul, b__law_ahead]
  unfold daysAhead
  congr 3
  omega
theorem k_lawday {y m d : Int} (h1 : 1 ≤ m) (h2 : m ≤ 12) (h3 : -1000000 ≤ y) (h4 : y ≤ 1000000) : call P (n + 2) F__law_day [.tup [.int y, .int m, .int d]] S = .ok (.d (.int (dayAt y m d))) S := by
  rw [run__law_day]
  have hc : runC (call P (n + 1)) [4] [] m__law_day_1 (srcG [.d (.int 1), .d (.int m)] S) (rngD 1 m) [some (.d (.tup [.int y, .int m, .int d])), some (.d (.int y)), some (.d (.int m)), some (.d (.int d)), none] S = .ok ((List.range (m - 1).toNat).map fun (k : Nat) => D.int (lengthOf y (1 + (k : Int)))) S :=
    runC_rng (f := fun i => .int (lengthOf y i)) srcG_refl fun i a b => ⟨_, rfl, by simp (config := { maxSteps := 4000000 }) (disch := trivial) only [EVR, reduceIte, Bool.false_eq_true, Bool.true_eq_false, if_true, if_false, decide_true, decide_false, allD, isiD, isiOk, String.reduceBEq, String.reduceEq, Bool.or_true, Bool.true_or, Bool.or_false, Bool.false_or, Bool.and_true, Bool.true_and, Bool.and_false, Bool.false_and, Bool.not_true, Bool.not_false, Int.cast_ofNat_Int, Int.reduceBEq, Int.reduceBNe, Int.reduceEq, Int.reduceLT, Int.reduceLE, Int.reduceAdd, Int.reduceSub, Int.reduceMul, Int.reduceNeg, Int.reduceToNat, beq_self_eq_true, Nat.add_eq, Nat.reduceBEq, Nat.reduceAdd, Nat.reduceLeDiff, Nat.reduceLT, Nat.reduceEqDiff, Nat.reduceSub, Nat.reduceMul, m__law_day_1, k_lawlen]⟩
  simp (config := { maxSteps := 4000000 }) (disch := trivial) only [EVR, reduceIte, Bool.false_eq_true, Bool.true_eq_false, if_true, if_false, decide_true, decide_false, allD, isiD, isiOk, String.reduceBEq, String.reduceEq, Bool.or_true, Bool.true_or, Bool.or_false, Bool.false_or, Bool.and_true, Bool.true_and, Bool.and_false, Bool.false_and, Bool.not_true, Bool.not_false, Int.cast_ofNat_Int, Int.reduceBEq, Int.reduceBNe, Int.reduceEq, Int.reduceLT, Int.reduceLE, Int.reduceAdd, Int.reduceSub, Int.reduceMul, Int.reduceNeg, Int.reduceToNat, beq_self_eq_true, Nat.add_eq, Nat.reduceBEq, Nat.reduceAdd, Nat.reduceLeDiff, Nat.reduceLT, Nat.reduceEqDiff, Nat.reduceSub, Nat.reduceMul, b__law_day, k_lawahead, hc, listD_lst, toInts_map, Option.bind_some, Option.map_some]
  rfl
theorem lyear_loop {x Y : Int} (hY : Y ≤ 900000) (b1 : daysAhead Y ≤ x) (b2 : x < daysAhead (Y + 1)) : ∀ (k : Nat) (y : Int), Y = y + k → -900000 ≤ y →
    whlN (fun ρ1 S1 => evT (call P (n + 1)) ρ1 w__law_date_1 S1) (fun ρ1 S1 => evSs (call P (n + 1)) l__law_date_2 ρ1 S1) (k + 1) [some (.d (.int x)), some (.d (.int y)), none, none] S = .ok (.nx [some (.d (.int x)), some (.d (.int Y)), none, none]) S
  | 0, y, e, hy => by
    have e : Y = y := by omega
    subst e
    have : ¬ (daysAhead (Y + 1) ≤ x) := by omega
    rw [whlN_succ]
    simp (config := { maxSteps := 4000000 }) (disch := trivial) only [EVR, reduceIte, Bool.false_eq_true, Bool.true_eq_false, if_true, if_false, decide_true, decide_false, allD, isiD, isiOk, String.reduceBEq, String.reduceEq, Bool.or_true, Bool.true_or, Bool.or_false, Bool.false_or, Bool.and_true, Bool.true_and, Bool.and_false, Bool.false_and, Bool.not_true, Bool.not_false, Int.cast_ofNat_Int, Int.reduceBEq, Int.reduceBNe, Int.reduceEq, Int.reduceLT, Int.reduceLE, Int.reduceAdd, Int.reduceSub, Int.reduceMul, Int.reduceNeg, Int.reduceToNat, beq_self_eq_true, Nat.add_eq, Nat.reduceBEq, Nat.reduceAdd, Nat.reduceLeDiff, Nat.reduceLT, Nat.reduceEqDiff, Nat.reduceSub, Nat.reduceMul, x_T, w__law_date_1, k_lawahead, this]
  | k + 1, y, e, hy => by
    have h : daysAhead (y + 1) ≤ x := by
      have := ahead_mono (y := y + 1) k
      have e2 : y + 1 + (k : Int) = Y := by omega
      rw [e2] at this
      omega
    rw [whlN_succ]
    simp (config := { maxSteps := 4000000 }) (disch := trivial) only [EVR, reduceIte, Bool.false_eq_true, Bool.true_eq_false, if_true, if_false, decide_true, decide_false, allD, isiD, isiOk, String.reduceBEq, String.reduceEq, Bool.or_true, Bool.true_or, Bool.or_false, Bool.false_or, Bool.and_true, Bool.true_and, Bool.and_false, Bool.false_and, Bool.not_true, Bool.not_false, Int.cast_ofNat_Int, Int.reduceBEq, Int.reduceBNe, Int.reduceEq, Int.reduceLT, Int.reduceLE, Int.reduceAdd, Int.reduceSub, Int.reduceMul, Int.reduceNeg, Int.reduceToNat, beq_self_eq_true, Nat.add_eq, Nat.reduceBEq, Nat.reduceAdd, Nat.reduceLeDiff, Nat.reduceLT, Nat.reduceEqDiff, Nat.reduceSub, Nat.reduceMul, x_T, w__law_date_1, l__law_date_2, k_lawahead, h]
    exact lyear_loop hY b1 b2 k (y + 1) (by omega) (by omega)
theorem lmonth_loop {x y m d : Int} (h1 : 1 ≤ m) (h2 : m ≤ 12) (d1 : 1 ≤ d) (d2 : d ≤ lengthOf y m) : ∀ (k : Nat) (j : Int), m = j + k → 1 ≤ j →
    whlN (fun ρ1 S1 => evT (call P (n + 1)) ρ1 w__law_date_3 S1) (fun ρ1 S1 => evSs (call P (n + 1)) l__law_date_4 ρ1 S1) (k + 1) [some (.d (.int x)), some (.d (.int y)), some (.d (.int j)), some (.d (.int (sumL y (m - 1).toNat - sumL y (j - 1).toNat + d)))] S = .ok (.nx [some (.d (.int x)), some (.d (.int y)), some (.d (.int m)), some (.d (.int d))]) S
  | 0, j, e, hj => by
    have e : m = j := by omega
    subst e
    have e2 : sumL y (m - 1).toNat - sumL y (m - 1).toNat + d = d := by omega
    have : ¬ (lengthOf y m < d) := by omega
    rw [whlN_succ, e2]
    simp (config := { maxSteps := 4000000 }) (disch := trivial) only [EVR, reduceIte, Bool.false_eq_true, Bool.true_eq_false, if_true, if_false, decide_true, decide_false, allD, isiD, isiOk, String.reduceBEq, String.reduceEq, Bool.or_true, Bool.true_or, Bool.or_false, Bool.false_or, Bool.and_true, Bool.true_and, Bool.and_false, Bool.false_and, Bool.not_true, Bool.not_false, Int.cast_ofNat_Int, Int.reduceBEq, Int.reduceBNe, Int.reduceEq, Int.reduceLT, Int.reduceLE, Int.reduceAdd, Int.reduceSub, Int.reduceMul, Int.reduceNeg, Int.reduceToNat, beq_self_eq_true, Nat.add_eq, Nat.reduceBEq, Nat.reduceAdd, Nat.reduceLeDiff, Nat.reduceLT, Nat.reduceEqDiff, Nat.reduceSub, Nat.reduceMul, x_T, w__law_date_3, k_lawlen, this]
  | k + 1, j, e, hj => by
    have l := len_eq (y := y) (m := j) (by omega) (by omega)
    have mo := sumL_mono (y := y) (j := j.toNat) (k := (m - 1).toNat) (by omega) (by omega)
    have h : lengthOf y j < sumL y (m - 1).toNat - sumL y (j - 1).toNat + d := by
      rw [l]
      omega
    have e3 : sumL y (m - 1).toNat - sumL y (j - 1).toNat + d - lengthOf y j = sumL y (m - 1).toNat - sumL y ((j + 1) - 1).toNat + d := by
      rw [l]
      have : (j + 1 - 1).toNat = j.toNat := by omega
      rw [this]
      omega
    have ih := lmonth_loop (x := x) h1 h2 d1 d2 k (j + 1) (by omega) (by omega)
    rw [whlN_succ]
    simp (config := { maxSteps := 4000000 }) (disch := trivial) only [EVR, reduceIte, Bool.false_eq_true, Bool.true_eq_false, if_true, if_false, decide_true, decide_false, allD, isiD, isiOk, String.reduceBEq, String.reduceEq, Bool.or_true, Bool.true_or, Bool.or_false, Bool.false_or, Bool.and_true, Bool.true_and, Bool.and_false, Bool.false_and, Bool.not_true, Bool.not_false, Int.cast_ofNat_Int, Int.reduceBEq, Int.reduceBNe, Int.reduceEq, Int.reduceLT, Int.reduceLE, Int.reduceAdd, Int.reduceSub, Int.reduceMul, Int.reduceNeg, Int.reduceToNat, beq_self_eq_true, Nat.add_eq, Nat.reduceBEq, Nat.reduceAdd, Nat.reduceLeDiff, Nat.reduceLT, Nat.reduceEqDiff, Nat.reduceSub, Nat.reduceMul, x_T, w__law_date_3, l__law_date_4, k_lawlen, h, e3]
    exact ih
theorem k_lawdate {y m d x : Int} (g : Good y m d x) (hx : 0 ≤ x) (hy : y ≤ 900000) : call P (n + 2) F__law_date [.int x] S = .ok (.d (.tup [.int y, .int m, .int d])) S := by
  obtain ⟨b1, b2⟩ := g.year
  have sy := start_year b1 hx b2
  have e := g.x
  have hxx : x ≤ 366 * 1000000 := by
    have := g.year.2
    unfold daysAhead at this
    omega
  rw [run__law_date]
  have w1 := runW_of (Φ := call P (n + 1)) ((y - (2000 + x / 366)).toNat + 1) (lyear_loop (n := n) (S := S) hy b1 b2 (y - (2000 + x / 366)).toNat (2000 + x / 366) (by omega) (by omega))
  have ml := lmonth_loop (n := n) (S := S) (x := x) (y := y) g.m1 g.m2 g.d1 g.d2 (m - 1).toNat 1 (by have := g.m1; omega) (by omega)
  have e2 : sumL y (m - 1).toNat - sumL y ((1 : Int) - 1).toNat + d = x - daysAhead y + 1 := by
    have z : sumL y ((1 : Int) - 1).toNat = 0 := rfl
    rw [z, e]
    unfold dayAt
    omega
  rw [e2] at ml
  have w2 := runW_of (Φ := call P (n + 1)) _ ml
  simp (config := { maxSteps := 4000000 }) (disch := trivial) only [EVR, reduceIte, Bool.false_eq_true, Bool.true_eq_false, if_true, if_false, decide_true, decide_false, allD, isiD, isiOk, String.reduceBEq, String.reduceEq, Bool.or_true, Bool.true_or, Bool.or_false, Bool.false_or, Bool.and_true, Bool.true_and, Bool.and_false, Bool.false_and, Bool.not_true, Bool.not_false, Int.cast_ofNat_Int, Int.reduceBEq, Int.reduceBNe, Int.reduceEq, Int.reduceLT, Int.reduceLE, Int.reduceAdd, Int.reduceSub, Int.reduceMul, Int.reduceNeg, Int.reduceToNat, beq_self_eq_true, Nat.add_eq, Nat.reduceBEq, Nat.reduceAdd, Nat.reduceLeDiff, Nat.reduceLT, Nat.reduceEqDiff, Nat.reduceSub, Nat.reduceMul, b__law_date, w1, k_lawahead, w2]
end Ev
set_option maxHeartbeats 4000000
namespace Ev
local macro_rules | `(tactic| trivial) => `(tactic| first | assumption | omega | (apply rngOk_in <;> omega) | (apply mulOk_small <;> omega) | (apply fdvOk_of <;> omega) | (exact decide_eq_true (by omega)) | (apply szOk_in; omega) | (apply szOk_in; simp only [List.length_cons, List.length_nil, List.length_append, List.length_map]; omega) | rfl)
variable {n : Nat} {S : Sto}
theorem k_mixed {c : Int} (hc : c.natAbs < 2 ^ 2000000) : ∃ v, 0 ≤ v ∧ call P (n + 1) F__law_mixed [.int c] S = .ok (.d (.int v)) S := by
  have m : mulOk c 161803398874989484820458683436563811772030917980576286213547 = true := mulOk_bits hc (Nat.lt_of_lt_of_le (show _ < 2 ^ 200 by decide) (Nat.pow_le_pow_right (by decide) (by decide)))
  refine ⟨c * 161803398874989484820458683436563811772030917980576286213547 % 10 ^ 60, Int.emod_nonneg _ (by decide), ?_⟩
  rw [run__law_mixed]
  simp (config := { maxSteps := 4000000 }) (disch := trivial) only [EVR, reduceIte, Bool.false_eq_true, Bool.true_eq_false, if_true, if_false, decide_true, decide_false, allD, isiD, isiOk, String.reduceBEq, String.reduceEq, Bool.or_true, Bool.true_or, Bool.or_false, Bool.false_or, Bool.and_true, Bool.true_and, Bool.and_false, Bool.false_and, Bool.not_true, Bool.not_false, Int.cast_ofNat_Int, Int.reduceBEq, Int.reduceBNe, Int.reduceEq, Int.reduceLT, Int.reduceLE, Int.reduceAdd, Int.reduceSub, Int.reduceMul, Int.reduceNeg, Int.reduceToNat, beq_self_eq_true, Nat.add_eq, Nat.reduceBEq, Nat.reduceAdd, Nat.reduceLeDiff, Nat.reduceLT, Nat.reduceEqDiff, Nat.reduceSub, Nat.reduceMul, b__law_mixed, m]
theorem pick3 {a b c i : Int} (h0 : 0 ≤ i) (h1 : i < 3) : ∃ z, atI [D.int a, .int b, .int c] i = some (.int z) ∧ (z = a ∨ z = b ∨ z = c) := by
  have : i = 0 ∨ i = 1 ∨ i = 2 := by omega
  rcases this with rfl | rfl | rfl
  · exact ⟨a, rfl, .inl rfl⟩
  · exact ⟨b, rfl, .inr (.inl rfl)⟩
  · exact ⟨c, rfl, .inr (.inr rfl)⟩
theorem pick2 {a b i : Int} (h0 : 0 ≤ i) (h1 : i < 2) : ∃ z, atI [D.int a, .int b] i = some (.int z) ∧ (z = a ∨ z = b) := by
  have : i = 0 ∨ i = 1 := by omega
  rcases this with rfl | rfl
  · exact ⟨a, rfl, .inl rfl⟩
  · exact ⟨b, rfl, .inr rfl⟩
theorem pick4 {a b c d i : Int} (h0 : 0 ≤ i) (h1 : i < 4) : ∃ z, atI [D.int a, .int b, .int c, .int d] i = some (.int z) ∧ (z = a ∨ z = b ∨ z = c ∨ z = d) := by
  have : i = 0 ∨ i = 1 ∨ i = 2 ∨ i = 3 := by omega
  rcases this with rfl | rfl | rfl | rfl
  · exact ⟨a, rfl, .inl rfl⟩
  · exact ⟨b, rfl, .inr (.inl rfl)⟩
  · exact ⟨c, rfl, .inr (.inr (.inl rfl))⟩
  · exact ⟨d, rfl, .inr (.inr (.inr rfl))⟩
theorem k_drawn {v M q r : Int} (v0 : 0 ≤ v) (hM : 2000 ≤ M) (hM2 : M ≤ 9999) (c1 : 1 + (M - 2000) / 100 = q) (c2 : M - 1999 = r) (q0 : 0 < q) (r0' : 0 < r) (q1' : q < 100000) (r1' : r < 100000) : ∃ y m d v', (2000 ≤ y ∧ y ≤ M) ∧ (1 ≤ m ∧ m ≤ 12) ∧ (1 ≤ d ∧ d ≤ lengthOf y m) ∧ 0 ≤ v' ∧ call P (n + 2) F__law_drawn_date [.ref S.length, .int M] (S ++ [.lst [.int v]]) = .ok (.d (.tup [.int y, .int m, .int d])) (S ++ [.lst [.int v']]) := by
  have b1 := Int.emod_nonneg v (b := q) (by omega)
  have b2 := Int.emod_lt_of_pos v (b := q) (by omega)
  have b3 : 0 ≤ v / q := Int.ediv_nonneg v0 (by omega)
  have b4 := Int.emod_nonneg (v / q / 3) (b := r) (by omega)
  have b5 := Int.emod_lt_of_pos (v / q / 3) (b := r) (by omega)
  have b6 : 0 ≤ v / q / 3 / r := Int.ediv_nonneg (by omega) (by omega)
  obtain ⟨y, p1, q1⟩ := pick3 (a := 2000 + v / q / 3 % r) (b := 2000 + v / q / 3 % r) (c := if (if 2000 < 2000 + 100 * (v % q) + v / q % 3 - 1 then 2000 + 100 * (v % q) + v / q % 3 - 1 else 2000) < M then (if 2000 < 2000 + 100 * (v % q) + v / q % 3 - 1 then 2000 + 100 * (v % q) + v / q % 3 - 1 else 2000) else M) (i := v / q / 3 / r % 3) (by omega) (by omega)
  obtain ⟨m, p2, q2⟩ := pick2 (a := 1 + v / q / 3 / r / 3 % 12) (b := 2) (i := if (v / q / 3 / r / 3 / 12 % 4 == 0) = true then 1 else 0) (by split <;> omega) (by split <;> omega)
  have lm : 28 ≤ lengthOf y m := len_pos (by omega) (by omega)
  have lM : lengthOf y m ≤ 400 := by
    rw [len_eq (by omega) (by omega)]
    have a := sumL_mono (y := y) (j := 0) (k := (m - 1).toNat) (by omega) (by omega)
    have b := sumL_mono (y := y) (j := m.toNat) (k := 12) (by omega) (by omega)
    have z : sumL y 0 = 0 := rfl
    have t : sumL y 12 = 365 + (if isLong y = true then 1 else 0) := by
      rw [sumL_eq (by omega)]
      cases isLong y <;> simp
    have : (((m - 1).toNat : Nat) : Int) = m - 1 := by omega
    have : ((m.toNat : Nat) : Int) = m := by omega
    omega
  have r0 := Int.emod_nonneg (v / q / 3 / r / 3 / 12 / 4) (b := lengthOf y m) (by omega)
  have r1 := Int.emod_lt_of_pos (v / q / 3 / r / 3 / 12 / 4) (b := lengthOf y m) (by omega)
  have v1 : 0 ≤ v / q / 3 / r / 3 / 12 / 4 / lengthOf y m := Int.ediv_nonneg (by omega) (by omega)
  obtain ⟨d, p3, q3⟩ := pick4 (a := 1 + v / q / 3 / r / 3 / 12 / 4 % lengthOf y m) (b := lengthOf y m) (c := 1) (d := if 28 < lengthOf y m then 28 else lengthOf y m) (i := v / q / 3 / r / 3 / 12 / 4 / lengthOf y m % 4) (by omega) (by omega)
  refine ⟨y, m, d, v / q / 3 / r / 3 / 12 / 4 / lengthOf y m / 4, by omega, by omega, by omega, by omega, ?_⟩
  rw [run__law_drawn_date]
  simp (config := { maxSteps := 4000000 }) (disch := trivial) only [EVR, reduceIte, Bool.false_eq_true, Bool.true_eq_false, if_true, if_false, decide_true, decide_false, allD, isiD, isiOk, String.reduceBEq, String.reduceEq, Bool.or_true, Bool.true_or, Bool.or_false, Bool.false_or, Bool.and_true, Bool.true_and, Bool.and_false, Bool.false_and, Bool.not_true, Bool.not_false, Int.cast_ofNat_Int, Int.reduceBEq, Int.reduceBNe, Int.reduceEq, Int.reduceLT, Int.reduceLE, Int.reduceAdd, Int.reduceSub, Int.reduceMul, Int.reduceNeg, Int.reduceToNat, beq_self_eq_true, Nat.add_eq, Nat.reduceBEq, Nat.reduceAdd, Nat.reduceLeDiff, Nat.reduceLT, Nat.reduceEqDiff, Nat.reduceSub, Nat.reduceMul, b__law_drawn_date, c1, c2, k_take, p1, p2, k_lawlen, p3]
theorem nat_mul_lt {a b : Nat} (ha : a < 2 ^ 1048576) (hb : b < 2 ^ 60) : a + b < 2 ^ 2000000 := by
  have h1 : 2 ^ 60 ≤ 2 ^ 1048576 := Nat.pow_le_pow_right (by decide) (by decide)
  have h2 : 2 ^ 1048577 ≤ 2 ^ 2000000 := Nat.pow_le_pow_right (by decide) (by decide)
  have h3 : 2 ^ 1048577 = 2 * 2 ^ 1048576 := Nat.pow_succ'
  omega
theorem k_pack {ns : List Int} {k : Int} (hn : ∀ z ∈ ns, z.natAbs < 2 ^ 1048576) (hl : ns.length ≤ 63) (k0 : 0 ≤ k) (k1 : k ≤ 1000) : ∃ v, 0 ≤ v ∧ call P (n + 2) F__law_pack [.scr ns, .int k] S = .ok (.own (.lst [.int v])) S := by
  by_cases h : k < (ns.length : Int)
  · have hi : k.toNat < ns.length := by omega
    have e : atI ns k = some ns[k.toNat] := by rw [atI_in k0, List.getElem?_eq_getElem hi]
    have hb := hn ns[k.toNat] (List.getElem_mem hi)
    have hc : (ns[k.toNat] + 31 * k).natAbs < 2 ^ 2000000 := by
      refine Nat.lt_of_le_of_lt ?_ (nat_mul_lt (b := 31000) hb (by decide))
      generalize ns[k.toNat] = z
      omega
    obtain ⟨v, v0, hv⟩ := k_mixed (n := n) (S := S) hc
    refine ⟨v, v0, ?_⟩
    rw [run__law_pack]
    simp (config := { maxSteps := 4000000 }) (disch := trivial) only [EVR, reduceIte, Bool.false_eq_true, Bool.true_eq_false, if_true, if_false, decide_true, decide_false, allD, isiD, isiOk, String.reduceBEq, String.reduceEq, Bool.or_true, Bool.true_or, Bool.or_false, Bool.false_or, Bool.and_true, Bool.true_and, Bool.and_false, Bool.false_and, Bool.not_true, Bool.not_false, Int.cast_ofNat_Int, Int.reduceBEq, Int.reduceBNe, Int.reduceEq, Int.reduceLT, Int.reduceLE, Int.reduceAdd, Int.reduceSub, Int.reduceMul, Int.reduceNeg, Int.reduceToNat, beq_self_eq_true, Nat.add_eq, Nat.reduceBEq, Nat.reduceAdd, Nat.reduceLeDiff, Nat.reduceLT, Nat.reduceEqDiff, Nat.reduceSub, Nat.reduceMul, b__law_pack, h, e, Option.map_some, hv]
  · have hc : (7919 * k + 11).natAbs < 2 ^ 2000000 := by
      refine Nat.lt_of_le_of_lt (m := 0 + 10000000) ?_ (nat_mul_lt (a := 0) (Nat.pow_pos (by decide)) (by decide))
      omega
    obtain ⟨v, v0, hv⟩ := k_mixed (n := n) (S := S) hc
    refine ⟨v, v0, ?_⟩
    rw [run__law_pack]
    simp (config := { maxSteps := 4000000 }) (disch := trivial) only [EVR, reduceIte, Bool.false_eq_true, Bool.true_eq_false, if_true, if_false, decide_true, decide_false, allD, isiD, isiOk, String.reduceBEq, String.reduceEq, Bool.or_true, Bool.true_or, Bool.or_false, Bool.false_or, Bool.and_true, Bool.true_and, Bool.and_false, Bool.false_and, Bool.not_true, Bool.not_false, Int.cast_ofNat_Int, Int.reduceBEq, Int.reduceBNe, Int.reduceEq, Int.reduceLT, Int.reduceLE, Int.reduceAdd, Int.reduceSub, Int.reduceMul, Int.reduceNeg, Int.reduceToNat, beq_self_eq_true, Nat.add_eq, Nat.reduceBEq, Nat.reduceAdd, Nat.reduceLeDiff, Nat.reduceLT, Nat.reduceEqDiff, Nat.reduceSub, Nat.reduceMul, b__law_pack, h, hv]
end Ev
set_option maxHeartbeats 4000000
namespace Ev
/-! which error is of which class -/
theorem subC_tab : subC "NoDay" "ArchiveError" = true ∧ subC "NoDay" "NoDay" = true ∧ subC "NoDay" "NoDeed" = false ∧ subC "NoDay" "Twice" = false ∧ subC "NoDay" "GoneMaker" = false ∧ subC "NoDay" "NoNumber" = false ∧ subC "NoDay" "NoPaper" = false ∧ subC "NoDay" "MustStay" = false ∧ subC "NoDay" "Held" = false ∧ subC "NoDay" "NoLeave" = false ∧ subC "NoDay" "NoText" = false ∧ subC "NoDay" "NoCall" = false ∧ subC "NoDay" "ValueError" = true ∧ subC "NoPaper" "ArchiveError" = true ∧ subC "NoPaper" "NoDay" = false ∧ subC "NoPaper" "NoDeed" = false ∧ subC "NoPaper" "Twice" = false ∧ subC "NoPaper" "GoneMaker" = false ∧ subC "NoPaper" "NoNumber" = false ∧ subC "NoPaper" "NoPaper" = true ∧ subC "NoPaper" "MustStay" = false ∧ subC "NoPaper" "Held" = false ∧ subC "NoPaper" "NoLeave" = false ∧ subC "NoPaper" "NoText" = false ∧ subC "NoPaper" "NoCall" = false ∧ subC "NoPaper" "ValueError" = true ∧ subC "NoText" "ArchiveError" = true ∧ subC "NoText" "NoDay" = false ∧ subC "NoText" "NoDeed" = false ∧ subC "NoText" "Twice" = false ∧ subC "NoText" "GoneMaker" = false ∧ subC "NoText" "NoNumber" = false ∧ subC "NoText" "NoPaper" = false ∧ subC "NoText" "MustStay" = false ∧ subC "NoText" "Held" = false ∧ subC "NoText" "NoLeave" = false ∧ subC "NoText" "NoText" = true ∧ subC "NoText" "NoCall" = false ∧ subC "NoText" "ValueError" = true := ⟨rfl, rfl, rfl, rfl, rfl, rfl, rfl, rfl, rfl, rfl, rfl, rfl, rfl, rfl, rfl, rfl, rfl, rfl, rfl, rfl, rfl, rfl, rfl, rfl, rfl, rfl, rfl, rfl, rfl, rfl, rfl, rfl, rfl, rfl, rfl, rfl, rfl, rfl, rfl⟩
theorem i2_xNoDay {d : D} : isiOk2 ["GoneMaker", "Held", "MustStay", "NoCall", "NoDeed", "NoLeave", "NoNumber", "NoPaper", "NoText", "Twice"] d = isXN d := rfl
theorem i2_xNoPaper {d : D} : isiOk2 ["GoneMaker", "Held", "MustStay", "NoCall", "NoDay", "NoDeed", "NoLeave", "NoNumber", "NoText", "Twice"] d = isXN d := rfl
theorem i2_xNoText {d : D} : isiOk2 ["GoneMaker", "Held", "MustStay", "NoCall", "NoDay", "NoDeed", "NoLeave", "NoNumber", "NoPaper", "Twice"] d = isXN d := rfl
theorem i2_oNoDay {d : D} : isiOk2 ["NoDay"] d = isXN d := rfl
theorem i2_oNoPaper {d : D} : isiOk2 ["NoPaper"] d = isXN d := rfl
theorem i2_oNoText {d : D} : isiOk2 ["NoText"] d = isXN d := rfl
theorem i2_oVal {d : D} : isiOk2 ["ValueError"] d = isXN d := rfl
theorem isXN_exc {c : String} {l : List (String × D)} : isXN (.exc c l) = true := rfl
theorem isXN_non : isXN .non = true := rfl
theorem EXC : type_of% (And.intro subC_tab (And.intro @i2_xNoDay (And.intro @i2_xNoPaper (And.intro @i2_xNoText (And.intro @i2_oNoDay (And.intro @i2_oNoPaper (And.intro @i2_oNoText (And.intro @i2_oVal (And.intro @isXN_exc (isXN_non)))))))))) := And.intro subC_tab (And.intro @i2_xNoDay (And.intro @i2_xNoPaper (And.intro @i2_xNoText (And.intro @i2_oNoDay (And.intro @i2_oNoPaper (And.intro @i2_oNoText (And.intro @i2_oVal (And.intro @isXN_exc (isXN_non)))))))))
end Ev
set_option maxHeartbeats 4000000
namespace Ev
local macro_rules | `(tactic| trivial) => `(tactic| first | assumption | omega | (apply rngOk_in <;> omega) | (apply mulOk_small <;> omega) | (apply fdvOk_of <;> omega) | (exact decide_eq_true (by omega)) | (apply szOk_in; omega) | (apply szOk_in; simp only [List.length_cons, List.length_nil, List.length_append, List.length_map]; omega) | rfl)
variable {n : Nat} {S : Sto}
def isDateB (y m d : Int) : Bool := decide (2000 ≤ y) && decide (y ≤ 9999) && decide (1 ≤ m) && decide (m ≤ 12) && decide (1 ≤ d) && decide (d ≤ lengthOf y m)
theorem isDateB_iff {y m d : Int} : isDateB y m d = true ↔ 2000 ≤ y ∧ y ≤ 9999 ∧ 1 ≤ m ∧ m ≤ 12 ∧ 1 ≤ d ∧ d ≤ lengthOf y m := by
  unfold isDateB
  simp only [Bool.and_eq_true, decide_eq_true_eq]
  constructor
  · rintro ⟨⟨⟨⟨⟨a, b⟩, c⟩, d⟩, e⟩, f⟩
    exact ⟨a, b, c, d, e, f⟩
  · rintro ⟨a, b, c, d, e, f⟩
    exact ⟨⟨⟨⟨⟨a, b⟩, c⟩, d⟩, e⟩, f⟩
theorem isDateB_f {y m d : Int} (h : ¬ (2000 ≤ y ∧ y ≤ 9999 ∧ 1 ≤ m ∧ m ≤ 12 ∧ 1 ≤ d ∧ d ≤ lengthOf y m)) : isDateB y m d = false := by
  cases q : isDateB y m d with
  | false => rfl
  | true => exact absurd (isDateB_iff.mp q) h
theorem k_is_date {y m d : Int} : call P (n + 3) F_is_date [.int y, .int m, .int d] S = .ok (.d (.bl (isDateB y m d))) S := by
  rw [run_is_date]
  by_cases a : 2000 ≤ y
  case neg =>
    have r : isDateB y m d = false := isDateB_f (by omega)
    simp (config := { maxSteps := 4000000 }) (disch := trivial) only [EVR, reduceIte, Bool.false_eq_true, Bool.true_eq_false, if_true, if_false, decide_true, decide_false, allD, isiD, isiOk, String.reduceBEq, String.reduceEq, Bool.or_true, Bool.true_or, Bool.or_false, Bool.false_or, Bool.and_true, Bool.true_and, Bool.and_false, Bool.false_and, Bool.not_true, Bool.not_false, Int.cast_ofNat_Int, Int.reduceBEq, Int.reduceBNe, Int.reduceEq, Int.reduceLT, Int.reduceLE, Int.reduceAdd, Int.reduceSub, Int.reduceMul, Int.reduceNeg, Int.reduceToNat, beq_self_eq_true, Nat.add_eq, Nat.reduceBEq, Nat.reduceAdd, Nat.reduceLeDiff, Nat.reduceLT, Nat.reduceEqDiff, Nat.reduceSub, Nat.reduceMul, b_is_date, c_FIRST_YEAR, c_LAST_YEAR, a, r]
  by_cases b : y ≤ 9999
  case neg =>
    have r : isDateB y m d = false := isDateB_f (by omega)
    simp (config := { maxSteps := 4000000 }) (disch := trivial) only [EVR, reduceIte, Bool.false_eq_true, Bool.true_eq_false, if_true, if_false, decide_true, decide_false, allD, isiD, isiOk, String.reduceBEq, String.reduceEq, Bool.or_true, Bool.true_or, Bool.or_false, Bool.false_or, Bool.and_true, Bool.true_and, Bool.and_false, Bool.false_and, Bool.not_true, Bool.not_false, Int.cast_ofNat_Int, Int.reduceBEq, Int.reduceBNe, Int.reduceEq, Int.reduceLT, Int.reduceLE, Int.reduceAdd, Int.reduceSub, Int.reduceMul, Int.reduceNeg, Int.reduceToNat, beq_self_eq_true, Nat.add_eq, Nat.reduceBEq, Nat.reduceAdd, Nat.reduceLeDiff, Nat.reduceLT, Nat.reduceEqDiff, Nat.reduceSub, Nat.reduceMul, b_is_date, c_FIRST_YEAR, c_LAST_YEAR, a, b, r]
  by_cases c : 1 ≤ m
  case neg =>
    have r : isDateB y m d = false := isDateB_f (by omega)
    simp (config := { maxSteps := 4000000 }) (disch := trivial) only [EVR, reduceIte, Bool.false_eq_true, Bool.true_eq_false, if_true, if_false, decide_true, decide_false, allD, isiD, isiOk, String.reduceBEq, String.reduceEq, Bool.or_true, Bool.true_or, Bool.or_false, Bool.false_or, Bool.and_true, Bool.true_and, Bool.and_false, Bool.false_and, Bool.not_true, Bool.not_false, Int.cast_ofNat_Int, Int.reduceBEq, Int.reduceBNe, Int.reduceEq, Int.reduceLT, Int.reduceLE, Int.reduceAdd, Int.reduceSub, Int.reduceMul, Int.reduceNeg, Int.reduceToNat, beq_self_eq_true, Nat.add_eq, Nat.reduceBEq, Nat.reduceAdd, Nat.reduceLeDiff, Nat.reduceLT, Nat.reduceEqDiff, Nat.reduceSub, Nat.reduceMul, b_is_date, c_FIRST_YEAR, c_LAST_YEAR, a, b, c, r]
  by_cases e : m ≤ 12
  case neg =>
    have r : isDateB y m d = false := isDateB_f (by omega)
    simp (config := { maxSteps := 4000000 }) (disch := trivial) only [EVR, reduceIte, Bool.false_eq_true, Bool.true_eq_false, if_true, if_false, decide_true, decide_false, allD, isiD, isiOk, String.reduceBEq, String.reduceEq, Bool.or_true, Bool.true_or, Bool.or_false, Bool.false_or, Bool.and_true, Bool.true_and, Bool.and_false, Bool.false_and, Bool.not_true, Bool.not_false, Int.cast_ofNat_Int, Int.reduceBEq, Int.reduceBNe, Int.reduceEq, Int.reduceLT, Int.reduceLE, Int.reduceAdd, Int.reduceSub, Int.reduceMul, Int.reduceNeg, Int.reduceToNat, beq_self_eq_true, Nat.add_eq, Nat.reduceBEq, Nat.reduceAdd, Nat.reduceLeDiff, Nat.reduceLT, Nat.reduceEqDiff, Nat.reduceSub, Nat.reduceMul, b_is_date, c_FIRST_YEAR, c_LAST_YEAR, a, b, c, e, r]
  have kl := fun S => k_length_of (n := n) (S := S) (y := y) c e
  by_cases f : 1 ≤ d
  case neg =>
    have r : isDateB y m d = false := isDateB_f (by omega)
    simp (config := { maxSteps := 4000000 }) (disch := trivial) only [EVR, reduceIte, Bool.false_eq_true, Bool.true_eq_false, if_true, if_false, decide_true, decide_false, allD, isiD, isiOk, String.reduceBEq, String.reduceEq, Bool.or_true, Bool.true_or, Bool.or_false, Bool.false_or, Bool.and_true, Bool.true_and, Bool.and_false, Bool.false_and, Bool.not_true, Bool.not_false, Int.cast_ofNat_Int, Int.reduceBEq, Int.reduceBNe, Int.reduceEq, Int.reduceLT, Int.reduceLE, Int.reduceAdd, Int.reduceSub, Int.reduceMul, Int.reduceNeg, Int.reduceToNat, beq_self_eq_true, Nat.add_eq, Nat.reduceBEq, Nat.reduceAdd, Nat.reduceLeDiff, Nat.reduceLT, Nat.reduceEqDiff, Nat.reduceSub, Nat.reduceMul, b_is_date, c_FIRST_YEAR, c_LAST_YEAR, a, b, c, e, f, kl, r]
  by_cases g : d ≤ lengthOf y m
  · have r : isDateB y m d = true := isDateB_iff.mpr ⟨a, b, c, e, f, g⟩
    simp (config := { maxSteps := 4000000 }) (disch := trivial) only [EVR, reduceIte, Bool.false_eq_true, Bool.true_eq_false, if_true, if_false, decide_true, decide_false, allD, isiD, isiOk, String.reduceBEq, String.reduceEq, Bool.or_true, Bool.true_or, Bool.or_false, Bool.false_or, Bool.and_true, Bool.true_and, Bool.and_false, Bool.false_and, Bool.not_true, Bool.not_false, Int.cast_ofNat_Int, Int.reduceBEq, Int.reduceBNe, Int.reduceEq, Int.reduceLT, Int.reduceLE, Int.reduceAdd, Int.reduceSub, Int.reduceMul, Int.reduceNeg, Int.reduceToNat, beq_self_eq_true, Nat.add_eq, Nat.reduceBEq, Nat.reduceAdd, Nat.reduceLeDiff, Nat.reduceLT, Nat.reduceEqDiff, Nat.reduceSub, Nat.reduceMul, b_is_date, c_FIRST_YEAR, c_LAST_YEAR, a, b, c, e, f, g, kl, r]
  · have r : isDateB y m d = false := isDateB_f (by omega)
    simp (config := { maxSteps := 4000000 }) (disch := trivial) only [EVR, reduceIte, Bool.false_eq_true, Bool.true_eq_false, if_true, if_false, decide_true, decide_false, allD, isiD, isiOk, String.reduceBEq, String.reduceEq, Bool.or_true, Bool.true_or, Bool.or_false, Bool.false_or, Bool.and_true, Bool.true_and, Bool.and_false, Bool.false_and, Bool.not_true, Bool.not_false, Int.cast_ofNat_Int, Int.reduceBEq, Int.reduceBNe, Int.reduceEq, Int.reduceLT, Int.reduceLE, Int.reduceAdd, Int.reduceSub, Int.reduceMul, Int.reduceNeg, Int.reduceToNat, beq_self_eq_true, Nat.add_eq, Nat.reduceBEq, Nat.reduceAdd, Nat.reduceLeDiff, Nat.reduceLT, Nat.reduceEqDiff, Nat.reduceSub, Nat.reduceMul, b_is_date, c_FIRST_YEAR, c_LAST_YEAR, a, b, c, e, f, g, kl, r]
theorem k_day_of {y m d : Int} (h : isDateB y m d = true) : call P (n + 4) F_day_of [.int y, .int m, .int d] S = .ok (.d (.int (dayAt y m d))) S := by
  rw [run_day_of]
  obtain ⟨a, b, c, e, f, g⟩ := isDateB_iff.mp h
  have k1 := fun S => k_day_at (n := n) (S := S) (y := y) (m := m) (d := d) c e (by omega) (by omega)
  simp (config := { maxSteps := 4000000 }) (disch := trivial) only [EVR, reduceIte, Bool.false_eq_true, Bool.true_eq_false, if_true, if_false, decide_true, decide_false, allD, isiD, isiOk, String.reduceBEq, String.reduceEq, Bool.or_true, Bool.true_or, Bool.or_false, Bool.false_or, Bool.and_true, Bool.true_and, Bool.and_false, Bool.false_and, Bool.not_true, Bool.not_false, Int.cast_ofNat_Int, Int.reduceBEq, Int.reduceBNe, Int.reduceEq, Int.reduceLT, Int.reduceLE, Int.reduceAdd, Int.reduceSub, Int.reduceMul, Int.reduceNeg, Int.reduceToNat, beq_self_eq_true, Nat.add_eq, Nat.reduceBEq, Nat.reduceAdd, Nat.reduceLeDiff, Nat.reduceLT, Nat.reduceEqDiff, Nat.reduceSub, Nat.reduceMul, b_day_of, k_is_date, h, k1]
theorem k_day_of_x {y m d : Int} (h : isDateB y m d = false) : call P (n + 4) F_day_of [.int y, .int m, .int d] S = .exc (.exc "NoDay" []) S := by
  rw [run_day_of]
  simp (config := { maxSteps := 4000000 }) (disch := trivial) only [EVR, reduceIte, Bool.false_eq_true, Bool.true_eq_false, if_true, if_false, decide_true, decide_false, allD, isiD, isiOk, String.reduceBEq, String.reduceEq, Bool.or_true, Bool.true_or, Bool.or_false, Bool.false_or, Bool.and_true, Bool.true_and, Bool.and_false, Bool.false_and, Bool.not_true, Bool.not_false, Int.cast_ofNat_Int, Int.reduceBEq, Int.reduceBNe, Int.reduceEq, Int.reduceLT, Int.reduceLE, Int.reduceAdd, Int.reduceSub, Int.reduceMul, Int.reduceNeg, Int.reduceToNat, beq_self_eq_true, Nat.add_eq, Nat.reduceBEq, Nat.reduceAdd, Nat.reduceLeDiff, Nat.reduceLT, Nat.reduceEqDiff, Nat.reduceSub, Nat.reduceMul, b_day_of, k_is_date, h]
theorem k_whole {z : Int} : call P (n + 1) F__law_whole [.int z] S = .ok (.d (.bl true)) S := by
  rw [run__law_whole]
  simp (config := { maxSteps := 4000000 }) (disch := trivial) only [EVR, reduceIte, Bool.false_eq_true, Bool.true_eq_false, if_true, if_false, decide_true, decide_false, allD, isiD, isiOk, String.reduceBEq, String.reduceEq, Bool.or_true, Bool.true_or, Bool.or_false, Bool.false_or, Bool.and_true, Bool.true_and, Bool.and_false, Bool.false_and, Bool.not_true, Bool.not_false, Int.cast_ofNat_Int, Int.reduceBEq, Int.reduceBNe, Int.reduceEq, Int.reduceLT, Int.reduceLE, Int.reduceAdd, Int.reduceSub, Int.reduceMul, Int.reduceNeg, Int.reduceToNat, beq_self_eq_true, Nat.add_eq, Nat.reduceBEq, Nat.reduceAdd, Nat.reduceLeDiff, Nat.reduceLT, Nat.reduceEqDiff, Nat.reduceSub, Nat.reduceMul, b__law_whole]
theorem vw_x {c : String} {l : List (String × D)} : vw S (.exc c l) = .exc c l := rfl
theorem k_refused {y m d : Int} (h : isDateB y m d = false) : call P (n + 5) F__law_refused [.tup [.int y, .int m, .int d]] S = .ok (.d (.bl true)) S := by
  rw [run__law_refused]
  have i0 : atI [D.int y, .int m, .int d] 0 = some (.int y) := rfl
  have i1 : atI [D.int y, .int m, .int d] 1 = some (.int m) := rfl
  have i2 : atI [D.int y, .int m, .int d] 2 = some (.int d) := rfl
  simp (config := { maxSteps := 4000000 }) (disch := trivial) only [EVR, reduceIte, Bool.false_eq_true, Bool.true_eq_false, if_true, if_false, decide_true, decide_false, allD, isiD, isiOk, String.reduceBEq, String.reduceEq, Bool.or_true, Bool.true_or, Bool.or_false, Bool.false_or, Bool.and_true, Bool.true_and, Bool.and_false, Bool.false_and, Bool.not_true, Bool.not_false, Int.cast_ofNat_Int, Int.reduceBEq, Int.reduceBNe, Int.reduceEq, Int.reduceLT, Int.reduceLE, Int.reduceAdd, Int.reduceSub, Int.reduceMul, Int.reduceNeg, Int.reduceToNat, beq_self_eq_true, Nat.add_eq, Nat.reduceBEq, Nat.reduceAdd, Nat.reduceLeDiff, Nat.reduceLT, Nat.reduceEqDiff, Nat.reduceSub, Nat.reduceMul, b__law_refused, i0, i1, i2, k_day_of_x, h, vw_x, EXC]
theorem cmp3 {a b c : Int} : cmpD .eq (.tup [.int a, .int b, .int c]) (.tup [.int a, .int b, .int c]) S = .ok true S := by
  have h1 : eqOk (.tup [.int a, .int b, .int c]) (.tup [.int a, .int b, .int c]) = true := rfl
  have h2 : eqv (.tup [.int a, .int b, .int c]) (.tup [.int a, .int b, .int c]) = true := by simp [eqv, eqvs]
  unfold cmpD
  rw [h1, h2]
  rfl
theorem pick6 {a b c d e f : D} {i : Int} (h0 : 0 ≤ i) (h1 : i < 6) : ∃ z, atI [a, b, c, d, e, f] i = some z ∧ (z = a ∨ z = b ∨ z = c ∨ z = d ∨ z = e ∨ z = f) := by
  have : i = 0 ∨ i = 1 ∨ i = 2 ∨ i = 3 ∨ i = 4 ∨ i = 5 := by omega
  rcases this with rfl | rfl | rfl | rfl | rfl | rfl
  · exact ⟨a, rfl, .inl rfl⟩
  · exact ⟨b, rfl, .inr (.inl rfl)⟩
  · exact ⟨c, rfl, .inr (.inr (.inl rfl))⟩
  · exact ⟨d, rfl, .inr (.inr (.inr (.inl rfl)))⟩
  · exact ⟨e, rfl, .inr (.inr (.inr (.inr (.inl rfl))))⟩
  · exact ⟨f, rfl, .inr (.inr (.inr (.inr (.inr rfl))))⟩
theorem pick6i {a b c d e f : Int} {i : Int} (h0 : 0 ≤ i) (h1 : i < 6) : ∃ z, atI [D.int a, .int b, .int c, .int d, .int e, .int f] i = some (.int z) ∧ (z = a ∨ z = b ∨ z = c ∨ z = d ∨ z = e ∨ z = f) := by
  obtain ⟨z, h, q⟩ := pick6 (a := D.int a) (b := .int b) (c := .int c) (d := .int d) (e := .int e) (f := .int f) h0 h1
  rcases q with rfl | rfl | rfl | rfl | rfl | rfl
  · exact ⟨a, h, .inl rfl⟩
  · exact ⟨b, h, .inr (.inl rfl)⟩
  · exact ⟨c, h, .inr (.inr (.inl rfl))⟩
  · exact ⟨d, h, .inr (.inr (.inr (.inl rfl)))⟩
  · exact ⟨e, h, .inr (.inr (.inr (.inr (.inl rfl))))⟩
  · exact ⟨f, h, .inr (.inr (.inr (.inr (.inr rfl))))⟩
theorem len_le {y m : Int} (h1 : 1 ≤ m) (h2 : m ≤ 12) : lengthOf y m ≤ 31 := by
  have : m = 1 ∨ m = 2 ∨ m = 3 ∨ m = 4 ∨ m = 5 ∨ m = 6 ∨ m = 7 ∨ m = 8 ∨ m = 9 ∨ m = 10 ∨ m = 11 ∨ m = 12 := by omega
  cases q : isLong y <;> rcases this with rfl | rfl | rfl | rfl | rfl | rfl | rfl | rfl | rfl | rfl | rfl | rfl <;> simp [lengthOf, lens, q]
theorem k_no_date {v y m d : Int} (v0 : 0 ≤ v) (hy : 2000 ≤ y ∧ y ≤ 9999) (hm : 1 ≤ m ∧ m ≤ 12) (hd : 1 ≤ d ∧ d ≤ lengthOf y m) : ∃ y' m' d' v', isDateB y' m' d' = false ∧ 0 ≤ v' ∧ call P (n + 2) F__law_no_date [.tup [.int y, .int m, .int d], .ref S.length] (S ++ [.lst [.int v]]) = .ok (.d (.tup [.int y', .int m', .int d'])) (S ++ [.lst [.int v']]) := by
  have l1 := len_pos (y := y) hm.1 hm.2
  have l2 := len_le (y := y) hm.1 hm.2
  obtain ⟨v1, e1⟩ : ∃ x, v / 6 = x := ⟨_, rfl⟩
  obtain ⟨v2, e2⟩ : ∃ x, v1 / 6 = x := ⟨_, rfl⟩
  obtain ⟨v3, e3⟩ : ∃ x, v2 / 100 = x := ⟨_, rfl⟩
  obtain ⟨v4, e4⟩ : ∃ x, v3 / 6 = x := ⟨_, rfl⟩
  obtain ⟨v5, e5⟩ : ∃ x, v4 / 6 = x := ⟨_, rfl⟩
  have b1 : 0 ≤ v1 := by omega
  have b2 : 0 ≤ v2 := by omega
  have b3 : 0 ≤ v3 := by omega
  have b4 : 0 ≤ v4 := by omega
  have b5 : 0 ≤ v5 := by omega
  obtain ⟨m1, p1, q1⟩ := pick6i (a := 0) (b := 13) (c := -1) (d := 0 - m) (e := 12 + m) (f := 1000000000) (i := v % 6) (by omega) (by omega)
  obtain ⟨d1, p2, q2⟩ := pick6i (a := 0) (b := lengthOf y m + 1) (c := 32) (d := -1) (e := 0 - d) (f := 100 + d) (i := v1 % 6) (by omega) (by omega)
  obtain ⟨y1, p3, q3⟩ := pick6i (a := 1999) (b := 10000) (c := 0) (d := 0 - y) (e := 1000000000) (f := 1900 + v2 % 100) (i := v3 % 6) (by omega) (by omega)
  have r1 : ¬ (1 ≤ m1 ∧ m1 ≤ 12) := by omega
  have r2 : ¬ (1 ≤ d1 ∧ d1 ≤ lengthOf y m) := by omega
  have r3 : ¬ (2000 ≤ y1 ∧ y1 ≤ 9999) := by omega
  obtain ⟨t, p4, q4⟩ := pick6 (a := D.tup [.int y, .int m1, .int d]) (b := .tup [.int y, .int m, .int d1]) (c := .tup [.int y1, .int m, .int d]) (d := .tup [.int y1, .int m1, .int d]) (e := .tup [.int y, .int m1, .int d1]) (f := .tup [.int y1, .int m, .int d1]) (i := v4 % 6) (by omega) (by omega)
  have ⟨y', m', d', et, hb⟩ : ∃ y' m' d', t = .tup [.int y', .int m', .int d'] ∧ isDateB y' m' d' = false := by
    rcases q4 with h | h | h | h | h | h
    · exact ⟨_, _, _, h, isDateB_f fun z => r1 ⟨z.2.2.1, z.2.2.2.1⟩⟩
    · exact ⟨_, _, _, h, isDateB_f fun z => r2 ⟨z.2.2.2.2.1, z.2.2.2.2.2⟩⟩
    · exact ⟨_, _, _, h, isDateB_f fun z => r3 ⟨z.1, z.2.1⟩⟩
    · exact ⟨_, _, _, h, isDateB_f fun z => r3 ⟨z.1, z.2.1⟩⟩
    · exact ⟨_, _, _, h, isDateB_f fun z => r1 ⟨z.2.2.1, z.2.2.2.1⟩⟩
    · exact ⟨_, _, _, h, isDateB_f fun z => r3 ⟨z.1, z.2.1⟩⟩
  subst et
  refine ⟨y', m', d', v5, hb, b5, ?_⟩
  have kl := fun S => k_lawlen (n := n) (S := S) (y := y) hm.1 hm.2
  have pw : powOk 10 9 = true := rfl
  rw [run__law_no_date]
  simp (config := { maxSteps := 4000000 }) (disch := trivial) only [EVR, reduceIte, Bool.false_eq_true, Bool.true_eq_false, if_true, if_false, decide_true, decide_false, allD, isiD, isiOk, String.reduceBEq, String.reduceEq, Bool.or_true, Bool.true_or, Bool.or_false, Bool.false_or, Bool.and_true, Bool.true_and, Bool.and_false, Bool.false_and, Bool.not_true, Bool.not_false, Int.cast_ofNat_Int, Int.reduceBEq, Int.reduceBNe, Int.reduceEq, Int.reduceLT, Int.reduceLE, Int.reduceAdd, Int.reduceSub, Int.reduceMul, Int.reduceNeg, Int.reduceToNat, beq_self_eq_true, Nat.add_eq, Nat.reduceBEq, Nat.reduceAdd, Nat.reduceLeDiff, Nat.reduceLT, Nat.reduceEqDiff, Nat.reduceSub, Nat.reduceMul, b__law_no_date, k_take, kl, e1, e2, e3, e4, e5, p1, p2, p3, p4, pw, Int.reducePow, List.cons_append, List.nil_append]
theorem Good.lo {y m d x : Int} (g : Good y m d x) (h : 2000 ≤ y) (h2 : y ≤ 20000) : 0 ≤ x ∧ x ≤ 10000000 := by
  have gy := g.year
  have lo := ahead_mono (y := 2000) (y - 2000).toNat
  have e : (2000 : Int) + (((y - 2000).toNat : Nat) : Int) = y := by omega
  rw [e] at lo
  have up := ahead_up (y := 2000) (y + 1 - 2000).toNat
  have e2 : (2000 : Int) + (((y + 1 - 2000).toNat : Nat) : Int) = y + 1 := by omega
  rw [e2] at up
  have z : daysAhead 2000 = 0 := rfl
  omega
theorem Good.next {y m d x : Int} (g : Good y m d x) : ∃ y' m' d', Good y' m' d' (x + 1) ∧ y ≤ y' ∧ y' ≤ y + 1 := by
  have h1 := g.m1
  have h2 := g.m2
  have e := g.x
  unfold dayAt at e
  by_cases a : d < lengthOf y m
  · refine ⟨y, m, d + 1, ⟨h1, h2, by have := g.d1; omega, by omega, ?_⟩, by omega, by omega⟩
    unfold dayAt
    omega
  · have ed : d = lengthOf y m := by have := g.d2; omega
    have le := len_eq (y := y) h1 h2
    by_cases b : m < 12
    · have l2 := len_pos (y := y) (m := m + 1) (by omega) (by omega)
      refine ⟨y, m + 1, 1, ⟨by omega, by omega, by omega, by omega, ?_⟩, by omega, by omega⟩
      unfold dayAt
      have : (m + 1 - 1).toNat = m.toNat := by omega
      rw [this]
      omega
    · have em : m = 12 := by omega
      subst em
      have l2 := len_pos (y := y + 1) (m := 1) (by omega) (by omega)
      refine ⟨y + 1, 1, 1, ⟨by omega, by omega, by omega, by omega, ?_⟩, by omega, by omega⟩
      unfold dayAt
      rw [year_len]
      have t : sumL y 12 = 365 + (if isLong y = true then 1 else 0) := by
        rw [sumL_eq (by omega)]
        cases isLong y <;> simp
      have z1 : (12 : Int).toNat = 12 := rfl
      have z2 : sumL (y + 1) ((1 : Int) - 1).toNat = 0 := rfl
      rw [z1, t] at le
      rw [z2]
      omega
theorem k_right {y m d x : Int} (g : Good y m d x) (hy : 2000 ≤ y) (hy2 : y ≤ 9999) : call P (n + 5) F__law_right [.tup [.int y, .int m, .int d]] S = .ok (.d (.bl true)) S := by
  have hb : isDateB y m d = true := isDateB_iff.mpr ⟨hy, hy2, g.m1, g.m2, g.d1, g.d2⟩
  have lo := g.lo hy (by omega)
  have ex := g.x
  have k1 := fun S => k_lawday (n := n + 2) (S := S) (y := y) (m := m) (d := d) g.m1 g.m2 (by omega) (by omega)
  have k2 := fun S => k_day_of (n := n) (S := S) hb
  have k3 := fun S => k_date_of (n := n + 1) (S := S) g lo.1 (by omega)
  have k4 := fun S z => k_whole (n := n + 3) (S := S) (z := z)
  rw [← ex] at k1 k2
  have i0 : atI [D.int y, .int m, .int d] 0 = some (.int y) := rfl
  have i1 : atI [D.int y, .int m, .int d] 1 = some (.int m) := rfl
  have i2 : atI [D.int y, .int m, .int d] 2 = some (.int d) := rfl
  rw [run__law_right]
  simp (config := { maxSteps := 4000000 }) (disch := trivial) only [EVR, reduceIte, Bool.false_eq_true, Bool.true_eq_false, if_true, if_false, decide_true, decide_false, allD, isiD, isiOk, String.reduceBEq, String.reduceEq, Bool.or_true, Bool.true_or, Bool.or_false, Bool.false_or, Bool.and_true, Bool.true_and, Bool.and_false, Bool.false_and, Bool.not_true, Bool.not_false, Int.cast_ofNat_Int, Int.reduceBEq, Int.reduceBNe, Int.reduceEq, Int.reduceLT, Int.reduceLE, Int.reduceAdd, Int.reduceSub, Int.reduceMul, Int.reduceNeg, Int.reduceToNat, beq_self_eq_true, Nat.add_eq, Nat.reduceBEq, Nat.reduceAdd, Nat.reduceLeDiff, Nat.reduceLT, Nat.reduceEqDiff, Nat.reduceSub, Nat.reduceMul, b__law_right, m__law_right_1, k1, k2, k3, k4, i0, i1, i2, runF_cons, runF_nil, runC_cons, runC_nil, Option.toList_some, List.cons_append, List.nil_append, sg_l, sg_t, sg_s, sg_d, sg_i, sg_ii, sg_ll, sg_tt, sg_o, cmp3, beq_self_eq_true, bne_self_eq_false]
theorem step {ns : List Int} (hn : ∀ z ∈ ns, z.natAbs < 2 ^ 1048576) (hl : ns.length ≤ 63) {k : Int} (k0 : 0 ≤ k) (k1 : k ≤ 1000) (o2 o3 o4 o5 : Option W) : ∃ o2' o3' o4' o5' S', evSs (call P (n + 6)) l_law_1 [some (.d (.scr ns)), some (.d (.int k)), o2, o3, o4, o5] S = .ok (.nx [some (.d (.scr ns)), some (.d (.int k)), o2', o3', o4', o5']) S' := by
  obtain ⟨v, v0, c1⟩ := k_pack (n := n + 4) (S := S) hn hl k0 k1
  obtain ⟨M, eM, hM⟩ : ∃ M, atI [D.int 2273, .int 9999] (if (v % 4 == 0) = true then 1 else 0) = some (.int M) ∧ (M = 2273 ∨ M = 9999) := pick2 (by split <;> omega) (by split <;> omega)
  have w0 : 0 ≤ v / 4 := by omega
  obtain ⟨q, r, cq, cr, q0, r0, q1, r1⟩ : ∃ q r, 1 + (M - 2000) / 100 = q ∧ M - 1999 = r ∧ 0 < q ∧ 0 < r ∧ q < 100000 ∧ r < 100000 := ⟨_, _, rfl, rfl, by omega, by omega, by omega, by omega⟩
  obtain ⟨y, m, d, v1, hy, hm, hd, hv1, c2⟩ := k_drawn (n := n + 4) (S := S) w0 (M := M) (by omega) (by omega) cq cr q0 r0 q1 r1
  have hy : 2000 ≤ y ∧ y ≤ 9999 := ⟨hy.1, by omega⟩
  obtain ⟨x, hx⟩ : ∃ x, dayAt y m d = x := ⟨_, rfl⟩
  have g : Good y m d x := ⟨hm.1, hm.2, hd.1, hd.2, hx.symm⟩
  have lo := g.lo hy.1 (by omega)
  obtain ⟨y', m', d', g', y1, y2⟩ := g.next
  obtain ⟨a1, a2, a3, v2, hb, hv2, c3⟩ := k_no_date (n := n + 4) (S := S) hv1 hy hm hd
  have c4 := fun S => k_refused (n := n + 1) (S := S) hb
  have c5 := fun S => k_right (n := n + 1) (S := S) g hy.1 hy.2
  have c6 := fun S => k_lawday (n := n + 4) (S := S) (y := y) (m := m) (d := d) hm.1 hm.2 (by omega) (by omega)
  rw [hx] at c6
  have c7 := fun S => k_lawdate (n := n + 4) (S := S) g' (by omega) (by omega)
  obtain ⟨b1, b2, b3, v3, hb', hv3, c8⟩ := k_no_date (n := n + 4) (S := S) hv2 hy hm hd
  have c9 := fun S => k_refused (n := n + 1) (S := S) hb'
  have i0 : atI [D.int y', .int m', .int d'] 0 = some (.int y') := rfl
  have t4 := fun S v => k_take (n := n + 5) (S := S) (v := v) (s := 4) (by omega) (by omega)
  by_cases h : y' < 10000
  · have c10 := fun S => k_right (n := n + 1) (S := S) g' (by omega) (by omega)
    exact ⟨_, _, _, _, _, by simp (config := { maxSteps := 4000000 }) (disch := trivial) only [EVR, reduceIte, Bool.false_eq_true, Bool.true_eq_false, if_true, if_false, decide_true, decide_false, allD, isiD, isiOk, String.reduceBEq, String.reduceEq, Bool.or_true, Bool.true_or, Bool.or_false, Bool.false_or, Bool.and_true, Bool.true_and, Bool.and_false, Bool.false_and, Bool.not_true, Bool.not_false, Int.cast_ofNat_Int, Int.reduceBEq, Int.reduceBNe, Int.reduceEq, Int.reduceLT, Int.reduceLE, Int.reduceAdd, Int.reduceSub, Int.reduceMul, Int.reduceNeg, Int.reduceToNat, beq_self_eq_true, Nat.add_eq, Nat.reduceBEq, Nat.reduceAdd, Nat.reduceLeDiff, Nat.reduceLT, Nat.reduceEqDiff, Nat.reduceSub, Nat.reduceMul, l_law_1, c1, t4, eM, c2, c3, c4, c5, c6, c7, c8, c9, c10, i0, h] ; rfl⟩
  · exact ⟨_, _, _, _, _, by simp (config := { maxSteps := 4000000 }) (disch := trivial) only [EVR, reduceIte, Bool.false_eq_true, Bool.true_eq_false, if_true, if_false, decide_true, decide_false, allD, isiD, isiOk, String.reduceBEq, String.reduceEq, Bool.or_true, Bool.true_or, Bool.or_false, Bool.false_or, Bool.and_true, Bool.true_and, Bool.and_false, Bool.false_and, Bool.not_true, Bool.not_false, Int.cast_ofNat_Int, Int.reduceBEq, Int.reduceBNe, Int.reduceEq, Int.reduceLT, Int.reduceLE, Int.reduceAdd, Int.reduceSub, Int.reduceMul, Int.reduceNeg, Int.reduceToNat, beq_self_eq_true, Nat.add_eq, Nat.reduceBEq, Nat.reduceAdd, Nat.reduceLeDiff, Nat.reduceLT, Nat.reduceEqDiff, Nat.reduceSub, Nat.reduceMul, l_law_1, c1, t4, eM, c2, c3, c4, c5, c6, c7, c8, c9, i0, h] ; rfl⟩
theorem outer {ns : List Int} (hn : ∀ z ∈ ns, z.natAbs < 2 ^ 1048576) (hl : ns.length ≤ 63) {g : Sto → Prop} (hg : ∀ S, g S) : ∀ (ks : List Int) (o1 o2 o3 o4 o5 : Option W) (S : Sto), (∀ k ∈ ks, 0 ≤ k ∧ k ≤ 1000) →
    ∃ o1' o2' o3' o4' o5' S', runF (call P (n + 6)) [1] l_law_1 g (ks.map D.int) [some (.d (.scr ns)), o1, o2, o3, o4, o5] S = .ok (.nx [some (.d (.scr ns)), o1', o2', o3', o4', o5']) S'
  | [], o1, o2, o3, o4, o5, S, _ => ⟨o1, o2, o3, o4, o5, S, rfl⟩
  | k :: ks, o1, o2, o3, o4, o5, S, hk => by
    have hk0 := hk k List.mem_cons_self
    obtain ⟨q2, q3, q4, q5, S1, e1⟩ := step (n := n) (S := S) hn hl hk0.1 hk0.2 o2 o3 o4 o5
    obtain ⟨r1, r2, r3, r4, r5, S', e2⟩ := outer hn hl hg ks (some (.d (.int k))) q2 q3 q4 q5 S1 fun w hw => hk w (List.mem_cons_of_mem _ hw)
    refine ⟨r1, r2, r3, r4, r5, S', ?_⟩
    rw [← e2, List.map_cons, runF_cons, st_one]
    simp only [put_succ, put_zero]
    rw [e1]
    simp only [loop_nx]
    rw [if_pos (hg _)]
theorem pure_law (ns : List Int) (hl : ns.length ≤ 63) (hn : ∀ z ∈ ns, z.natAbs < 2 ^ 1048576) : ∃ S, call (progT tab) 60 F_law [.scr ns] [] = .ok (.d (.bl true)) S := by
  have hK : ∃ K : Int, (if 1 < (if 16 < (ns.length : Int) then 16 else (ns.length : Int)) then (if 16 < (ns.length : Int) then 16 else (ns.length : Int)) else 1) = K ∧ 1 ≤ K ∧ K ≤ 16 := ⟨_, rfl, by split <;> omega, by split <;> (try split) <;> omega⟩
  obtain ⟨K, eK, K1, K2⟩ := hK
  have e4 : ((List.range (K - 0).toNat).map fun (i : Nat) => 0 + (i : Int)).map D.int = rngD 0 K := by unfold rngD; rw [List.map_map]; rfl
  obtain ⟨r1, r2, r3, r4, r5, S', ih⟩ := outer (n := 53) hn hl (g := srcG [.d (.int K)] []) (fun S' w hw => by rw [List.mem_singleton.mp hw]; trivial) ((List.range (K - 0).toNat).map fun (i : Nat) => 0 + (i : Int)) none none none none none [] (fun k hk => by
    obtain ⟨i, hi, rfl⟩ := List.mem_map.mp hk
    have := List.mem_range.mp hi
    omega)
  rw [e4] at ih
  have k1 := fun S => k_day_of (n := 55) (S := S) (y := 2000) (m := 1) (d := 1) rfl
  have z1 : dayAt 2000 1 1 = 0 := rfl
  rw [z1] at k1
  have k2 := fun S => k_date_of (n := 56) (S := S) (y := 2000) (m := 1) (d := 1) (x := 0) ⟨by omega, by omega, by omega, by decide, z1.symm⟩ (by omega) (by omega)
  refine ⟨S', ?_⟩
  rw [run_law (n := 59)]
  have ln : blt1 .len (.scr ns) [] = .ok (.int ns.length) [] := rfl
  have mn : blt2 .min (.int ns.length) (.int 16) [] = .ok (.int (if (16 : Int) < (ns.length : Int) then 16 else (ns.length : Int))) [] := rfl
  have mx : ∀ x : Int, blt2 .max (.int 1) (.int x) [] = .ok (.int (if (1 : Int) < x then x else 1)) [] := fun _ => rfl
  have sr : srcD .range [.d (.int K)] [] = some (rngD 0 K) := src_rng1 (rngOk_in (by omega) (by omega) (by omega) (by omega) (by omega))
  simp (config := { maxSteps := 4000000 }) (disch := trivial) only [EVR, reduceIte, Bool.false_eq_true, Bool.true_eq_false, if_true, if_false, decide_true, decide_false, allD, isiD, isiOk, String.reduceBEq, String.reduceEq, Bool.or_true, Bool.true_or, Bool.or_false, Bool.false_or, Bool.and_true, Bool.true_and, Bool.and_false, Bool.false_and, Bool.not_true, Bool.not_false, Int.cast_ofNat_Int, Int.reduceBEq, Int.reduceBNe, Int.reduceEq, Int.reduceLT, Int.reduceLE, Int.reduceAdd, Int.reduceSub, Int.reduceMul, Int.reduceNeg, Int.reduceToNat, beq_self_eq_true, Nat.add_eq, Nat.reduceBEq, Nat.reduceAdd, Nat.reduceLeDiff, Nat.reduceLT, Nat.reduceEqDiff, Nat.reduceSub, Nat.reduceMul, b_law, ln, mn, mx, eK, sr, ih, k1, k2, cmp3, beq_self_eq_true]
end Ev
open PySem PySem.W PySem.Calls PyProof.Rows
theorem PySem.Challenge.cw_goneday_k01_days_and_dates_holds : PySem.Challenge.rw_goneday_k01_days_and_dates.Holds := by
  w_on; o_law
  refine HandSHeadRun.head_any (r := OpenLaw.row PySem.Challenge.rw_goneday_k01_days_and_dates) (q := view (OpenLaw.row PySem.Challenge.rw_goneday_k01_days_and_dates).prog [38]) (H := HT.hk) (ob := HT.ob) (M := 40000) (loose := HT.nm) (d := HandSHeadRun.topDef (OpenLaw.row PySem.Challenge.rw_goneday_k01_days_and_dates).prog 38) (kwd := []) HT.ob_eq
    (by kernel_rfl) (fun s => by kernel_rfl) HT.run (by kernel_rfl) (by kernel_rfl) (by kernel_rfl) (by rfl) (by first | assumption | decide +kernel) (by decide +kernel) ⟨rfl, rfl, rfl, rfl, rfl, by decide +kernel⟩ ?hw ?hc
  case hw => w_witness2
  case hc =>
    refine Ev.walk_ofEB (l := PySem.Challenge.rw_goneday_k01_days_and_dates) (n := 63) (k := 3 * 60) (x := "_law_script") (CX := fun w => L2.CX (PySem.Challenge.rw_goneday_k01_days_and_dates).prog w) rfl (by decide) (by kernel_rfl) ⟨rfl, by decide, by decide⟩ ?F (fun _ _ _ _ _ z => Ev.cx_none z)
    intro w mg fa h Y G hmg0
    obtain ⟨K, KX, c⟩ := Y
    have hmg : mg (PySem.Str.ofString "law") = some (.ref fa) := by
      have e : (HandSHeadRun.topDef (OpenLaw.row PySem.Challenge.rw_goneday_k01_days_and_dates).prog 38).name = (PySem.Str.ofString "law") := by kernel_rfl
      rw [← e]
      exact hmg0
    obtain ⟨fd, hb, hF⟩ := Ev.law_fn (P := (PySem.Challenge.rw_goneday_k01_days_and_dates).prog) (w := w) (j := Ev.F_law) (n := 60) (e := HT.lawE) (x := "_law_script") HT.chk rfl rfl rfl (by kernel_rfl) KX G c hmg
    refine ⟨K, fd, _, KX, hb, fun H a ns hl hbits hO hS => ?_, hF⟩
    obtain ⟨S, e⟩ := Ev.pure_law ns hl fun z hz => Ev.bits_lt (hbits z hz)
    refine ⟨[], [.scr ns], [], ⟨Ev.only_scr rfl hO hS, True.intro⟩, ⟨rfl, List.nodup_nil, fun i a c h => by simp at h⟩, ?_⟩
    rw [HT.prog_eq, e]
    exact fun as' H' v st hv hS' => hv
