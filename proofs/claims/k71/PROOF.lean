import PyProof.Rows.All
import HandS.ForMost
import HandS.ForExc
import HandS.Wide
import HandS.TupAny
import HandS.TupMul
import HandS.Sort
import HandS.Style
import HandS.Flow
import HandS.IsInst
import HandS.HotCalls
import HandS.Deep
import HandS.Dict
import HandS.Codes
import HandS.Iter
import HandS.Lambda
import KE.DatumOrd
import HandS.More
import HandS.SortInts
import KE.KTupSum
import HandS.Zip
import KE.GoesMore
import KE.GoesEnum
import HandS.Hot
import HandS.ExcIs
import HandS.ExcCtx
import HandS.NoneIn
import KE.KUnpack
import HandS.Comp
import HandS.EndTab
import HandS.RaiseMore
import HandS.IterVal
import KE.KxField
import PyProof.DictUpdate
import HandS.Replace
import HandS.Conv
import KE.KDictZip
import HandS.ListItems
import HandS.WordsExc
import HandS.HeadWalk
import PySem.Challenge.RW_earthworks_k71_errors_of_bags
set_option Elab.async false
set_option linter.all false
set_option maxRecDepth 100000
set_option maxHeartbeats 4000000
/-! EW, part 1: a small language of values, its interpreter. -/
namespace EW

/-- values: scalars and tuples by value, lists by value (never changed), lists that change as cells -/
inductive D where
  | non | bl (b : Bool) | int (i : Int) | str (s : List Nat)
  | tup (l : List D) | lst (l : List D) | scr (l : List Int)
  | cell (n : Nat) | fn (n : Nat) | cls (n : Nat) | exn (c : Nat)
  /-- a dict by value: whether its keys are tuples, its keys, its values -/
  | dic (t : Bool) (ks vs : List D)
deriving Inhabited

inductive Cell where
  | lst (l : List D)
  | dic (t : Bool) (ks vs : List D)
deriving Inhabited

abbrev Hs := List Cell
abbrev Env := List (Option D)

/-- an exception: its class, its fields -/
structure Xc where
  c : Nat
  args : List D

inductive R (α : Type) where
  | ok (a : α) (S : Hs)
  | exc (x : Xc) (S : Hs)
  | bad

def R.bind {α β : Type} (r : R α) (f : α → Hs → R β) : R β :=
  match r with
  | .ok a S => f a S
  | .exc x S => .exc x S
  | .bad => .bad

/-- nothing is raised -/
def R.calm {α : Type} (r : R α) : R α := match r with
  | .exc _ _ => .bad
  | r => r

def R.of {α : Type} (S : Hs) (o : Option α) : R α := match o with
  | some a => .ok a S
  | none => .bad

inductive Op where
  | add | sub | mul | fdiv | mod | pow | shl | shr | band | bor
inductive Cp where
  | eq | ne | lt | le | gt | ge | is | isnt | isin | notin
/-- built-in functions and types that are called -/
inductive Bi where
  | len | abs | int | bool | str | tuple | list | sum | all | any | min | max | min2 | max2 | sorted | set | dict
/-- methods -/
inductive Mt where
  | append | pop | get | get2 | update | items | values | join | split | index | count
/-- types of isinstance -/
inductive Ty where
  | int | str | bool | tuple | list | dict | cls (n : Nat)

mutual
inductive E where
  | non | bl (b : Bool) | int (i : Int) | str (s : List Nat)
  | var (i : Nat) | glo (d : D)
  | bin (o : Op) (a b : E) | neg (a : E) | inv (a : E)
  | cmp (o : Cp) (a b : E) | chain (o o' : Cp) (a b c : E)
  | and (a b : E) | or (a b : E) | not (a : E) | ite (c a b : E)
  | tup (es : List E) | lst (es : List E) | mlst (es : List E) | mdic (t : Bool)
  | idx (a i : E) | slc (a : E) (lo hi : Option E) | rev (a : E)
  | call (f : Nat) (es : List E)
  | bi (b : Bi) (es : List E)
  | mth (m : Mt) (o : E) (es : List E) | get (o : E) (es : List E)
  | dcomp (own : List Nat) (t : T) (it : I) (c : Option E) (ke ve : E) | dupd (o e : E)
  | isi (a : E) (t : Ty)
  | callv (i : Nat) (fl : List Nat) (es : List E)
  | spl (o e : E) | sidx (o e : E) | lrng (a b : E) | lzip (a b : E)
  | word (d0 : D) (tb : List (Nat × D)) (e : E) | isx (i : Nat) (tb : List (Nat × Bool)) | join (a e : E)
  | comp (own : List Nat) (t : T) (it : I) (c : Option E) (e : E) | mcomp (own : List Nat) (t : T) (it : I) (c : Option E) (e : E)
inductive T where
  | nm (i : Nat) | tup (ts : List T) | sub (o i : E)
inductive I where
  | seq (e : E) | rng1 (a : E) | rng2 (a b : E) | enum (e : E) | zip (a b : E) | zip3 (a b c : E)
end

inductive S where
  | set (t : T) (e : E)
  | aug (i : Nat) (o : Op) (e : E)
  | expr (e : E)
  | ret (e : E)
  | retN
  | ifs (c : E) (a b : List S)
  | for_ (t : T) (it : I) (b : List S)
  | while_ (c : E) (b : List S)
  | brk | cnt | pass
  | raise (c : Nat)
  | raiseE (c : Nat) (e : E) | ext (i : Nat) (e : E) | bad

/-- a def: the number of parameters, of slots, its body; whether it hands back a list of its own that is changed later -/
structure Fn where
  np : Nat
  ns : Nat
  mt : Bool
  body : List S

/-! ### values -/
def lim : Nat := 16777216

mutual
/-- no cell within, of depth at most n: comparable data -/
def D.flat : D → Bool
  | .cell _ => false
  | .exn _ => false
  | .tup l => D.flats l
  | .lst l => D.flats l
  | .dic _ ks vs => D.flats ks && D.flats vs
  | _ => true
def D.flats : List D → Bool
  | [] => true
  | d :: r => d.flat && D.flats r
end

mutual
/-- data for ==, nested at most n deep -/
def D.shp : Nat → D → Bool
  | _, .non => true
  | _, .bl _ => true
  | _, .int _ => true
  | _, .str _ => true
  | n + 1, .tup l => D.shps n l
  | n + 1, .lst l => D.shps n l
  | _, _ => false
def D.shps : Nat → List D → Bool
  | _, [] => true
  | n, d :: r => d.shp n && D.shps n r
end

def eqL : List Nat → List Nat → Bool
  | [], [] => true
  | a :: r, b :: s => Nat.beq a b && eqL r s
  | _, _ => false

mutual
def eqD : D → D → Bool
  | .non, .non => true
  | .bl a, .bl b => a == b
  | .bl a, .int j => (if a then 1 else 0) == j
  | .int i, .bl b => i == (if b then 1 else 0)
  | .int i, .int j => i == j
  | .str x, .str y => eqL x y
  | .lst xs, .lst ys => eqDs xs ys
  | .tup xs, .tup ys => eqDs xs ys
  | _, _ => false
def eqDs : List D → List D → Bool
  | [], [] => true
  | x :: xs, y :: ys => eqD x y && eqDs xs ys
  | _, _ => false
end

/-- a list cell's items -/
def cellL (S : Hs) (n : Nat) : Option (List D) := match S[n]? with
  | some (.lst l) => some l
  | _ => none
/-- a dict cell -/
def cellD (S : Hs) (n : Nat) : Option (Bool × List D × List D) := match S[n]? with
  | some (.dic t ks vs) => some (t, ks, vs)
  | _ => none
/-- a key of a dict: a number or a text -/
def key1 : D → Bool
  | .int _ => true
  | .str _ => true
  | _ => false
def keyOk (t : Bool) : D → Bool
  | .tup l => t && l.all key1
  | d => !t && key1 d
/-- the value at a key -/
def lookD : List D → List D → D → Option D
  | k :: ks, v :: vs, d => if eqD k d then some v else lookD ks vs d
  | _, _, _ => none
/-- a value stored at a key: in its place, or at the end -/
def replD : List D → List D → D → D → List D
  | k :: ks, v :: vs, d, x => (if eqD k d then x else v) :: replD ks vs d x
  | _, vs, _, _ => vs
def storeD (ks vs : List D) (d x : D) : List D × List D :=
  if ks.any fun k => eqD k d then (ks, replD ks vs d x) else (ks ++ [d], vs ++ [x])
/-- a dict's look: none where the key is of another kind -/
def getK (t : Bool) (ks vs : List D) (d : D) : Option (Option D) := if !t && key1 d then some (lookD ks vs d) else none
/-- the parts of a dict -/
def dicP (d : D) (S : Hs) : Option (Bool × List D × List D) := match d with
  | .dic t ks vs => some (t, ks, vs)
  | .cell n => cellD S n
  | _ => none
/-- a cell at the top read as a list by value -/
def topL (S : Hs) (d : D) : Option D := match d with
  | .cell n => (cellL S n).map D.lst
  | d => some d

def tru (d : D) (S : Hs) : Option Bool := match d with
  | .non => some false
  | .bl b => some b
  | .int i => some (i != 0)
  | .str s => some (!s.isEmpty)
  | .tup l => some (!l.isEmpty)
  | .lst l => some (!l.isEmpty)
  | .cell n => (cellL S n).map fun l => !l.isEmpty
  | _ => none

def small (i : Int) : Bool := Nat.ble i.natAbs 18446744073709551615
def mulOk (i j : Int) : Bool := small i || small j || Nat.blt (i.natAbs.log2 + j.natAbs.log2) 1000000

def fitL (n : Nat) : Bool := Nat.ble n lim

def rep {α : Type} : Nat → List α → List α
  | 0, _ => []
  | n + 1, l => l ++ rep n l

/-- the items of a list -/
def listD (d : D) (S : Hs) : Option (List D) := match d with
  | .lst l => some l
  | .cell n => cellL S n
  | _ => none

/-- two lists joined -/
def addL (d e : D) (S : Hs) : Option D := match listD d S, listD e S with
  | some x, some y => if fitL (x.length + y.length) then some (.lst (x ++ y)) else none
  | _, _ => none

def binD (o : Op) (a b : D) (S : Hs) : Option D :=
  match o with
  | .add => match a, b with
    | .int i, .int j => some (.int (i + j))
    | .str x, .str y => if fitL (x.length + y.length) then some (.str (x ++ y)) else none
    | .tup x, .tup y => if fitL (x.length + y.length) then some (.tup (x ++ y)) else none
    | _, _ => addL a b S
  | .sub => match a, b with
    | .int i, .int j => some (.int (i - j))
    | _, _ => none
  | .mul => match a, b with
    | .int i, .int j => if mulOk i j then some (.int (i * j)) else none
    | .lst x, .int k => if Nat.ble k.natAbs 9000000000000000000 && fitL (x.length * k.toNat) then some (.lst (rep k.toNat x)) else none
    | .tup x, .int k => if k == 1 then some (.tup x) else if (!x.isEmpty) && Nat.ble 2 k.toNat && Nat.ble k.toNat 1000 && Nat.ble x.length 1000 then some (.tup (rep k.toNat x)) else none
    | _, _ => none
  | .fdiv => match a, b with
    | .int i, .int j =>
      if 0 < j then (if Nat.blt j.natAbs.log2 9000 then some (.int (i / j)) else none)
      else if j != 0 && Nat.blt j.natAbs 1073741824 then some (.int (i.fdiv j)) else none
    | _, _ => none
  | .mod => match a, b with
    | .int i, .int j => if 0 < j then some (.int (i % j)) else if j != 0 then some (.int (i.fmod j)) else none
    | _, _ => none
  | .pow => match a, b with
    | .int i, .int j => if decide (0 ≤ j) && Nat.ble j.toNat 1000000 && small i then some (.int (i ^ j.toNat)) else none
    | _, _ => none
  | .shl => match a, b with
    | .int i, .int j => if decide (0 ≤ j) && Nat.ble j.toNat 1000000 && small i then some (.int (i * 2 ^ j.toNat)) else none
    | _, _ => none
  | .shr => match a, b with
    | .int i, .int j => if decide (0 ≤ j) then some (.int (i / 2 ^ j.toNat)) else none
    | _, _ => none
  | _ => none

def isD (a b : D) : Option Bool := match b with
  | .non => match a with
    | .non => some true
    | _ => some false
  | .bl y => match a with
    | .bl x => some (x == y)
    | _ => none
  | _ => none

def ltL : List Nat → List Nat → Bool
  | [], [] => false
  | [], _ :: _ => true
  | _ :: _, [] => false
  | a :: r, b :: s => if Nat.blt a b then true else if Nat.beq a b then ltL r s else false

def inD (x : D) : List D → Bool
  | [] => false
  | y :: r => eqD y x || inD x r

/-- a member of a tuple or a list -/
def inS (a b : D) (S : Hs) : Option Bool := match b with
  | .tup l => if a.shp 60 && D.shps 60 l then some (inD a l) else none
  | .lst l => if a.shp 60 && D.shps 60 l then some (inD a l) else none
  | .cell n => match cellL S n with
    | some l => if a.shp 60 && D.shps 60 l then some (inD a l) else none
    | none => none
  | _ => none
/-- a member of a dict, of a sequence -/
def inA (a b : D) (S : Hs) : Option Bool := match dicP b S with
  | some (t, ks, vs) => (getK t ks vs a).map (·.isSome)
  | none => inS a b S
/-- a sign in a text -/
def inT (a b : D) (S : Hs) : Option Bool := match b with
  | .str l => match a with
    | .str [c] => some (l.contains c)
    | _ => none
  | _ => inA a b S
def cmpD (o : Cp) (a b : D) (S : Hs) : Option Bool :=
  match o with
  | .eq => match topL S a, topL S b with
    | some x, some y => if x.shp 60 && y.shp 60 then some (eqD x y) else none
    | _, _ => none
  | .ne => match topL S a, topL S b with
    | some x, some y => if x.shp 60 && y.shp 60 then some (!eqD x y) else none
    | _, _ => none
  | .lt => match a, b with
    | .int i, .int j => some (decide (i < j))
    | .str x, .str y => some (ltL x y)
    | _, _ => none
  | .le => match a, b with
    | .int i, .int j => some (decide (i ≤ j))
    | .str x, .str y => some (!ltL y x)
    | _, _ => none
  | .gt => match a, b with
    | .int i, .int j => some (decide (j < i))
    | .str x, .str y => some (ltL y x)
    | _, _ => none
  | .ge => match a, b with
    | .int i, .int j => some (decide (j ≤ i))
    | .str x, .str y => some (!ltL x y)
    | _, _ => none
  | .is => isD a b
  | .isnt => (isD a b).map (!·)
  | .isin => inT a b S
  | .notin => (inT a b S).map (!·)

def idxL (a i : D) (S : Hs) : Option D := match i with
  | .int k => match a with
    | .tup l => (L2.ixN l.length k).bind fun j => l[j]?
    | .lst l => (L2.ixN l.length k).bind fun j => l[j]?
    | .str l => (L2.ixN l.length k).bind fun j => (l[j]?).map fun c => .str [c]
    | .cell n => (cellL S n).bind fun l => (L2.ixN l.length k).bind fun j => l[j]?
    | _ => none
  | _ => none

/-- a subscript: of a dict, of a sequence -/
def idxD (a i : D) (S : Hs) : Option D := match dicP a S with
  | some (t, ks, vs) => (getK t ks vs i).join
  | none => idxL a i S

def cut {α : Type} (xs : List α) (lo hi : Option Int) : List α :=
  (xs.drop (HT.sIx xs.length 0 lo)).take (HT.sIx xs.length xs.length hi - HT.sIx xs.length 0 lo)
def slcD (a : D) (lo hi : Option Int) (S : Hs) : Option D := match a with
  | .tup l => some (.tup (cut l lo hi))
  | .lst l => some (.lst (cut l lo hi))
  | .str l => some (.str (cut l lo hi))
  | .cell n => (cellL S n).map fun l => .lst (cut l lo hi)
  | _ => none

def allInt : List D → Option (List Int)
  | [] => some []
  | .int i :: r => (allInt r).map (i :: ·)
  | _ :: _ => none
def allBl : List D → Option (List Bool)
  | [] => some []
  | .bl b :: r => (allBl r).map (b :: ·)
  | _ :: _ => none

def isiD (d : D) (t : Ty) (S : Hs) : Option Bool := match d with
  | .non => match t with | .cls _ => none | _ => some false
  | .bl _ => match t with | .int => some true | .bool => some true | .cls _ => none | _ => some false
  | .int _ => match t with | .int => some true | .cls _ => none | _ => some false
  | .str _ => match t with | .str => some true | .cls _ => none | _ => some false
  | .tup _ => match t with | .tuple => some true | .cls _ => none | _ => some false
  | .lst _ => match t with | .list => some true | .cls _ => none | _ => some false
  | .cell n => match S[n]? with
    | some (.lst _) => match t with | .list => some true | .cls _ => none | _ => some false
    | _ => none
  | _ => none

/-- sorted: numbers, texts -/
def insI (x : Int) : List Int → List Int
  | [] => [x]
  | y :: r => if x ≤ y then x :: y :: r else y :: insI x r
def sortI : List Int → List Int
  | [] => []
  | x :: r => insI x (sortI r)
def insS (x : List Nat) : List (List Nat) → List (List Nat)
  | [] => [x]
  | y :: r => if ltL y x then y :: insS x r else x :: y :: r
def sortS : List (List Nat) → List (List Nat)
  | [] => []
  | x :: r => insS x (sortS r)
def allStr : List D → Option (List (List Nat))
  | [] => some []
  | .str l :: r => (allStr r).map (l :: ·)
  | _ :: _ => none
def sortD (l : List D) : Option D := match allInt l with
  | some ns => some (.lst ((sortI ns).map .int))
  | none => match allStr l with
    | some ss => if Nat.blt ss.length 64 then some (.lst ((sortS ss).map .str)) else none
    | none => none
/-- a text of digits -/
def digs (l : List Nat) : Bool := l.all (fun c => decide (48 ≤ c) && decide (c ≤ 57)) && !l.isEmpty && Nat.ble l.length 640
def biD (b : Bi) (ds : List D) (S : Hs) : Option D :=
  match b with
  | .len => match ds with
    | [.str l] => some (.int (l.length : Nat))
    | [.tup l] => some (.int (l.length : Nat))
    | [.lst l] => some (.int (l.length : Nat))
    | [.scr l] => some (.int (l.length : Nat))
    | [.cell n] => match cellD S n with
      | some (t, ks, vs) => if t then none else some (.int (ks.length : Nat))
      | none => (cellL S n).map fun l => .int (l.length : Nat)
    | [.dic t ks _] => if t then none else some (.int (ks.length : Nat))
    | _ => none
  | .abs => match ds with
    | [.int i] => some (.int (if i < 0 then -i else i))
    | _ => none
  | .int => match ds with
    | [.int i] => some (.int i)
    | [.bl b] => some (.int (if b then 1 else 0))
    | [.str l] => if digs l then some (.int (PySem.NumText.digitsVal l : Nat)) else none
    | _ => none
  | .str => match ds with
    | [.int i] => if decide (0 ≤ i) && Nat.blt i.natAbs 10000000000 then some (.str (TL.numL i.natAbs)) else none
    | [.str l] => some (.str l)
    | _ => none
  | .tuple => match ds with
    | [.tup l] => some (.tup l)
    | [.lst l] => some (.tup l)
    | [.cell n] => (cellL S n).map .tup
    | _ => none
  | .list => match ds with
    | [.tup l] => some (.lst l)
    | [.lst l] => some (.lst l)
    | [.scr l] => some (.lst (l.map .int))
    | [d] => match dicP d S with
      | some (t, ks, _) => if t then none else some (.lst ks)
      | none => (listD d S).map .lst
    | _ => none
  | .sum => match ds with
    | [.tup l] => (allInt l).map fun l => .int l.sum
    | [d] => ((listD d S).bind allInt).map fun l => .int l.sum
    | _ => none
  | .all => match ds with
    | [d] => ((listD d S).bind allBl).map fun l => .bl (l.all id)
    | _ => none
  | .any => match ds with
    | [d] => ((listD d S).bind allBl).map fun l => .bl (l.any id)
    | _ => none
  | .min => match ds with
    | [.tup l] => match allInt l with
      | some (i :: r) => some (.int (r.foldl (fun a b => if b < a then b else a) i))
      | _ => none
    | [d] => match (listD d S).bind allInt with
      | some (i :: r) => some (.int (r.foldl (fun a b => if b < a then b else a) i))
      | _ => none
    | _ => none
  | .max => match ds with
    | [.tup l] => match allInt l with
      | some (i :: r) => some (.int (r.foldl (fun a b => if a < b then b else a) i))
      | _ => none
    | [d] => match (listD d S).bind allInt with
      | some (i :: r) => some (.int (r.foldl (fun a b => if a < b then b else a) i))
      | _ => none
    | _ => none
  | .sorted => match ds with
    | [d] => match dicP d S with
      | some (t, ks, _) => if !t && Nat.blt ks.length 64 then sortD ks else none
      | none => (listD d S).bind sortD
    | _ => none
  | .min2 => match ds with
    | [.int i, .int j] => some (.int (if j < i then j else i))
    | _ => none
  | .max2 => match ds with
    | [.int i, .int j] => some (.int (if j > i then j else i))
    | _ => none
  | _ => none

/-- store into a list cell -/
def putL (S : Hs) (n : Nat) (i : Int) (d : D) : Option Hs := match cellL S n with
  | some l => match L2.ixN l.length i with
    | some j => if d.flat then some (S.set n (.lst (l.set j d))) else none
    | none => none
  | none => none

/-- store into a dict cell -/
def putD (S : Hs) (n : Nat) (k d : D) : Option Hs := match cellD S n with
  | some (t, ks, vs) => if (!t && key1 k) && d.flat && Nat.blt ks.length lim then some (S.set n (.dic t (storeD ks vs k d).1 (storeD ks vs k d).2)) else none
  | none => none
/-- store into a cell -/
def putC (S : Hs) (n : Nat) (i d : D) : Option Hs := match i with
  | .int j => match cellL S n with
    | some _ => putL S n j d
    | none => putD S n i d
  | i => putD S n i d
def wipe : List Nat → Env → Env
  | [], ρ => ρ
  | v :: vs, ρ => (wipe vs ρ).set v none

/-- calls; bodies of lambdas -/
structure Ph where
  f : Nat → List D → Hs → R D
  l : E → Env → Hs → R D
instance : CoeFun Ph (fun _ => Nat → List D → Hs → R D) := ⟨Ph.f⟩
/-- a def that calls what it got and tells the word of the error -/
def wordR (d0 : D) (tb : List (Nat × D)) (r : R D) : R D := match r with
  | .ok _ S => .ok d0 S
  | .exc x S => match tb.lookup x.c with
    | some d => .ok d S
    | none => .bad
  | .bad => .bad
/-- texts joined -/
def joinL (a : List Nat) : List (List Nat) → List Nat
  | [] => []
  | [x] => x
  | x :: r => x ++ a ++ joinL a r
def joinD (a d : D) (S : Hs) : Option D := match a with
  | .str s => match (match d with
      | .tup l => some l
      | d => listD d S).bind allStr with
    | some ss => if fitL ((ss.map (·.length)).sum + ss.length * s.length) then some (.str (joinL s ss)) else none
    | none => none
  | _ => none
/-! ### the interpreter; rec: expressions one level down, Φ: calls -/
section
variable (Φ : Ph) (rec : E → Env → Hs → R D)

def evs : List E → Env → Hs → R (List D)
  | [], _, S => .ok [] S
  | e :: es, ρ, S => (rec e ρ S).bind fun d S => (evs es ρ S).bind fun ds S => .ok (d :: ds) S

def evT (c : E) (ρ : Env) (S : Hs) : R Bool := (rec c ρ S).bind fun d S => .of S (tru d S)

def evO (o : Option E) (ρ : Env) (S : Hs) : R (Option Int) := match o with
  | none => .ok none S
  | some e => (rec e ρ S).bind fun d S => match d with
    | .int i => .ok (some i) S
    | _ => .bad

def rngL (lo : Int) : Nat → List D
  | 0 => []
  | n + 1 => .int lo :: rngL (lo + 1) n

def enumL (i : Int) : List D → List D
  | [] => []
  | d :: r => .tup [.int i, d] :: enumL (i + 1) r
def zipL : List D → List D → List D
  | a :: r, b :: s => .tup [a, b] :: zipL r s
  | _, _ => []

def zip3L : List D → List D → List D → List D
  | a :: r, b :: s, c :: t => .tup [a, b, c] :: zip3L r s t
  | _, _, _ => []

/-- what a loop walks: values; or the items as they stand at each turn (none: not told) -/
inductive Wk where
  | vals (l : List D)
  | dyn (f : Nat → Hs → Option (Option D))
def Wk.at : Wk → Nat → Hs → Option (Option D)
  | .vals l, i, _ => if Nat.ble i l.length then some l[i]? else none
  | .dyn f, i, S => f i S
/-- a sequence to walk -/
def walkD (d : D) : Option Wk := match d with
  | .tup l => some (.vals l)
  | .lst l => some (.vals l)
  | .cell n => some (.dyn fun i S => match cellL S n with
    | some l => if Nat.ble i l.length then some l[i]? else none
    | none => none)
  | _ => none
/-- a sequence to walk: a cell must be a list's -/
def walkS (d : D) (S : Hs) : Option Wk := match d with
  | .cell n => match S[n]? with
    | some (.lst _) => walkD d
    | _ => none
  | d => walkD d
/-- the same, of a text too -/
def walkT (d : D) (S : Hs) : Option Wk := match d with
  | .str l => some (.vals (l.map fun c => .str [c]))
  | d => walkS d S
/-- what a for walks: a sequence, a dict by value, a text -/
def walkA (d : D) (S : Hs) : Option Wk := match d with
  | .dic t ks _ => if t then none else some (.vals ks)
  | .str l => some (.vals (l.map fun c => .str [c]))
  | d => walkS d S
def enumW : Wk → Wk
  | .vals l => .vals (enumL 0 l)
  | .dyn f => .dyn fun i S => (f i S).map fun o => o.map fun d => .tup [.int (i : Nat), d]
def zipW (a b : Wk) : Wk := match a, b with
  | .vals l, .vals m => .vals (zipL l m)
  | a, b => .dyn fun i S => match a.at i S, b.at i S with
    | some (some x), some (some y) => some (some (.tup [x, y]))
    | some _, some _ => some none
    | _, _ => none
def zip3W (a b c : Wk) : Wk := match a, b, c with
  | .vals l, .vals m, .vals k => .vals (zip3L l m k)
  | a, b, c => .dyn fun i S => match a.at i S, b.at i S, c.at i S with
    | some (some x), some (some y), some (some z) => some (some (.tup [x, y, z]))
    | some _, some _, some _ => some none
    | _, _, _ => none

def evI (it : I) (ρ : Env) (S : Hs) : R Wk := match it with
  | .seq e => (rec e ρ S).bind fun d S => .of S (walkA d S)
  | .rng1 a => (rec a ρ S).bind fun d S => match d with
    | .int j => if fitL j.natAbs then .ok (.vals (rngL 0 j.toNat)) S else .bad
    | _ => .bad
  | .rng2 a b => (rec a ρ S).bind fun d S => (rec b ρ S).bind fun e S => match d, e with
    | .int i, .int j => if fitL i.natAbs && fitL j.natAbs then .ok (.vals (rngL i (j - i).toNat)) S else .bad
    | _, _ => .bad
  | .enum e => (evs rec [e] ρ S).bind fun ds S => match ds with
    | [d] => match walkT d S with
      | some w => .ok (enumW w) S
      | none => .bad
    | _ => .bad
  | .zip a b => (evs rec [a, b] ρ S).bind fun ds S => match ds with
    | [d, e] => match walkS d S, walkS e S with
      | some w, some v => .ok (zipW w v) S
      | _, _ => .bad
    | _ => .bad
  | .zip3 a b c => (evs rec [a, b, c] ρ S).bind fun ds S => match ds with
    | [d, e, g] => match walkS d S, walkS e S, walkS g S with
      | some w, some v, some u => .ok (zip3W w v u) S
      | _, _, _ => .bad
    | _ => .bad

/-- a value stored at names -/
def setN (fuel : Nat) (t : T) (d : D) (ρ : Env) : Option Env := match fuel with
  | 0 => none
  | fuel + 1 => match t with
    | .nm i => if i < ρ.length then some (ρ.set i (some d)) else none
    | .tup ts => match d with
      | .tup ds => setNs (setN fuel) ts ds ρ
      | .lst ds => setNs (setN fuel) ts ds ρ
      | _ => none
    | .sub _ _ => none
where setNs (f : T → D → Env → Option Env) : List T → List D → Env → Option Env
  | [], [], ρ => some ρ
  | t :: ts, d :: ds, ρ => (f t d ρ).bind (setNs f ts ds)
  | _, _, _ => none

/-- the turns of a comprehension -/
def compL (own : List Nat) (t : T) (c : Option E) (e : E) (ρ0 : Env) : List D → Hs → R (List D)
  | [], S => .ok [] S
  | x :: xs, S => match setN 8 t x ρ0 with
    | none => .bad
    | some ρ =>
      match c with
      | none => (rec e ρ S).bind fun y S => (compL own t c e ρ0 xs S).bind fun ys S => .ok (y :: ys) S
      | some c' => (evT rec c' ρ S).bind fun k S =>
        if k then (rec e ρ S).bind fun y S => (compL own t c e ρ0 xs S).bind fun ys S => .ok (y :: ys) S
        else compL own t c e ρ0 xs S

/-- the turns of a comprehension over what changes -/
def compG (own : List Nat) (t : T) (c : Option E) (e : E) (ρ0 : Env) (f : Nat → Hs → Option (Option D)) : Nat → Nat → Hs → R (List D)
  | 0, _, _ => .bad
  | n + 1, i, S => match f i S with
    | none => .bad
    | some none => .ok [] S
    | some (some x) => match setN 8 t x ρ0 with
      | none => .bad
      | some ρ =>
        match c with
        | none => (rec e ρ S).bind fun y S => (compG own t c e ρ0 f n (i + 1) S).bind fun ys S => .ok (y :: ys) S
        | some c' => (evT rec c' ρ S).bind fun k S =>
          if k then (rec e ρ S).bind fun y S => (compG own t c e ρ0 f n (i + 1) S).bind fun ys S => .ok (y :: ys) S
          else compG own t c e ρ0 f n (i + 1) S
def compW (own : List Nat) (t : T) (c : Option E) (e : E) (ρ0 : Env) (w : Wk) (S : Hs) : R (List D) := match w with
  | .vals xs => if fitL xs.length then compL rec own t c e ρ0 xs S else .bad
  | .dyn f => compG rec own t c e ρ0 f 16777216 0 S

/-- the turns of a dict's comprehension -/
def pcompG (own : List Nat) (t : T) (c : Option E) (ke ve : E) (ρ0 : Env) (f : Nat → Hs → Option (Option D)) : Nat → Nat → Hs → List D → List D → R (List D × List D)
  | 0, _, _, _, _ => .bad
  | n + 1, i, S, ks, vs => match f i S with
    | none => .bad
    | some none => .ok (ks, vs) S
    | some (some x) => match setN 8 t x ρ0 with
      | none => .bad
      | some ρ => (match c with
          | none => R.ok true S
          | some c' => evT rec c' ρ S).bind fun k S =>
          if k then (rec ke ρ S).bind fun y S => (rec ve ρ S).bind fun z S =>
            if key1 y && Nat.blt ks.length lim then pcompG own t c ke ve ρ0 f n (i + 1) S (storeD ks vs y z).1 (storeD ks vs y z).2 else .bad
          else pcompG own t c ke ve ρ0 f n (i + 1) S ks vs
/-- a dict's items merged into another one -/
def mergeD : List D → List D → List D → List D → List D × List D
  | ks, vs, k :: ms, v :: ws => mergeD (storeD ks vs k v).1 (storeD ks vs k v).2 ms ws
  | ks, vs, _, _ => (ks, vs)
/-- an item at the end of a list cell -/
def appC (S : Hs) (n : Nat) (d : D) : Option Hs := match cellL S n with
  | some l => if d.flat && Nat.blt l.length lim then some (S.set n (.lst (l ++ [d]))) else none
  | none => none
/-- the last item taken off -/
def popC (S : Hs) (n : Nat) : Option (D × Hs) := match cellL S n with
  | some l => (l[l.length - 1]?).map fun d => (d, S.set n (.lst l.dropLast))
  | none => none
/-- an item at a place taken off -/
def popA (S : Hs) (n : Nat) (i : Int) : Option (D × Hs) := match cellL S n with
  | some l => if Nat.ble i.natAbs 1000000000 then (L2.ixN l.length i).bind fun j => (l[j]?).map fun d => (d, S.set n (.lst (l.eraseIdx j))) else none
  | none => none
/-- methods of a list cell; ds: their values -/
def mthD (m : Mt) (n : Nat) (ds : List D) (S : Hs) : R D := match m with
  | .append => match ds with
    | [d] => match appC S n d with
      | some S => .ok .non S
      | none => .bad
    | _ => .bad
  | .pop => match ds with
    | [] => match popC S n with
      | some (d, S) => .ok d S
      | none => .bad
    | [.int i] => match popA S n i with
      | some (d, S) => .ok d S
      | none => .bad
    | _ => .bad
  | _ => .bad

/-- d.get(k), d.get(k, x) -/
def getM (x : D) (ds : List D) (S : Hs) : Option D := match dicP x S with
  | some (t, ks, vs) => match ds with
    | [k] => (getK t ks vs k).map fun o => o.getD .non
    | [k, e] => (getK t ks vs k).map fun o => o.getD e
    | _ => none
  | none => none
/-- x[::-1] -/
def revD (x : D) (S : Hs) : Option D := match x with
  | .tup l => some (.tup l.reverse)
  | .str l => some (.str l.reverse)
  | d => (listD d S).map fun l => .lst l.reverse
/-- o.split(e) -/
def splD (x y : D) : Option D := match x with
  | .str a => match y with
    | .str b => if !b.isEmpty && b.all (fun c => decide (c < 256)) && Nat.ble (a.length + 2) lim then some (.lst ((TL.spl b 0 [] a).map .str)) else none
    | _ => none
  | _ => none
/-- o.index(e), e a sign -/
def sidxD (x y : D) : Option D := match x with
  | .str a => match y with
    | .str [c] => if a.contains c then some (.int (a.idxOf c : Nat)) else none
    | _ => none
  | _ => none
def evStep (e : E) (ρ : Env) (S : Hs) : R D := match e with
  | .non => .ok .non S
  | .bl b => .ok (.bl b) S
  | .int i => .ok (.int i) S
  | .str s => .ok (.str s) S
  | .glo d => .ok d S
  | .var i => match ρ[i]? with
    | some (some d) => .ok d S
    | _ => .bad
  | .bin o a b => (rec a ρ S).bind fun x S => (rec b ρ S).bind fun y S => .of S (binD o x y S)
  | .neg a => (rec a ρ S).bind fun x S => match x with
    | .int i => .ok (.int (-i)) S
    | _ => .bad
  | .inv a => .bad
  | .cmp o a b => (rec a ρ S).bind fun x S => (rec b ρ S).bind fun y S => .of S ((cmpD o x y S).map .bl)
  | .chain o o' a b c => (rec a ρ S).bind fun x S => (rec b ρ S).bind fun y S => match cmpD o x y S with
    | some true => (rec c ρ S).bind fun z S => .of S ((cmpD o' y z S).map .bl)
    | some false => .ok (.bl false) S
    | none => .bad
  | .and a b => (rec a ρ S).bind fun x S => match tru x S with
    | some true => rec b ρ S
    | some false => .ok x S
    | none => .bad
  | .or a b => (rec a ρ S).bind fun x S => match tru x S with
    | some true => .ok x S
    | some false => rec b ρ S
    | none => .bad
  | .not a => (evT rec a ρ S).bind fun k S => .ok (.bl (!k)) S
  | .ite c a b => (evT rec c ρ S).bind fun k S => if k then rec a ρ S else rec b ρ S
  | .tup es => (evs rec es ρ S).bind fun ds S => .ok (.tup ds) S
  | .lst es => (evs rec es ρ S).bind fun ds S => .ok (.lst ds) S
  | .mlst es => (evs rec es ρ S).bind fun ds S => if D.flats ds then .ok (.cell S.length) (S ++ [.lst ds]) else .bad
  | .mdic t => .ok (.cell S.length) (S ++ [.dic t [] []])
  | .idx a i => (rec a ρ S).bind fun x S => (rec i ρ S).bind fun y S => .of S (idxD x y S)
  | .slc a lo hi => (rec a ρ S).bind fun x S => (evO rec lo ρ S).bind fun l S => (evO rec hi ρ S).bind fun h S => .of S (slcD x l h S)
  | .rev a => (rec a ρ S).bind fun x S => .of S (revD x S)
  | .call f es => (evs rec es ρ S).bind fun ds S => Φ f ds S
  | .bi b es => (evs rec es ρ S).bind fun ds S => .of S (biD b ds S)
  | .get o es => (rec o ρ S).bind fun x S => match dicP x S with
    | some (false, _, _) => (evs rec es ρ S).bind fun ds S => .of S (getM x ds S)
    | _ => .bad
  | .dcomp own t it c ke ve => (evI rec it ρ S).bind fun w S => (pcompG rec own t c ke ve (wipe own ρ) w.at 16777216 0 S [] []).calm.bind fun p S => .ok (.dic false p.1 p.2) S
  | .dupd o e => (rec o ρ S).bind fun x S => match x with
    | .cell n => match cellD S n with
      | some (false, _, _) => (evs rec [e] ρ S).bind fun ds S => match ds with
        | [.dic false ms ws] => match cellD S n with
          | some (false, ks, vs) => if D.flats ws && fitL (ks.length + ms.length) then .ok .non (S.set n (.dic false (mergeD ks vs ms ws).1 (mergeD ks vs ms ws).2)) else .bad
          | _ => .bad
        | _ => .bad
      | _ => .bad
    | _ => .bad
  | .mth m o es => (rec o ρ S).bind fun x S => match x with
    | .cell n => match S[n]? with
      | some (.lst _) => (evs rec es ρ S).bind fun ds S => mthD m n ds S
      | _ => .bad
    | _ => .bad
  | .callv i fl es => match ρ[i]? with
    | some (some (.fn f)) => if fl.contains f then (evs rec es ρ S).bind fun ds S => Φ f ds S else .bad
    | _ => .bad
  | .spl o e => (rec o ρ S).bind fun x S => match x with
    | .str _ => (rec e ρ S).bind fun y S => .of S (splD x y)
    | _ => .bad
  | .sidx o e => (rec o ρ S).bind fun x S => match x with
    | .str _ => (rec e ρ S).bind fun y S => .of S (sidxD x y)
    | _ => .bad
  | .lrng a b => (rec a ρ S).bind fun x S => (rec b ρ S).bind fun y S => match x, y with
    | .int i, .int j => if fitL i.natAbs && fitL j.natAbs && fitL (j - i).toNat then .ok (.lst (rngL i (j - i).toNat)) S else .bad
    | _, _ => .bad
  | .lzip a b => (evs rec [a, b] ρ S).bind fun ds S => match ds with
    | [x, y] => match listD x S, listD y S with
      | some l, some m => if fitL l.length then .ok (.lst (zipL l m)) S else .bad
      | _, _ => .bad
    | _ => .bad
  | .word d0 tb e => wordR d0 tb (Φ.l e ρ S)
  | .isx i tb => match ρ[i]? with
    | some (some (.exn c)) => match tb.lookup c with
      | some b => .ok (.bl b) S
      | none => .bad
    | _ => .bad
  | .join a e => (rec a ρ S).bind fun x S => match x with
    | .str _ => (rec e ρ S).bind fun y S => .of S (joinD x y S)
    | _ => .bad
  | .isi a t => (rec a ρ S).bind fun x S => .of S ((isiD x t S).map .bl)
  | .comp own t it c e => (evI rec it ρ S).bind fun w S => (compW rec own t c e (wipe own ρ) w S).calm.bind fun ys S => .ok (.lst ys) S
  | .mcomp own t it c e => (evI rec it ρ S).bind fun w S => (compW rec own t c e (wipe own ρ) w S).calm.bind fun ys S => if D.flats ys then .ok (.cell S.length) (S ++ [.lst ys]) else .bad
end

def ev (Φ : Ph) (n : Nat) : E → Env → Hs → R D :=
  Nat.rec (fun _ _ _ => .bad) (fun _ ih => evStep Φ ih) n

/-! ### statements -/
inductive Fl where
  | nx (ρ : Env) | rt (d : D) | bk (ρ : Env) | ct (ρ : Env)

section
variable (ve : E → Env → Hs → R D) (rec : S → Env → Hs → R Fl)

def evB : List S → Env → Hs → R Fl
  | [], ρ, S => .ok (.nx ρ) S
  | s :: r, ρ, S => (rec s ρ S).bind fun f S => match f with
    | .nx ρ => evB r ρ S
    | f => .ok f S

def forL (t : T) (b : List S) : List D → Env → Hs → R Fl
  | [], ρ, S => .ok (.nx ρ) S
  | x :: xs, ρ, S => match setN 8 t x ρ with
    | none => .bad
    | some ρ => (evB rec b ρ S).bind fun f S => match f with
      | .nx ρ => forL t b xs ρ S
      | .ct ρ => forL t b xs ρ S
      | .bk ρ => .ok (.nx ρ) S
      | .rt d => .ok (.rt d) S

def forG (t : T) (b : List S) (f : Nat → Hs → Option (Option D)) : Nat → Nat → Env → Hs → R Fl
  | 0, _, _, _ => .bad
  | n + 1, i, ρ, S => match f i S with
    | none => .bad
    | some none => .ok (.nx ρ) S
    | some (some x) => match setN 8 t x ρ with
      | none => .bad
      | some ρ => (evB rec b ρ S).bind fun g S => match g with
        | .nx ρ => forG t b f n (i + 1) ρ S
        | .ct ρ => forG t b f n (i + 1) ρ S
        | .bk ρ => .ok (.nx ρ) S
        | .rt d => .ok (.rt d) S
def forW (wf : Nat) (t : T) (b : List S) (w : Wk) (ρ : Env) (S : Hs) : R Fl := match w with
  | .vals xs => forL rec t b xs ρ S
  | .dyn f => forG rec t b f wf 0 ρ S

def whileL (c : E) (b : List S) : Nat → Env → Hs → R Fl
  | 0, _, _ => .bad
  | n + 1, ρ, S => (evT ve c ρ S).bind fun k S => if k then
      (evB rec b ρ S).bind fun f S => match f with
        | .nx ρ => whileL c b n ρ S
        | .ct ρ => whileL c b n ρ S
        | .bk ρ => .ok (.nx ρ) S
        | .rt d => .ok (.rt d) S
    else .ok (.nx ρ) S

/-- name op= value: numbers, texts -/
def augD (o : Op) (a b : D) : Option D := match o with
  | .add => match a, b with
    | .int i, .int j => some (.int (i + j))
    | .str x, .str y => if fitL (x.length + y.length) then some (.str (x ++ y)) else none
    | _, _ => none
  | .sub => match a, b with
    | .int i, .int j => some (.int (i - j))
    | _, _ => none
  | _ => none

/-- a value stored at a target -/
def setT (t : T) (d : D) (ρ : Env) (S : Hs) : R Env := match t with
  | .sub o i => (ve o ρ S).bind fun x S => (ve i ρ S).bind fun k S => match x with
    | .cell n => match putC S n k d with
      | some S => .ok ρ S
      | none => .bad
    | _ => .bad
  | t => .of S (setN 8 t d ρ)

def esStep (wf : Nat) (s : S) (ρ : Env) (S : Hs) : R Fl := match s with
  | .set t e => (ve e ρ S).bind fun d S => (setT ve t d ρ S).bind fun ρ S => .ok (.nx ρ) S
  | .aug i o e => match ρ[i]? with
    | some (some x) => (ve e ρ S).bind fun y S => match augD o x y with
      | some z => .ok (.nx (ρ.set i (some z))) S
      | none => .bad
    | _ => .bad
  | .expr e => (ve e ρ S).bind fun _ S => .ok (.nx ρ) S
  | .ret e => (ve e ρ S).bind fun d S => .ok (.rt d) S
  | .retN => .ok (.rt .non) S
  | .ifs c a b => (evT ve c ρ S).bind fun k S => if k then evB rec a ρ S else evB rec b ρ S
  | .for_ t it b => (evI ve it ρ S).bind fun w S => forW rec wf t b w ρ S
  | .while_ c b => whileL ve rec c b wf ρ S
  | .brk => .ok (.bk ρ) S
  | .cnt => .ok (.ct ρ) S
  | .pass => .ok (.nx ρ) S
  | .raise c => .exc ⟨c, []⟩ S
  | .raiseE c e => (ve e ρ S).bind fun d S => match d with
    | .str _ => .exc ⟨c, []⟩ S
    | _ => .bad
  | .ext i e => match ρ[i]? with
    | some (some (.cell n)) => (ve e ρ S).bind fun d S => match d with
      | .lst m => match cellL S n with
        | some l => if D.flats m && fitL (l.length + m.length) then .ok (.nx ρ) (S.set n (.lst (l ++ m))) else .bad
        | none => .bad
      | _ => .bad
    | _ => .bad
  | .bad => .bad
end

def es (ve : E → Env → Hs → R D) (wf : Nat) (n : Nat) : S → Env → Hs → R Fl :=
  Nat.rec (fun _ _ _ => .bad) (fun _ ih => esStep ve ih wf) n

/-! ### calls -/
mutual
/-- the cells from n0 on by value -/
def thaw (S : Hs) (n0 : Nat) : D → Option D
  | .cell n => if Nat.blt n n0 then some (.cell n) else match S[n]? with
    | some (.lst l) => some (.lst l)
    | some (.dic t ks vs) => some (.dic t ks vs)
    | none => none
  | .dic t ks vs => (thaws S n0 ks).bind fun ks => (thaws S n0 vs).map fun vs => .dic t ks vs
  | .tup l => (thaws S n0 l).map .tup
  | .lst l => (thaws S n0 l).map .lst
  | .exn _ => none
  | d => some d
def thaws (S : Hs) (n0 : Nat) : List D → Option (List D)
  | [] => some []
  | d :: r => (thaw S n0 d).bind fun d => (thaws S n0 r).map fun r => d :: r
end

/-- what a def hands back: its own cells go (one may stay) -/
def leave (mt : Bool) (n0 : Nat) (d : D) (S : Hs) : R D :=
  if Nat.beq S.length n0 then .ok d S
  else match mt, d with
    | true, .cell n => if Nat.blt n n0 then .ok d (S.take n0) else match S[n]? with
      | some c => .ok (.cell n0) (S.take n0 ++ [c])
      | none => .bad
    | _, d => match thaw S n0 d with
      | some d => .ok d (S.take n0)
      | none => .bad

def runFn (wf sf : Nat) (Φ : Ph) (F : Fn) (ds : List D) (S : Hs) : R D :=
  if Nat.beq ds.length F.np then
    match evB (es (ev Φ sf) wf sf) F.body (ds.map some ++ List.replicate (F.ns - F.np) none) S with
    | .ok (.nx _) S' => leave F.mt S.length .non S'
    | .ok (.rt d) S' => leave F.mt S.length d S'
    | .ok _ _ => .bad
    | .exc x S' => .exc x (S'.take S.length)
    | .bad => .bad
  else .bad

/-- calls, at most k deep -/
def calls (Fs : List Fn) (wf sf : Nat) (k : Nat) : Ph :=
  Nat.rec ⟨fun _ _ _ => .bad, fun _ _ _ => .bad⟩ (fun _ ih => ⟨fun f ds S => match Fs[f]? with
    | some F => runFn wf sf ih F ds S
    | none => .bad, fun e ρ S => ev ih sf e ρ S⟩) k
end EW

/-! EW, part 2: how values lie in the abstract heap. -/
namespace EW
open PySem PySem.Spec PyProof.Rows L2

/-- what the relations look at: the written part, the defs' and the classes' places -/
structure Wd where
  K : PySem.W.Frag
  fa : Nat → Addr
  ca : Nat → Addr
  /-- the tables of code objects -/
  T : List (Addr × Str)
  /-- the exception that is handled: its place, its class -/
  xa : Option (Addr × Nat)

theorem lim_eq : lim = sizeLine := by rw [sizeLine_eq]; rfl

/-- a tuple that stays -/
def STup (K : PySem.W.Frag) (μ ν : List Addr) (H : Hp) (a : Addr) (vs : List V) : Prop :=
  (H a = some (.tup vs) ∧ a ∉ μ ∧ a ∉ ν) ∨ ∃ (o : Obj) (its : Array Value) (n : Nat), K.lookup a = some o ∧ o.cls = .type "tuple" ∧ o.data = .seq its n ∧ its.size ≤ sizeLine ∧ Vals vs its.toList
theorem STup.seq {K : PySem.W.Frag} {μ ν : List Addr} {H : Hp} {a : Addr} {vs : List V} (h : STup K μ ν H a vs) : SqT K H a vs := by
  rcases h with ⟨h, _, _⟩ | h
  · exact .inl (.inl h)
  · exact .inr h

/-- the script's list -/
def SScr (K : PySem.W.Frag) (μ ν : List Addr) (H : Hp) (a : Addr) (vs : List V) : Prop :=
  ((∃ o, H a = some (.frz o (.lst vs))) ∧ a ∉ μ) ∨ (H a = some (.lst vs) ∧ a ∉ μ ∧ a ∉ ν) ∨ ∃ (o : Obj) (its : Array Value) (n : Nat), K.lookup a = some o ∧ o.cls = .type "list" ∧ o.dict = none ∧ o.data = .seq its n ∧ its.size ≤ sizeLine ∧ Vals vs its.toList
theorem SScr.seq {K : PySem.W.Frag} {μ ν : List Addr} {H : Hp} {a : Addr} {vs : List V} (h : SScr K μ ν H a vs) : SqL K H a vs := by
  rcases h with ⟨⟨o, h⟩, _⟩ | ⟨h, _⟩ | h
  · exact .inl (.inr ⟨o, h⟩)
  · exact .inl (.inl h)
  · exact .inr h
/-- keys of dicts -/
inductive KR : Key → D → Prop
  | int (i : Int) : KR (.inl i) (.int i)
  | str (l : List Nat) (h : l.length ≤ lim) (h2 : ∀ c ∈ l, c < 1114112) : KR (.inr ⟨l.toArray⟩) (.str l)
inductive Ks : List Key → List D → Prop
  | nil : Ks [] []
  | cons {k : Key} {d : D} {r : List Key} {s : List D} (h : KR k d) (t : Ks r s) : Ks (k :: r) (d :: s)
inductive KTs : List (List Key) → List D → Prop
  | nil : KTs [] []
  | cons {k : List Key} {d : List D} {r : List (List Key)} {s : List D} (h : Ks k d) (t : KTs r s) : KTs (k :: r) (.tup d :: s)
/-- dicts -/
def IsDic : HO → Prop
  | .dK _ => True
  | .dT _ => True
  | .tbl _ => True
  | _ => False
mutual
/-- the value v is the datum d: μ the cells' places, ν places that are being filled -/
inductive Rp (W : Wd) (μ ν : List Addr) (H : Hp) : V → D → Prop
  | non : Rp W μ ν H .non .non
  | bl (b : Bool) : Rp W μ ν H (.bl b) (.bl b)
  | int (i : Int) : Rp W μ ν H (.int i) (.int i)
  | str (l : List Nat) (h : l.length ≤ lim) (h2 : ∀ c ∈ l, c < 1114112) : Rp W μ ν H (.str ⟨l.toArray⟩) (.str l)
  | tup {a : Addr} {vs : List V} {ds : List D} (h : STup W.K μ ν H a vs) (r : Rps W μ ν H vs ds) : Rp W μ ν H (.ref a) (.tup ds)
  | lst {a : Addr} {vs : List V} {ds : List D} (h : H a = some (.lst vs)) (h1 : a ∉ μ) (h2 : a ∉ ν) (r : Rps W μ ν H vs ds) : Rp W μ ν H (.ref a) (.lst ds)
  | scr {a : Addr} {ns : List Int} (h : SScr W.K μ ν H a (ns.map V.int)) : Rp W μ ν H (.ref a) (.scr ns)
  | cell {a : Addr} {n : Nat} (h : μ[n]? = some a) : Rp W μ ν H (.ref a) (.cell n)
  | fn (n : Nat) : Rp W μ ν H (.ref (W.fa n)) (.fn n)
  | cls (n : Nat) : Rp W μ ν H (.ref (W.ca n)) (.cls n)
  | exn {a : Addr} {c : Nat} (h : W.xa = some (a, c)) : Rp W μ ν H (.ref a) (.exn c)
  | dicK {a : Addr} {kvs : List (Key × V)} {ks vs : List D} (h : Rd H a (.dK kvs)) (h1 : a ∉ μ) (h2 : a ∉ ν) (k : Ks (kvs.map Prod.fst) ks) (r : Rps W μ ν H (kvs.map Prod.snd) vs) : Rp W μ ν H (.ref a) (.dic false ks vs)
  | dicT {a : Addr} {kvs : List (List Key × V)} {ks vs : List D} (h : Rd H a (.dT kvs)) (h1 : a ∉ μ) (h2 : a ∉ ν) (k : KTs (kvs.map Prod.fst) ks) (r : Rps W μ ν H (kvs.map Prod.snd) vs) : Rp W μ ν H (.ref a) (.dic true ks vs)
inductive Rps (W : Wd) (μ ν : List Addr) (H : Hp) : List V → List D → Prop
  | nil : Rps W μ ν H [] []
  | cons {v : V} {vs : List V} {d : D} {ds : List D} (h : Rp W μ ν H v d) (r : Rps W μ ν H vs ds) : Rps W μ ν H (v :: vs) (d :: ds)
end

/-- a cell's content -/
def CellR (W : Wd) (μ ν : List Addr) (H : Hp) (a : Addr) : Cell → Prop
  | .lst ds => D.flats ds = true ∧ ∃ vs, H a = some (.lst vs) ∧ Rps W μ ν H vs ds
  | .dic false ks vs => D.flats vs = true ∧ ∃ kvs : List (Key × V), H a = some (.dK kvs) ∧ Ks (kvs.map Prod.fst) ks ∧ Rps W μ ν H (kvs.map Prod.snd) vs
  | .dic true ks vs => D.flats vs = true ∧ ∃ kvs : List (List Key × V), H a = some (.dT kvs) ∧ KTs (kvs.map Prod.fst) ks ∧ Rps W μ ν H (kvs.map Prod.snd) vs

/-- neither a table nor a code object -/
def NoT (o : HO) : Prop := (∀ ps, o ≠ .tbl ps) ∧ ∀ f, o ≠ .ext f
/-- .. nor locked -/
def Pl (o : HO) : Prop := NoT o ∧ ∀ od u, o ≠ .frz od u
structure HR (W : Wd) (μ ν : List Addr) (S : Hs) (H : Hp) : Prop where
  len : μ.length = S.length
  nd : μ.Nodup
  dj : ∀ a ∈ ν, a ∉ μ ∧ ∃ o, H a = some o ∧ Pl o
  tabs : LamX.Tabs W.T H
  cell : ∀ (n : Nat) (a : Addr) (c : Cell), μ[n]? = some a → S[n]? = some c → CellR W μ ν H a c

/-- from (μ, H) to (μ', H'): the cells stay cells, all that is no cell stays -/
structure Mo (μ : List Addr) (H : Hp) (μ' : List Addr) (H' : Hp) : Prop where
  pre : μ <+: μ'
  stq : ∀ a o, H a = some o → a ∉ μ → (H' a = some o ∨ IsDic o ∧ (((∀ ps, o ≠ .tbl ps) ∧ ∃ od, H' a = some (.frz od o)) ∨ ∃ ps ps', o = .tbl ps ∧ H' a = some (.tbl ps'))) ∧ a ∉ μ'
theorem Mo.stp {μ μ' : List Addr} {H H' : Hp} (m : Mo μ H μ' H') (a : Addr) (o : HO) (h : H a = some o) (h1 : a ∉ μ) (hd : ¬ IsDic o) : H' a = some o ∧ a ∉ μ' := by
  obtain ⟨p, q⟩ := m.stq a o h h1
  rcases p with p | ⟨p, _⟩
  · exact ⟨p, q⟩
  · exact (hd p).elim
theorem Mo.nin {μ μ' : List Addr} {H H' : Hp} (m : Mo μ H μ' H') {a : Addr} {o : HO} (h : H a = some o) (h1 : a ∉ μ) : a ∉ μ' ∧ ∃ o', H' a = some o' := by
  obtain ⟨p, q⟩ := m.stq a o h h1
  rcases p with p | ⟨_, ⟨_, od, p⟩ | ⟨ps, ps', _, p⟩⟩
  · exact ⟨q, _, p⟩
  · exact ⟨q, _, p⟩
  · exact ⟨q, _, p⟩
theorem Rd.mo {μ μ' : List Addr} {H H' : Hp} {a : Addr} {u : HO} (hu : ∀ ps, u ≠ .tbl ps) (h : Rd H a u) (m : Mo μ H μ' H') (h1 : a ∉ μ) : Rd H' a u ∧ a ∉ μ' := by
  rcases h with h | ⟨o, h⟩
  · obtain ⟨p, q⟩ := m.stq a _ h h1
    rcases p with p | ⟨_, ⟨_, od, p⟩ | ⟨ps, ps', z, p⟩⟩
    · exact ⟨.inl p, q⟩
    · exact ⟨.inr ⟨od, p⟩, q⟩
    · exact (hu ps z).elim
  · obtain ⟨p, q⟩ := m.stp a _ h h1 id
    exact ⟨.inr ⟨o, p⟩, q⟩
/-- all that is no cell stays -/
theorem Mo.mk' {μ μ' : List Addr} {H H' : Hp} (p : μ <+: μ') (s : ∀ a o, H a = some o → a ∉ μ → H' a = some o ∧ a ∉ μ') : Mo μ H μ' H' := ⟨p, fun a o h h1 => ⟨.inl (s a o h h1).1, (s a o h h1).2⟩⟩

theorem SScr.mo {K : PySem.W.Frag} {μ ν μ' : List Addr} {H H' : Hp} {a : Addr} {vs : List V} (h : SScr K μ ν H a vs) (m : Mo μ H μ' H') : SScr K μ' ν H' a vs := by
  rcases h with ⟨⟨o, h⟩, h1⟩ | ⟨h, h1, h2⟩ | h
  · obtain ⟨p, q⟩ := m.stp a _ h h1 id
    exact .inl ⟨⟨o, p⟩, q⟩
  · obtain ⟨p, q⟩ := m.stp a _ h h1 id
    exact .inr (.inl ⟨p, q, h2⟩)
  · exact .inr (.inr h)
theorem SScr.sub {K : PySem.W.Frag} {μ ν μ2 : List Addr} {H : Hp} {a : Addr} {vs : List V} (h : SScr K μ ν H a vs) (hs : ∀ x ∈ μ2, x ∈ μ) : SScr K μ2 ν H a vs := by
  rcases h with ⟨h, h1⟩ | ⟨h, h1, h2⟩ | h
  · exact .inl ⟨h, fun z => h1 (hs _ z)⟩
  · exact .inr (.inl ⟨h, fun z => h1 (hs _ z), h2⟩)
  · exact .inr (.inr h)

theorem Mo.refl {μ : List Addr} {H : Hp} : Mo μ H μ H := .mk' List.prefix_rfl fun _ _ h h1 => ⟨h, h1⟩
theorem Mo.trans {μ μ1 μ2 : List Addr} {H H1 H2 : Hp} (a : Mo μ H μ1 H1) (b : Mo μ1 H1 μ2 H2) : Mo μ H μ2 H2 :=
  ⟨a.pre.trans b.pre, fun x o h h1 => by
    obtain ⟨p, q⟩ := a.stq x o h h1
    rcases p with p | ⟨hd, ⟨nt, od, p⟩ | ⟨ps, ps', z, p⟩⟩
    · exact b.stq x o p q
    · obtain ⟨p2, q2⟩ := b.stp x _ p q id
      exact ⟨.inr ⟨hd, .inl ⟨nt, od, p2⟩⟩, q2⟩
    · obtain ⟨p2, q2⟩ := b.stq x _ p q
      rcases p2 with p2 | ⟨_, ⟨nt, od, p2⟩ | ⟨ps2, ps3, z2, p2⟩⟩
      · exact ⟨.inr ⟨hd, .inr ⟨ps, ps', z, p2⟩⟩, q2⟩
      · exact (nt ps' rfl).elim
      · exact ⟨.inr ⟨hd, .inr ⟨ps, ps3, z, p2⟩⟩, q2⟩⟩
theorem pre_get {α : Type} {l l' : List α} (h : l <+: l') {n : Nat} {a : α} (e : l[n]? = some a) : l'[n]? = some a := by
  obtain ⟨t, rfl⟩ := h
  rw [List.getElem?_append_left (List.getElem?_eq_some_iff.mp e).1]
  exact e

theorem STup.mo {K : PySem.W.Frag} {μ ν μ' : List Addr} {H H' : Hp} {a : Addr} {vs : List V} (h : STup K μ ν H a vs) (m : Mo μ H μ' H') : STup K μ' ν H' a vs := by
  rcases h with ⟨h, h1, h2⟩ | h
  · obtain ⟨p, q⟩ := m.stp a _ h h1 id
    exact .inl ⟨p, q, h2⟩
  · exact .inr h

mutual
theorem Rp.mo {W : Wd} {μ ν μ' : List Addr} {H H' : Hp} (m : Mo μ H μ' H') : ∀ {v : V} {d : D}, Rp W μ ν H v d → Rp W μ' ν H' v d
  | _, _, .non => .non
  | _, _, .bl b => .bl b
  | _, _, .int i => .int i
  | _, _, .str l h h2 => .str l h h2
  | _, _, .tup h r => .tup (h.mo m) (Rps.mo m r)
  | _, _, .lst h h1 h2 r => .lst (m.stp _ _ h h1 id).1 (m.stp _ _ h h1 id).2 h2 (Rps.mo m r)
  | _, _, .dicK h h1 h2 k r => .dicK (Rd.mo (fun _ z => by cases z) h m h1).1 (Rd.mo (fun _ z => by cases z) h m h1).2 h2 k (Rps.mo m r)
  | _, _, .dicT h h1 h2 k r => .dicT (Rd.mo (fun _ z => by cases z) h m h1).1 (Rd.mo (fun _ z => by cases z) h m h1).2 h2 k (Rps.mo m r)
  | _, _, .scr h => .scr (h.mo m)
  | _, _, .cell h => .cell (pre_get m.pre h)
  | _, _, .fn n => .fn n
  | _, _, .cls n => .cls n
  | _, _, .exn h => .exn h
theorem Rps.mo {W : Wd} {μ ν μ' : List Addr} {H H' : Hp} (m : Mo μ H μ' H') : ∀ {vs : List V} {ds : List D}, Rps W μ ν H vs ds → Rps W μ' ν H' vs ds
  | _, _, .nil => .nil
  | _, _, .cons h r => .cons (Rp.mo m h) (Rps.mo m r)
end

theorem Rps.length {W : Wd} {μ ν : List Addr} {H : Hp} : ∀ {vs : List V} {ds : List D}, Rps W μ ν H vs ds → vs.length = ds.length
  | _, _, .nil => rfl
  | _, _, .cons _ r => by rw [List.length_cons, List.length_cons, r.length]
theorem Rps.get {W : Wd} {μ ν : List Addr} {H : Hp} : ∀ {vs : List V} {ds : List D} {i : Nat} {d : D}, Rps W μ ν H vs ds → ds[i]? = some d → ∃ v, vs[i]? = some v ∧ Rp W μ ν H v d
  | _, _, _, _, .nil, e => by simp at e
  | _, _, 0, _, .cons h _, e => by simp at e; subst e; exact ⟨_, rfl, h⟩
  | _, _, i + 1, _, .cons _ r, e => by simpa using Rps.get (i := i) r (by simpa using e)
theorem Rps.append {W : Wd} {μ ν : List Addr} {H : Hp} : ∀ {vs ws : List V} {ds es : List D}, Rps W μ ν H vs ds → Rps W μ ν H ws es → Rps W μ ν H (vs ++ ws) (ds ++ es)
  | _, _, _, _, .nil, s => s
  | _, _, _, _, .cons h r, s => .cons h (Rps.append r s)
theorem Rps.take {W : Wd} {μ ν : List Addr} {H : Hp} : ∀ {vs : List V} {ds : List D} (n : Nat), Rps W μ ν H vs ds → Rps W μ ν H (vs.take n) (ds.take n)
  | _, _, 0, _ => .nil
  | _, _, _ + 1, .nil => .nil
  | _, _, n + 1, .cons h r => .cons h (Rps.take n r)
theorem Rps.drop {W : Wd} {μ ν : List Addr} {H : Hp} : ∀ {vs : List V} {ds : List D} (n : Nat), Rps W μ ν H vs ds → Rps W μ ν H (vs.drop n) (ds.drop n)
  | _, _, 0, r => r
  | _, _, _ + 1, .nil => .nil
  | _, _, n + 1, .cons _ r => Rps.drop n r
theorem Rps.set {W : Wd} {μ ν : List Addr} {H : Hp} {v : V} {d : D} (h : Rp W μ ν H v d) : ∀ {vs : List V} {ds : List D} (n : Nat), Rps W μ ν H vs ds → Rps W μ ν H (vs.set n v) (ds.set n d)
  | _, _, _, .nil => .nil
  | _, _, 0, .cons _ r => .cons h r
  | _, _, n + 1, .cons h' r => .cons h' (Rps.set h n r)
theorem Rps.ints {W : Wd} {μ ν : List Addr} {H : Hp} : ∀ {ns : List Int}, Rps W μ ν H (ns.map V.int) (ns.map D.int)
  | [] => .nil
  | i :: _ => .cons (.int i) Rps.ints
theorem Rps.rep {W : Wd} {μ ν : List Addr} {H : Hp} {vs : List V} {ds : List D} (h : Rps W μ ν H vs ds) : ∀ n : Nat, Rps W μ ν H (List.replicate n vs).flatten (rep n ds)
  | 0 => .nil
  | n + 1 => by
    rw [List.replicate_succ, List.flatten_cons]
    exact h.append (Rps.rep h n)

/-- a new frozen object -/
theorem Mo.alloc {μ : List Addr} {H : Hp} {p : Addr} {o : HO} (hp : H p = none) : Mo μ H μ (upd H p o) :=
  .mk' List.prefix_rfl fun a x h h1 => ⟨by rw [upd_ne (ne_of_none h hp)]; exact h, h1⟩
/-- what a cell's content is: it stays where the place stays -/
theorem CellR.mo {W : Wd} {μ ν μ' : List Addr} {H H' : Hp} {a : Addr} {c : Cell} (h : CellR W μ ν H a c) (m : Mo μ H μ' H') (e : H' a = H a) : CellR W μ' ν H' a c := by
  cases c with
  | lst ds =>
    obtain ⟨f, vs, hv, r⟩ := h
    exact ⟨f, vs, by rw [e]; exact hv, r.mo m⟩
  | dic t ks ws =>
    cases t with
    | false =>
      obtain ⟨f, kvs, hv, k, r⟩ := h
      exact ⟨f, kvs, by rw [e]; exact hv, k, r.mo m⟩
    | true =>
      obtain ⟨f, kvs, hv, k, r⟩ := h
      exact ⟨f, kvs, by rw [e]; exact hv, k, r.mo m⟩
theorem CellR.there {W : Wd} {μ ν : List Addr} {H : Hp} {a : Addr} {c : Cell} (h : CellR W μ ν H a c) : ∃ o, H a = some o := by
  cases c with
  | lst ds => obtain ⟨f, vs, hv, r⟩ := h; exact ⟨_, hv⟩
  | dic t ks ws => cases t <;> (obtain ⟨f, kvs, hv, k, r⟩ := h; exact ⟨_, hv⟩)

theorem codeO_ext {c : Addr} {q : Str} {o : HO} (h : NoT o) : LamX.CodeO c q ≠ o := fun z => by
  unfold LamX.CodeO at z
  exact h.2 _ z.symm
theorem tabs_upd {T : List (Addr × Str)} {H : Hp} {p : Addr} {u : HO} (t : LamX.Tabs T H) (h : ∀ o, H p = some o → NoT o) : LamX.Tabs T (upd H p u) := fun q hq => by
  obtain ⟨ps, h1, h2, h3⟩ := t q hq
  refine ⟨ps, by rw [upd_ne (fun z => by rw [z] at h1; exact (h _ h1).1 ps rfl)]; exact h1, h2, fun pos cv hc => ?_⟩
  obtain ⟨c, e1, e2⟩ := h3 pos cv hc
  exact ⟨c, e1, by rw [upd_ne (fun z => by rw [z] at e2; exact codeO_ext (h _ e2) rfl)]; exact e2⟩
theorem tabs_new {T : List (Addr × Str)} {H : Hp} {p : Addr} {u : HO} (t : LamX.Tabs T H) (h : H p = none) : LamX.Tabs T (upd H p u) := tabs_upd t fun o e => by rw [h] at e; cases e
theorem noT_lst {l : List V} : NoT (.lst l) := ⟨fun _ z => (by cases z), fun _ z => (by cases z)⟩
theorem noT_dK {l : List (Key × V)} : NoT (.dK l) := ⟨fun _ z => (by cases z), fun _ z => (by cases z)⟩
theorem noT_dT {l : List (List Key × V)} : NoT (.dT l) := ⟨fun _ z => (by cases z), fun _ z => (by cases z)⟩
theorem CellR.noT {W : Wd} {μ ν : List Addr} {H : Hp} {a : Addr} {c : Cell} (h : CellR W μ ν H a c) : ∀ o, H a = some o → NoT o := fun o e => by
  cases c with
  | lst ds => obtain ⟨f, vs, hv, r⟩ := h; rw [hv] at e; cases e; exact noT_lst
  | dic t ks ws => cases t <;> (obtain ⟨f, kvs, hv, k, r⟩ := h; rw [hv] at e; cases e; first | exact noT_dK | exact noT_dT)
section
variable {W : Wd} {μ ν μ' : List Addr} {S : Hs} {H H' : Hp}
/-- a cell's place is tracked -/
theorem HR.at (h : HR W μ ν S H) {a : Addr} (ha : a ∈ μ) : ∃ o, H a = some o := by
  obtain ⟨n, hn, e⟩ := List.getElem_of_mem ha
  have hS : n < S.length := by rw [← h.len]; exact hn
  have c := h.cell n a S[n] (by rw [List.getElem?_eq_getElem hn, e]) (List.getElem?_eq_getElem hS)
  exact c.there
theorem HR.fresh (h : HR W μ ν S H) {p : Addr} (hp : H p = none) : p ∉ μ := fun hm => by
  obtain ⟨o, e⟩ := h.at hm
  rw [hp] at e; cases e
theorem HR.nfresh (h : HR W μ ν S H) {p : Addr} (hp : H p = none) : p ∉ ν := fun hm => by
  obtain ⟨_, o, e, _⟩ := h.dj p hm
  rw [hp] at e; cases e
/-- no cell is a table -/
theorem HR.noT (h : HR W μ ν S H) {a : Addr} (ha : a ∈ μ) : ∀ o, H a = some o → NoT o := by
  obtain ⟨n, hn, e⟩ := List.getElem_of_mem ha
  have hS : n < S.length := by rw [← h.len]; exact hn
  exact (h.cell n a S[n] (by rw [List.getElem?_eq_getElem hn, e]) (List.getElem?_eq_getElem hS)).noT
/-- the cells stand in H' as in H -/
theorem HR.same (h : HR W μ ν S H) (m : Mo μ H μ H') (k : ∀ a ∈ μ, H' a = H a) (kn : ∀ a ∈ ν, H' a = H a) (tb : LamX.Tabs W.T H') : HR W μ ν S H' where
  tabs := tb
  len := h.len
  nd := h.nd
  dj := fun a ha => let ⟨p, o, q, r⟩ := h.dj a ha; ⟨p, o, by rw [kn a ha]; exact q, r⟩
  cell := fun n a c e1 e2 => (h.cell n a c e1 e2).mo m (k a (List.mem_of_getElem? e1))
theorem HR.alloc (h : HR W μ ν S H) {p : Addr} {o : HO} (hp : H p = none) : HR W μ ν S (upd H p o) :=
  h.same (Mo.alloc hp) (fun a ha => upd_ne fun e => h.fresh hp (e ▸ ha)) (fun a ha => upd_ne fun e => h.nfresh hp (e ▸ ha)) (tabs_new h.tabs hp)
/-- a new cell -/
theorem HR.newC (h : HR W μ ν S H) {p : Addr} {u : HO} {c : Cell} (hp : H p = none) (hc : Mo μ H (μ ++ [p]) (upd H p u) → CellR W (μ ++ [p]) ν (upd H p u) p c) :
    Mo μ H (μ ++ [p]) (upd H p u) ∧ HR W (μ ++ [p]) ν (S ++ [c]) (upd H p u) := by
  have m : Mo μ H (μ ++ [p]) (upd H p u) := .mk' (List.prefix_append _ _) fun a x e h1 => by
    have hne := ne_of_none e hp
    exact ⟨by rw [upd_ne hne]; exact e, by simp [h1, hne]⟩
  refine ⟨m, ⟨by simp [h.len], ?_, fun a ha => ?_, tabs_new h.tabs hp, fun n a c' e1 e2 => ?_⟩⟩
  · rw [List.nodup_append]
    refine ⟨h.nd, by simp, fun a ha b hb => ?_⟩
    rw [List.mem_singleton] at hb
    subst hb
    exact fun e => h.fresh hp (e ▸ ha)
  · obtain ⟨q1, o, q2, q3⟩ := h.dj a ha
    exact ⟨(m.nin q2 q1).1, o, by rw [upd_ne (ne_of_none q2 hp)]; exact q2, q3⟩
  · by_cases hn : n < μ.length
    · rw [List.getElem?_append_left hn] at e1
      rw [List.getElem?_append_left (by rw [← h.len]; exact hn)] at e2
      have := h.cell n a c' e1 e2
      obtain ⟨o, ho⟩ := this.there
      exact this.mo m (upd_ne (ne_of_none ho hp))
    · have hl : n = μ.length := by
        have := (List.getElem?_eq_some_iff.mp e1).1
        rw [List.length_append, List.length_singleton] at this
        omega
      subst hl
      rw [List.getElem?_append_right (Nat.le_refl _), Nat.sub_self] at e1
      rw [h.len, List.getElem?_append_right (Nat.le_refl _), Nat.sub_self] at e2
      cases e1
      cases e2
      exact hc m
theorem HR.new (h : HR W μ ν S H) {p : Addr} {vs : List V} {ds : List D} (hp : H p = none) (r : Rps W μ ν H vs ds) (f : D.flats ds = true) :
    Mo μ H (μ ++ [p]) (upd H p (.lst vs)) ∧ HR W (μ ++ [p]) ν (S ++ [.lst ds]) (upd H p (.lst vs)) :=
  h.newC hp fun m => ⟨f, vs, upd_same, r.mo m⟩
/-- a cell's content is changed -/
theorem HR.putC (h : HR W μ ν S H) {n : Nat} {a : Addr} {u : HO} {c0 : Cell} (hn : μ[n]? = some a) (hc : Mo μ H μ (upd H a u) → CellR W μ ν (upd H a u) a c0) :
    Mo μ H μ (upd H a u) ∧ HR W μ ν (S.set n c0) (upd H a u) := by
  have ha : a ∈ μ := List.mem_of_getElem? hn
  have m : Mo μ H μ (upd H a u) := .mk' List.prefix_rfl fun b x e h1 => ⟨by rw [upd_ne (show b ≠ a from fun z => h1 (by rw [z]; exact ha))]; exact e, h1⟩
  refine ⟨m, ⟨by simp [h.len], h.nd, fun b hb => let ⟨p, o, q, r⟩ := h.dj b hb; ⟨p, o, by rw [upd_ne (fun z => p (by rw [z]; exact ha))]; exact q, r⟩, tabs_upd h.tabs (h.noT ha), fun k b c e1 e2 => ?_⟩⟩
  by_cases hk : k = n
  · subst hk
    rw [hn] at e1; cases e1
    have hS : k < S.length := by rw [← h.len]; exact (List.getElem?_eq_some_iff.mp hn).1
    rw [List.getElem?_set_self hS] at e2; cases e2
    exact hc m
  · rw [List.getElem?_set_ne (Ne.symm hk)] at e2
    have hne : b ≠ a := fun z => by
      subst z
      have h1 := (List.getElem?_eq_some_iff.mp e1)
      have h2 := (List.getElem?_eq_some_iff.mp hn)
      exact hk ((List.getElem_inj h.nd).mp (h1.2.trans h2.2.symm))
    exact (h.cell k b c e1 e2).mo m (upd_ne hne)
theorem HR.put (h : HR W μ ν S H) {n : Nat} {a : Addr} {vs : List V} {ds : List D} (hn : μ[n]? = some a) (r : Rps W μ ν H vs ds) (f : D.flats ds = true) :
    Mo μ H μ (upd H a (.lst vs)) ∧ HR W μ ν (S.set n (.lst ds)) (upd H a (.lst vs)) :=
  h.putC hn fun m => ⟨f, vs, upd_same, r.mo m⟩
/-- a cell read -/
theorem HR.read (h : HR W μ ν S H) {n : Nat} {a : Addr} {ds : List D} (hn : μ[n]? = some a) (e : cellL S n = some ds) : D.flats ds = true ∧ ∃ vs, H a = some (.lst vs) ∧ Rps W μ ν H vs ds := by
  unfold cellL at e
  split at e
  · rename_i l hl
    cases e
    exact h.cell n a _ hn hl
  · cases e
end

/-- the slots -/
structure En (W : Wd) (μ ν : List Addr) (H : Hp) (σ : L2.St) (ρ : Env) : Prop where
  len : σ.length = ρ.length
  get : ∀ (i : Nat) (d : D), ρ[i]? = some (some d) → ∃ v, σ[i]? = some (some v) ∧ Rp W μ ν H v d
theorem En.mo {W : Wd} {μ ν μ' : List Addr} {H H' : Hp} {σ : L2.St} {ρ : Env} (h : En W μ ν H σ ρ) (m : Mo μ H μ' H') : En W μ' ν H' σ ρ :=
  ⟨h.len, fun i d e => let ⟨v, p, q⟩ := h.get i d e; ⟨v, p, q.mo m⟩⟩
theorem En.set {W : Wd} {μ ν : List Addr} {H : Hp} {σ : L2.St} {ρ : Env} (h : En W μ ν H σ ρ) {i : Nat} {v : V} {d : D} (r : Rp W μ ν H v d) : En W μ ν H (σ.set i (some v)) (ρ.set i (some d)) :=
  ⟨by simp [h.len], fun j e q => by
    by_cases hj : j = i
    · subst hj
      have hl : j < ρ.length := by
        have := (List.getElem?_eq_some_iff.mp q).1
        simpa using this
      rw [List.getElem?_set_self hl] at q
      cases q
      exact ⟨v, List.getElem?_set_self (by rw [h.len]; exact hl), r⟩
    · rw [List.getElem?_set_ne (Ne.symm hj)] at q
      obtain ⟨w, p, s⟩ := h.get j e q
      exact ⟨w, by rw [List.getElem?_set_ne (Ne.symm hj)]; exact p, s⟩⟩

/-! ### what is wanted behind a run -/
/-- an exception as the interpreter has it -/
def Xr (W : Wd) (μ ν : List Addr) (H : Hp) (cls : Value) (d : Option Addr) (x : Xc) : Prop := cls = .ref (W.ca x.c) ∧ d = none ∧ x.args = []

/-- the end of a run from (μ, H): P of the result where it ends well, X where it raises -/
def Fin {α β : Type} (W : Wd) (μ ν : List Addr) (H : Hp) (Rel : List Addr → Hp → β → α → Prop) (r : R α) (Q : β → Hp → Prop) (E : XK) : Prop :=
  match r with
  | .ok d S' => ∀ v μ' H', Mo μ H μ' H' → HR W μ' ν S' H' → Rel μ' H' v d → Q v H'
  | .exc x S' => ∀ cls dd μ' H', Mo μ H μ' H' → HR W μ' ν S' H' → Xr W μ' ν H' cls dd x → E cls dd H'
  | .bad => False

theorem Fin.from {α β : Type} {W : Wd} {μ ν μ1 : List Addr} {H H1 : Hp} {Rel : List Addr → Hp → β → α → Prop} {r : R α} {Q : β → Hp → Prop} {E : XK} (h : Fin W μ ν H Rel r Q E) (m : Mo μ H μ1 H1) : Fin W μ1 ν H1 Rel r Q E := by
  cases r with
  | ok d S' => exact fun v μ' H' m' => h v μ' H' (m.trans m')
  | exc x S' => exact fun c dd μ' H' m' => h c dd μ' H' (m.trans m')
  | bad => exact h

theorem Fin.bind {α β γ δ : Type} {W : Wd} {μ ν : List Addr} {H : Hp} {Rel : List Addr → Hp → β → α → Prop} {Rel' : List Addr → Hp → δ → γ → Prop} {r : R α} {f : α → Hs → R γ} {Q : δ → Hp → Prop} {E : XK} (h : Fin W μ ν H Rel' (r.bind f) Q E) :
    Fin W μ ν H Rel r (fun v H1 => ∃ d S1 μ1, Mo μ H μ1 H1 ∧ HR W μ1 ν S1 H1 ∧ Rel μ1 H1 v d ∧ Fin W μ1 ν H1 Rel' (f d S1) Q E) E := by
  cases r with
  | ok d S' => exact fun v μ' H' m hr rl => ⟨d, S', μ', m, hr, rl, Fin.from h m⟩
  | exc x S' => exact h
  | bad => exact h.elim

abbrev RelD (W : Wd) : List Addr → List Addr → Hp → V → D → Prop := fun ν μ H v d => Rp W μ ν H v d
abbrev RelDs (W : Wd) : List Addr → List Addr → Hp → List V → List D → Prop := fun ν μ H v d => Rps W μ ν H v d
abbrev RelB : List Addr → Hp → Bool → Bool → Prop := fun _ _ b c => b = c

theorem Fin.imp {α β : Type} {W : Wd} {μ ν : List Addr} {H : Hp} {Rel : List Addr → Hp → β → α → Prop} {r : R α} {Q Q' : β → Hp → Prop} {E : XK} (h : Fin W μ ν H Rel r Q E) (i : ∀ v H', Q v H' → Q' v H') : Fin W μ ν H Rel r Q' E := by
  cases r with
  | ok d S' => exact fun v μ' H' m hr rl => i v H' (h v μ' H' m hr rl)
  | exc x S' => exact h
  | bad => exact h
/-- the reading of what the interpreter runs as r -/
def tG {α β : Type} (W : Wd) (Wx : WX) (Rel : List Addr → List Addr → Hp → β → α → Prop) (r : Env → Hs → R α) : L2.St → Hp → (β → Hp → Prop) → Prop := fun σ H Q => ∃ ρ S μ ν, HR W μ ν S H ∧ En W μ ν H σ ρ ∧ Fin W μ ν H (Rel ν) (r ρ S) Q (WE Wx σ)
abbrev tR (W : Wd) (Wx : WX) (r : Env → Hs → R D) : TE := tG W Wx (RelD W) r
abbrev tRs (W : Wd) (Wx : WX) (r : Env → Hs → R (List D)) : TA := tG W Wx (RelDs W) r
abbrev tRb (W : Wd) (Wx : WX) (r : Env → Hs → R Bool) : TT := tG W Wx (fun _ => RelB) r
/-- behind a first part -/
def Aft2 {α β γ δ : Type} (W : Wd) (Wx : WX) (Rel : List Addr → List Addr → Hp → β → α → Prop) (Rel' : List Addr → List Addr → Hp → δ → γ → Prop) (σ : L2.St) (f : Env → α → Hs → R γ) (Q : δ → Hp → Prop) (v : β) (H1 : Hp) : Prop :=
  ∃ ρ d S1 μ1 ν, HR W μ1 ν S1 H1 ∧ En W μ1 ν H1 σ ρ ∧ Rel ν μ1 H1 v d ∧ Fin W μ1 ν H1 (Rel' ν) (f ρ d S1) Q (WE Wx σ)
theorem tG_bind {α β γ δ : Type} {W : Wd} {Wx : WX} {Rel : List Addr → List Addr → Hp → β → α → Prop} {Rel' : List Addr → List Addr → Hp → δ → γ → Prop} {r : Env → Hs → R α} {f : Env → α → Hs → R γ} {σ : L2.St} {H : Hp} {Q : δ → Hp → Prop}
    (h : tG W Wx Rel' (fun ρ S => (r ρ S).bind fun d S => f ρ d S) σ H Q) : tG W Wx Rel r σ H (Aft2 W Wx Rel Rel' σ f Q) := by
  obtain ⟨ρ, S, μ, ν, hr, en, h⟩ := h
  exact ⟨ρ, S, μ, ν, hr, en, (Fin.bind h).imp fun v H1 ⟨d, S1, μ1, m, hr1, rl, h1⟩ => ⟨ρ, d, S1, μ1, ν, hr1, en.mo m, rl, h1⟩⟩

theorem PE.imp {X : Cx} {e : Expr} {t t' : TE} (h : PE X e t) (i : ∀ σ H Q, t' σ H Q → t σ H Q) : PE X e t' := ⟨fun pins s σ H Q I q => h.run pins s σ H Q I (i σ H Q q)⟩
theorem PT.imp {X : Cx} {e : Expr} {t t' : TT} (h : PT X e t) (i : ∀ σ H Q, t' σ H Q → t σ H Q) : PT X e t' := ⟨fun pins s σ H Q I q => h.run pins s σ H Q I (i σ H Q q)⟩
theorem PA.imp {X : Cx} {e : List Expr} {t t' : TA} (h : PA X e t) (i : ∀ σ H Q, t' σ H Q → t σ H Q) : PA X e t' := ⟨fun pos pins s σ H Q I q => h.run pos pins s σ H Q I (i σ H Q q)⟩
theorem PS.imp {X : Cx} {e : Stmt} {t t' : TS} (h : PS X e t) (i : ∀ D σ H, t' D σ H → t D σ H) : PS X e t' := ⟨fun pins s σ H D I q => h.run pins s σ H D I (i D σ H q)⟩
theorem PSs.imp {X : Cx} {e : List Stmt} {t t' : TS} (h : PSs X e t) (i : ∀ D σ H, t' D σ H → t D σ H) : PSs X e t' := ⟨fun pins s σ H D I q => h.run pins s σ H D I (i D σ H q)⟩
end EW

namespace EW
open PySem PySem.Spec PyProof.Rows L2
theorem tuple_mul1 (l : Addr) (items : Array Value) (n : Nat) (dd : Option Addr) (sl : Array (Option Value)) (u : Tok) :
    Meets (Builtin.«tuple.__mul__» ⟨[.ref l, .int 1 u], []⟩) (fun _ R s => s.heap.get? l = some { cls := .type "tuple", dict := dd, data := .seq items n, slots := sl } ∧ R (.ok (.ret (Value.ref l))) s) :=
  .of_wp fun prog w A R s h => by
    obtain ⟨hp, g, d, tk, os⟩ := s
    obtain ⟨hl, h⟩ := h
    have f1 := AutoSeq1.idx_int
    wp_walk using wpAny_loadPart' hl
    exact ⟨_, rfl, h⟩
/-- a tuple once -/
def rOnceT (K : PySem.W.Frag) : R2 := fun x y H Q => ∃ l xs, x = .ref l ∧ y = .int 1 ∧ SqT K H l xs ∧ Q (.ref l) H
theorem op_onceT {X : Cx} : OpR X (binaryOp .Mult) (rOnceT X.K) := by
  intro pins s σ H x y v u Q I rx ry h
  obtain ⟨l, xs, rfl, rfl, hT, q⟩ := h
  cases rx
  obtain ⟨t, rfl⟩ := ry
  obtain ⟨its, r, ⟨⟨cls, dd, data, sl⟩, ho, hc, n, hd⟩, hs⟩ := I.tuple hT
  simp only at hc hd
  subst hc hd
  exact wpAny_binaryOp_repeat_ref (T := "tuple") (U := "int") (by decide) ⟨_, ho, rfl⟩ (fun s' => typeIs_int s' 1 t) noFill_tuple_mul F.fills_int_mul F.slot_int_rmul repeat_tuple F.slot_int_index.lookup
    (call_meets F.slot_int_rmul (typeIs_int s 1 t) F.entry_int_rmul (F.args_int_rmul_2 _ _) (int_rmul_tuple 1 t l its.toArray n dd sl)
      ⟨ho, rfl, ⟨_, ho, rfl⟩, call_meets F.slot_tuple_mul ⟨_, ho, rfl⟩ F.entry_tuple_mul (F.args_tuple_mul_2 _ _) (tuple_mul1 l its.toArray n dd sl t) ⟨ho, ⟨.ref l, H, I, rfl, q⟩⟩⟩)
end EW

/-! EW, part 3: operators, comparisons, subscripts, built-ins by values. -/
namespace EW
open PySem PySem.Spec PyProof.Rows L2

/-- a new frozen tuple, list -/
theorem new_tup {W : Wd} {μ ν : List Addr} {S : Hs} {H : Hp} {p : Addr} {vs : List V} {ds : List D} (h : HR W μ ν S H) (hp : H p = none) (r : Rps W μ ν H vs ds) :
    Mo μ H μ (upd H p (.tup vs)) ∧ HR W μ ν S (upd H p (.tup vs)) ∧ Rp W μ ν (upd H p (.tup vs)) (.ref p) (.tup ds) :=
  ⟨Mo.alloc hp, h.alloc hp, .tup (.inl ⟨upd_same, h.fresh hp, h.nfresh hp⟩) (r.mo (Mo.alloc hp))⟩
theorem new_lst {W : Wd} {μ ν : List Addr} {S : Hs} {H : Hp} {p : Addr} {vs : List V} {ds : List D} (h : HR W μ ν S H) (hp : H p = none) (r : Rps W μ ν H vs ds) :
    Mo μ H μ (upd H p (.lst vs)) ∧ HR W μ ν S (upd H p (.lst vs)) ∧ Rp W μ ν (upd H p (.lst vs)) (.ref p) (.lst ds) :=
  ⟨Mo.alloc hp, h.alloc hp, .lst upd_same (h.fresh hp) (h.nfresh hp) (r.mo (Mo.alloc hp))⟩

/-- behind an operation by values: cells untouched -/
def Aft (W : Wd) (μ ν : List Addr) (S : Hs) (H : Hp) (d : D) (Q : VK) : Prop := ∀ v μ' H', Mo μ H μ' H' → HR W μ' ν S H' → Rp W μ' ν H' v d → Q v H'
theorem Aft.val {W : Wd} {μ ν : List Addr} {S : Hs} {H : Hp} {d : D} {Q : VK} (a : Aft W μ ν S H d Q) (h : HR W μ ν S H) {v : V} (r : Rp W μ ν H v d) : Q v H := a v μ H .refl h r
theorem Aft.tup {W : Wd} {μ ν : List Addr} {S : Hs} {H : Hp} {ds : List D} {Q : VK} (a : Aft W μ ν S H (.tup ds) Q) (h : HR W μ ν S H) {vs : List V} (r : Rps W μ ν H vs ds) : ∀ p, H p = none → Q (.ref p) (upd H p (.tup vs)) := fun p hp =>
  let ⟨m, h', r'⟩ := new_tup h hp r; a _ _ _ m h' r'
theorem Aft.lst {W : Wd} {μ ν : List Addr} {S : Hs} {H : Hp} {ds : List D} {Q : VK} (a : Aft W μ ν S H (.lst ds) Q) (h : HR W μ ν S H) {vs : List V} (r : Rps W μ ν H vs ds) : ∀ p, H p = none → Q (.ref p) (upd H p (.lst vs)) := fun p hp =>
  let ⟨m, h', r'⟩ := new_lst h hp r; a _ _ _ m h' r'

/-- an operation on two data -/
def rD (W : Wd) (f : D → D → Hs → Option D) : R2 := fun x y H Q => ∃ S μ ν dx dy d, HR W μ ν S H ∧ Rp W μ ν H x dx ∧ Rp W μ ν H y dy ∧ f dx dy S = some d ∧ Aft W μ ν S H d Q
theorem OpR.imp {X : Cx} {f : Value → Value → Sem Value} {r r' : R2} (h : OpR X f r) (i : ∀ x y H Q, r' x y H Q → r x y H Q) : OpR X f r' := fun pins s σ H x y v u Q I rx ry q => h pins s σ H x y v u Q I rx ry (i x y H Q q)

theorem small_iff {i : Int} (h : small i = true) : -(2 ^ 64) < i ∧ i < 2 ^ 64 := by
  unfold small at h
  have := Nat.le_of_ble_eq_true h
  omega
theorem fitL_le {n : Nat} (h : fitL n = true) : n ≤ sizeLine := by
  rw [← lim_eq]
  exact Nat.le_of_ble_eq_true h

/-- a list by value, or a list cell: its tracked object -/
theorem lst_at {W : Wd} {μ ν : List Addr} {S : Hs} {H : Hp} (h : HR W μ ν S H) {v : V} {d : D} {l : List D} (r : Rp W μ ν H v d) (e : listD d S = some l) : ∃ a vs, v = .ref a ∧ H a = some (.lst vs) ∧ Rps W μ ν H vs l := by
  cases r with
  | lst h0 h1 h2 r => cases e; exact ⟨_, _, rfl, h0, r⟩
  | cell hn =>
    obtain ⟨_, vs, hv, r⟩ := h.read hn e
    exact ⟨_, vs, rfl, hv, r⟩
  | _ => cases e

theorem str_len (l : List Nat) : (⟨l.toArray⟩ : Str).length = l.length := by
  show l.toArray.size = l.length
  simp
theorem str_app (l m : List Nat) : (⟨l.toArray⟩ : Str) ++ ⟨m.toArray⟩ = ⟨(l ++ m).toArray⟩ := by
  show (⟨l.toArray ++ m.toArray⟩ : Str) = _
  simp

/-- + -/
theorem op_addD {X : Cx} {W : Wd} (hK : W.K = X.K) : OpR X (binaryOp .Add) (rD W (binD .add)) := by
  refine OpR.imp (OpR.or op_add (OpR.or op_add_str (OpR.or op_catA op_cat))) fun x y H Q ⟨S, μ, ν, dx, dy, d, h, rx, ry, e, q⟩ => ?_
  have hl : addL dx dy S = some d → (rI0 (fun i j => .int (i + j))) x y H Q ∨ (∃ i j, x = .str i ∧ y = .str j ∧ i.length + j.length ≤ sizeLine ∧ Q (.str (i ++ j)) H) ∨ rCatA X.K x y H Q ∨ rCat x y H Q := fun e => by
    unfold addL at e
    cases e1 : listD dx S with
    | none => rw [e1] at e; cases e
    | some l1 =>
      cases e2 : listD dy S with
      | none => rw [e1, e2] at e; cases e
      | some l2 =>
        rw [e1, e2] at e
        simp only at e
        split at e
        · rename_i hf
          cases e
          obtain ⟨a, vs, rfl, ha, ra⟩ := lst_at h rx e1
          obtain ⟨b, ws, rfl, hb, rb⟩ := lst_at h ry e2
          exact .inr (.inr (.inr ⟨a, b, vs, ws, rfl, rfl, ha, hb, by rw [ra.length, rb.length]; exact fitL_le hf, q.lst h (ra.append rb)⟩))
        · cases e
  unfold binD at e
  cases dx <;> cases dy <;> simp only at e <;> try (exact hl e)
  · cases rx; cases ry; cases e
    exact .inl ⟨_, _, rfl, rfl, q.val h (.int _)⟩
  · cases rx with
    | str l1 h1 g1 => cases ry with
      | str l2 h2 g2 =>
        split at e
        · rename_i hf
          cases e
          refine .inr (.inl ⟨_, _, rfl, rfl, by rw [str_len, str_len]; exact fitL_le hf, ?_⟩)
          rw [str_app]
          exact q.val h (.str _ (by rw [List.length_append]; exact Nat.le_of_ble_eq_true hf) fun c hc => (List.mem_append.mp hc).elim (g1 c) (g2 c))
        · cases e
  · cases rx with
    | tup hx rx => cases ry with
      | tup hy ry =>
        split at e
        · rename_i hf
          cases e
          refine .inr (.inr (.inl ⟨_, _, _, _, rfl, rfl, hK ▸ hx.seq, hK ▸ hy.seq, by rw [rx.length, ry.length]; exact fitL_le hf, fun e => ?_, fun _ e => ?_, fun _ _ => q.tup h (rx.append ry)⟩))
          · subst e; cases rx; exact q.val h (.tup hy ry)
          · subst e; cases ry
            exact q.val h (by rw [List.append_nil]; exact .tup hx rx)
        · cases e

theorem op_subD {X : Cx} {W : Wd} : OpR X (binaryOp .Sub) (rD W (binD .sub)) := by
  refine OpR.imp op_sub fun x y H Q ⟨S, μ, ν, dx, dy, d, h, rx, ry, e, q⟩ => ?_
  unfold binD at e
  cases rx <;> cases ry <;> simp only at e <;> cases e
  exact ⟨_, _, rfl, rfl, q.val h (.int _)⟩

theorem op_mulD {X : Cx} {W : Wd} (hK : W.K = X.K) : OpR X (binaryOp .Mult) (rD W (binD .mul)) := by
  refine OpR.imp (OpR.or op_mul (OpR.or op_mulW (OpR.or op_rep (OpR.or op_repT op_onceT)))) fun x y H Q ⟨S, μ, ν, dx, dy, d, h, rx, ry, e, q⟩ => ?_
  unfold binD at e
  cases rx <;> cases ry <;> simp only at e <;> try (cases e; done)
  · split at e
    · rename_i hm
      cases e
      unfold mulOk at hm
      rcases Bool.or_eq_true_iff.mp hm with hm | hm
      · refine .inl ⟨_, _, rfl, rfl, ?_, q.val h (.int _)⟩
        rcases Bool.or_eq_true_iff.mp hm with hm | hm
        · exact .inl (small_iff hm)
        · exact .inr (small_iff hm)
      · exact .inr (.inl ⟨_, _, rfl, rfl, Nat.le_of_ble_eq_true hm, q.val h (.int _)⟩)
    · cases e
  · rename_i hs rs k _
    split at e
    · rename_i hm
      cases e
      have hm := eq_of_beq hm
      subst hm
      exact .inr (.inr (.inr (.inr ⟨_, _, rfl, rfl, hK ▸ hs.seq, q.val h (.tup hs rs)⟩)))
    split at e
    · rename_i hm
      cases e
      simp only [Bool.and_eq_true, Bool.not_eq_true', List.isEmpty_eq_false_iff] at hm
      obtain ⟨⟨⟨h0, h1⟩, h2⟩, h3⟩ := hm
      have h1 := Nat.le_of_ble_eq_true h1
      have h2 := Nat.le_of_ble_eq_true h2
      have h3 := Nat.le_of_ble_eq_true h3
      refine .inr (.inr (.inr (.inl ⟨_, _, _, rfl, rfl, hK ▸ hs.seq, fun z => ?_, by omega, by omega, by rw [rs.length]; exact h3, q.tup h (rs.rep _)⟩)))
      subst z; cases rs; exact h0 rfl
    · cases e
  · rename_i h0 h1 h2 rs k _
    split at e
    · rename_i hm
      cases e
      simp only [Bool.and_eq_true] at hm
      have hk := Nat.le_of_ble_eq_true hm.1
      exact .inr (.inr (.inl ⟨_, _, _, rfl, rfl, h0, by omega, by omega, by rw [rs.length]; exact fitL_le hm.2, q.lst h (rs.rep _)⟩))
    · cases e

theorem op_fdivD {X : Cx} {W : Wd} : OpR X (binaryOp .FloorDiv) (rD W (binD .fdiv)) := by
  refine OpR.imp (OpR.or op_fdivW op_fdivN) fun x y H Q ⟨S, μ, ν, dx, dy, d, h, rx, ry, e, q⟩ => ?_
  unfold binD at e
  cases rx <;> cases ry <;> simp only at e <;> try (cases e; done)
  split at e
  · rename_i h0
    split at e
    · rename_i h1
      cases e
      exact .inl ⟨_, _, rfl, rfl, ⟨h0, Nat.le_of_ble_eq_true h1⟩, q.val h (.int _)⟩
    · cases e
  · split at e
    · rename_i h1
      cases e
      rw [Bool.and_eq_true] at h1
      exact .inr ⟨_, _, rfl, rfl, ⟨by simpa using h1.1, Nat.le_of_ble_eq_true h1.2⟩, q.val h (.int _)⟩
    · cases e

theorem op_modD {X : Cx} {W : Wd} : OpR X (binaryOp .Mod) (rD W (binD .mod)) := by
  refine OpR.imp (OpR.or op_mod op_modN) fun x y H Q ⟨S, μ, ν, dx, dy, d, h, rx, ry, e, q⟩ => ?_
  unfold binD at e
  cases rx <;> cases ry <;> simp only at e <;> try (cases e; done)
  split at e
  · rename_i h0
    cases e
    exact .inl ⟨_, _, rfl, rfl, h0, q.val h (.int _)⟩
  · split at e
    · rename_i h1
      cases e
      exact .inr ⟨_, _, rfl, rfl, by simpa using h1, q.val h (.int _)⟩
    · cases e

theorem op_powD {X : Cx} {W : Wd} : OpR X (binaryOp .Pow) (rD W (binD .pow)) := by
  refine OpR.imp op_pow fun x y H Q ⟨S, μ, ν, dx, dy, d, h, rx, ry, e, q⟩ => ?_
  unfold binD at e
  cases rx <;> cases ry <;> simp only at e <;> try (cases e; done)
  rename_i i j
  split at e
  · rename_i hm
    cases e
    simp only [Bool.and_eq_true, decide_eq_true_eq] at hm
    obtain ⟨⟨h0, h1⟩, h2⟩ := hm
    have h1 := Nat.le_of_ble_eq_true h1
    unfold small at h2
    have h2 := Nat.le_of_ble_eq_true h2
    exact ⟨_, _, rfl, rfl, ⟨h0, by omega, by omega⟩, q.val h (.int _)⟩
  · cases e

theorem op_shlD {X : Cx} {W : Wd} : OpR X (binaryOp .LShift) (rD W (binD .shl)) := by
  refine OpR.imp op_shl fun x y H Q ⟨S, μ, ν, dx, dy, d, h, rx, ry, e, q⟩ => ?_
  unfold binD at e
  cases rx <;> cases ry <;> simp only at e <;> try (cases e; done)
  rename_i i j
  split at e
  · rename_i hm
    cases e
    simp only [Bool.and_eq_true, decide_eq_true_eq] at hm
    obtain ⟨⟨h0, h1⟩, h2⟩ := hm
    have h1 := Nat.le_of_ble_eq_true h1
    unfold small at h2
    have h2 := Nat.le_of_ble_eq_true h2
    exact ⟨_, _, rfl, rfl, ⟨h0, by omega, by omega⟩, q.val h (.int _)⟩
  · cases e

theorem op_shrD {X : Cx} {W : Wd} : OpR X (binaryOp .RShift) (rD W (binD .shr)) := by
  refine OpR.imp op_shr fun x y H Q ⟨S, μ, ν, dx, dy, d, h, rx, ry, e, q⟩ => ?_
  unfold binD at e
  cases rx <;> cases ry <;> simp only at e <;> try (cases e; done)
  rename_i i j
  split at e
  · rename_i hm
    cases e
    exact ⟨_, _, rfl, rfl, by simpa using hm, q.val h (.int _)⟩
  · cases e

/-! ### comparisons -/
mutual
def toPy : D → PyData
  | .non => .none
  | .bl b => .bool b
  | .int i => .int i
  | .str l => .str ⟨l.toArray⟩
  | .tup l => .tuple (toPys l)
  | .lst l => .list (toPys l)
  | _ => .none
def toPys : List D → List PyData
  | [] => []
  | d :: r => toPy d :: toPys r
end
theorem eqL_iff : ∀ (l m : List Nat), eqL l m = decide (l = m)
  | [], [] => by simp [eqL]
  | [], _ :: _ => by simp [eqL]
  | _ :: _, [] => by simp [eqL]
  | a :: r, b :: s => by
    unfold eqL
    rw [eqL_iff r s]
    by_cases h : a = b
    · subst h; simp
    · simp [h]
theorem str_beq (l m : List Nat) : ((⟨l.toArray⟩ : Str) == ⟨m.toArray⟩) = eqL l m := by
  rw [eqL_iff]
  by_cases h : l = m
  · subst h; simp
  · have : ¬ ((⟨l.toArray⟩ : Str) = ⟨m.toArray⟩) := fun z => h (by simpa using z)
    rw [beq_eq_false_iff_ne.mpr this]; simp [h]
mutual
theorem eqv_toPy : ∀ (n m : Nat) (d e : D), d.shp n = true → e.shp m = true → PyData.eqv (toPy d) (toPy e) = eqD d e
  | _, _, .non, e, _, he => by cases e <;> first | rfl | (simp [D.shp] at he; done)
  | _, _, .bl _, e, _, he => by cases e <;> first | rfl | (simp [D.shp] at he; done)
  | _, _, .int _, e, _, he => by cases e <;> first | rfl | (simp [D.shp] at he; done)
  | _, _, .str x, e, _, he => by
    cases e <;> first | rfl | (simp [D.shp] at he; done) | skip
    rename_i y
    show ((⟨x.toArray⟩ : Str) == ⟨y.toArray⟩) = eqL x y
    exact str_beq x y
  | 0, _, .tup _, _, hd, _ => by simp [D.shp] at hd
  | n + 1, m, .tup xs, e, hd, he => by
    cases e with
    | tup ys => cases m with
      | zero => simp [D.shp] at he
      | succ m => exact eqv_toPys n m xs ys hd he
    | lst ys => rfl
    | _ => first | rfl | (simp [D.shp] at he; done)
  | 0, _, .lst _, _, hd, _ => by simp [D.shp] at hd
  | n + 1, m, .lst xs, e, hd, he => by
    cases e with
    | lst ys => cases m with
      | zero => simp [D.shp] at he
      | succ m => exact eqv_toPys n m xs ys hd he
    | tup ys => rfl
    | _ => first | rfl | (simp [D.shp] at he; done)
  | _, _, .scr _, _, hd, _ => by simp [D.shp] at hd
  | _, _, .cell _, _, hd, _ => by simp [D.shp] at hd
  | _, _, .fn _, _, hd, _ => by simp [D.shp] at hd
  | _, _, .cls _, _, hd, _ => by simp [D.shp] at hd
  | _, _, .dic _ _ _, _, hd, _ => by simp [D.shp] at hd
theorem eqv_toPys : ∀ (n m : Nat) (d e : List D), D.shps n d = true → D.shps m e = true → PyData.eqvAll (toPys d) (toPys e) = eqDs d e
  | _, _, [], [], _, _ => rfl
  | _, _, [], _ :: _, _, _ => rfl
  | _, _, _ :: _, [], _, _ => rfl
  | n, m, x :: xs, y :: ys, hd, he => by
    simp only [D.shps, Bool.and_eq_true] at hd he
    show (PyData.eqv (toPy x) (toPy y) && PyData.eqvAll (toPys xs) (toPys ys)) = (eqD x y && eqDs xs ys)
    rw [eqv_toPy n m x y hd.1 he.1, eqv_toPys n m xs ys hd.2 he.2]
end
theorem strOk_of {l : List Nat} (h : ∀ c ∈ l, c < 1114112) : PySem.PyData.strOk ⟨l.toArray⟩ = true := by
  unfold PySem.PyData.strOk
  simpa using h
mutual
theorem dp_of {W : Wd} {μ ν : List Addr} {H : Hp} : ∀ {v : V} {d : D} (n : Nat), Rp W μ ν H v d → d.shp n = true → Dp W.K H v (toPy d) ∧ (toPy d).canLay0 = true ∧ (toPy d).depth ≤ n
  | _, _, _, .non, _ => ⟨.non, rfl, Nat.zero_le _⟩
  | _, _, _, .bl b, _ => ⟨.bl b, rfl, Nat.zero_le _⟩
  | _, _, _, .int i, _ => ⟨.int i, rfl, Nat.zero_le _⟩
  | _, _, _, .str l _ h2, _ => ⟨.str _, strOk_of h2, Nat.zero_le _⟩
  | _, _, 0, .tup _ _, h => by simp [D.shp] at h
  | _, _, n + 1, .tup hs r, h =>
    let ⟨a, b, c⟩ := dps_of n r h
    ⟨.tup hs.seq a, b, Nat.succ_le_succ c⟩
  | _, _, 0, .lst _ _ _ _, h => by simp [D.shp] at h
  | _, _, n + 1, .lst h0 _ _ r, h =>
    let ⟨a, b, c⟩ := dps_of n r h
    ⟨.lst (.inl (.inl h0)) a, b, Nat.succ_le_succ c⟩
  | _, _, _, .scr _, h => by simp [D.shp] at h
  | _, _, _, .cell _, h => by simp [D.shp] at h
  | _, _, _, .fn _, h => by simp [D.shp] at h
  | _, _, _, .cls _, h => by simp [D.shp] at h
  | _, _, _, .dicK _ _ _ _ _, h => by simp [D.shp] at h
  | _, _, _, .dicT _ _ _ _ _, h => by simp [D.shp] at h
theorem dps_of {W : Wd} {μ ν : List Addr} {H : Hp} : ∀ {vs : List V} {ds : List D} (n : Nat), Rps W μ ν H vs ds → D.shps n ds = true → DpAll W.K H vs (toPys ds) ∧ PyData.canLayAll0 (toPys ds) = true ∧ PyData.depthAll (toPys ds) ≤ n
  | _, _, _, .nil, _ => ⟨.nil, rfl, Nat.zero_le _⟩
  | _, _, n, .cons r t, h => by
    simp only [D.shps, Bool.and_eq_true] at h
    obtain ⟨a, b, c⟩ := dp_of n r h.1
    obtain ⟨a', b', c'⟩ := dps_of n t h.2
    refine ⟨.cons a a', ?_, ?_⟩
    · show (PyData.canLay0 _ && PyData.canLayAll0 _) = true
      rw [b, b']; rfl
    · show max (PyData.depth _) (PyData.depthAll _) ≤ n
      omega
end
theorem shaped_of {d : D} (h1 : (toPy d).canLay0 = true) (h2 : (toPy d).depth ≤ 60) : SeqAt.shaped (toPy d) = true := by
  unfold SeqAt.shaped
  rw [h1]
  simp only [Bool.true_and, decide_eq_true_eq]
  omega
/-- a cell of a list read as a list -/
theorem dp_top {W : Wd} {μ ν : List Addr} {S : Hs} {H : Hp} (h : HR W μ ν S H) {v : V} {d e : D} (r : Rp W μ ν H v d) (he : topL S d = some e) (hs : e.shp 60 = true) : Dp W.K H v (toPy e) ∧ SeqAt.shaped (toPy e) = true := by
  by_cases hc : ∃ n, d = .cell n
  · obtain ⟨n, rfl⟩ := hc
    simp only [topL, Option.map_eq_some_iff] at he
    obtain ⟨l, hl, rfl⟩ := he
    cases r with
    | cell hn =>
      obtain ⟨_, vs, hv, rv⟩ := h.read hn hl
      obtain ⟨a, b, c⟩ := dps_of 59 rv hs
      exact ⟨.lst (.inl (.inl hv)) a, shaped_of b (Nat.succ_le_succ c)⟩
  · have : e = d := by
      cases d <;> first | (exact (hc ⟨_, rfl⟩).elim) | (cases he; rfl)
    subst this
    obtain ⟨a, b, c⟩ := dp_of 60 r hs
    exact ⟨a, shaped_of b c⟩

/-- a comparison of two data -/
def rC (W : Wd) (f : D → D → Hs → Option Bool) : R2 := fun x y H Q => ∃ S μ ν dx dy b, HR W μ ν S H ∧ Rp W μ ν H x dx ∧ Rp W μ ν H y dy ∧ f dx dy S = some b ∧ Q (.bl b) H
theorem op_eqC {X : Cx} {W : Wd} (hK : W.K = X.K) (hu : X.A.units + 64 < cLine) : OpR X (compareOp .Eq) (rC W (cmpD .eq)) := by
  refine OpR.imp (op_eqD hu) fun x y H Q ⟨S, μ, ν, dx, dy, b, h, rx, ry, e, q⟩ => ?_
  unfold cmpD at e
  simp only at e
  split at e
  · rename_i x' y' e1 e2
    split at e
    · rename_i hs
      rw [Bool.and_eq_true] at hs
      cases e
      obtain ⟨a1, a2⟩ := dp_top h rx e1 hs.1
      obtain ⟨b1, b2⟩ := dp_top h ry e2 hs.2
      exact ⟨_, _, hK ▸ a1, hK ▸ b1, a2, b2, by rw [eqv_toPy 60 60 x' y' hs.1 hs.2]; exact q⟩
    · cases e
  · cases e
theorem op_neC {X : Cx} {W : Wd} (hK : W.K = X.K) (hu : X.A.units + 64 < cLine) : OpR X (compareOp .NotEq) (rC W (cmpD .ne)) := by
  refine OpR.imp (op_neD hu) fun x y H Q ⟨S, μ, ν, dx, dy, b, h, rx, ry, e, q⟩ => ?_
  unfold cmpD at e
  simp only at e
  split at e
  · rename_i x' y' e1 e2
    split at e
    · rename_i hs
      rw [Bool.and_eq_true] at hs
      cases e
      obtain ⟨a1, a2⟩ := dp_top h rx e1 hs.1
      obtain ⟨b1, b2⟩ := dp_top h ry e2 hs.2
      exact ⟨_, _, hK ▸ a1, hK ▸ b1, a2, b2, by rw [eqv_toPy 60 60 x' y' hs.1 hs.2]; exact q⟩
    · cases e
  · cases e
end EW

/-! EW, part 4: order, is, subscripts, slices, built-ins, isinstance by values. -/
namespace EW
open PySem PySem.Spec PyProof.Rows L2

theorem ltL_iff : ∀ (l m : List Nat), ltL l m = decide (l < m)
  | [], [] => by simp [ltL]
  | [], _ :: _ => by simp [ltL]
  | _ :: _, [] => by simp [ltL]
  | a :: r, b :: s => by
    unfold ltL
    rw [ltL_iff r s]
    by_cases h : a < b
    · have : Nat.blt a b = true := by simpa using h
      rw [this]
      simp [List.cons_lt_cons_iff, h]
    · have : Nat.blt a b = false := by cases q : Nat.blt a b with | false => rfl | true => exact (h (Nat.le_of_ble_eq_true q)).elim
      rw [this]
      by_cases h2 : a = b
      · subst h2; simp [List.cons_lt_cons_iff]
      · have : Nat.beq a b = false := by cases q : Nat.beq a b with | false => rfl | true => exact (h2 (Nat.eq_of_beq_eq_true q)).elim
        rw [this]
        simp [List.cons_lt_cons_iff, h, h2]
theorem op_ltC {X : Cx} {W : Wd} : OpR X (compareOp .Lt) (rC W (cmpD .lt)) := by
  refine OpR.imp (OpR.or op_lt op_lt_str) fun x y H Q hq => ?_
  obtain ⟨S, μ, ν, dx, dy, b, h, rx, ry, e, q⟩ := hq
  unfold cmpD at e
  cases rx <;> cases ry <;> simp only at e <;> try (cases e; done)
  · cases e; exact .inl ⟨_, _, rfl, rfl, q⟩
  · cases e; rw [ltL_iff] at q; exact .inr ⟨_, _, rfl, rfl, by simpa using q⟩
theorem op_leC {X : Cx} {W : Wd} : OpR X (compareOp .LtE) (rC W (cmpD .le)) := by
  refine OpR.imp (OpR.or op_le op_le_str) fun x y H Q hq => ?_
  obtain ⟨S, μ, ν, dx, dy, b, h, rx, ry, e, q⟩ := hq
  unfold cmpD at e
  cases rx <;> cases ry <;> simp only at e <;> try (cases e; done)
  · cases e; exact .inl ⟨_, _, rfl, rfl, q⟩
  · cases e; rw [ltL_iff] at q; exact .inr ⟨_, _, rfl, rfl, by simpa using q⟩
theorem op_gtC {X : Cx} {W : Wd} : OpR X (compareOp .Gt) (rC W (cmpD .gt)) := by
  refine OpR.imp (OpR.or op_gt op_gt_str) fun x y H Q hq => ?_
  obtain ⟨S, μ, ν, dx, dy, b, h, rx, ry, e, q⟩ := hq
  unfold cmpD at e
  cases rx <;> cases ry <;> simp only at e <;> try (cases e; done)
  · cases e; exact .inl ⟨_, _, rfl, rfl, q⟩
  · cases e; rw [ltL_iff] at q; exact .inr ⟨_, _, rfl, rfl, by simpa using q⟩
theorem op_geC {X : Cx} {W : Wd} : OpR X (compareOp .GtE) (rC W (cmpD .ge)) := by
  refine OpR.imp (OpR.or op_ge op_ge_str) fun x y H Q hq => ?_
  obtain ⟨S, μ, ν, dx, dy, b, h, rx, ry, e, q⟩ := hq
  unfold cmpD at e
  cases rx <;> cases ry <;> simp only at e <;> try (cases e; done)
  · cases e; exact .inl ⟨_, _, rfl, rfl, q⟩
  · cases e; rw [ltL_iff] at q; exact .inr ⟨_, _, rfl, rfl, by simpa using q⟩
theorem op_isC {X : Cx} {W : Wd} : OpR X (compareOp .Is) (rC W (cmpD .is)) := by
  refine OpR.imp (OpR.or op_isN op_isBl) fun x y H Q hq => ?_
  obtain ⟨S, μ, ν, dx, dy, b, h, rx, ry, e, q⟩ := hq
  unfold cmpD isD at e
  cases ry <;> simp only at e <;> try (cases e; done)
  · refine .inl ⟨rfl, ?_⟩
    cases rx <;> cases e <;> exact q
  · cases rx <;> simp only at e <;> cases e
    refine .inr ⟨_, _, rfl, rfl, ?_⟩
    rename_i b1 b2
    cases b1 <;> cases b2 <;> exact q
theorem op_isntC {X : Cx} {W : Wd} : OpR X (compareOp .IsNot) (rC W (cmpD .isnt)) := by
  refine OpR.imp (OpR.or op_notN op_notBl) fun x y H Q hq => ?_
  obtain ⟨S, μ, ν, dx, dy, b, h, rx, ry, e, q⟩ := hq
  unfold cmpD isD at e
  cases ry <;> simp only at e <;> try (cases e; done)
  · refine .inl ⟨rfl, ?_⟩
    cases rx <;> cases e <;> exact q
  · cases rx <;> simp only [Option.map_none, Option.map_some] at e <;> cases e
    refine .inr ⟨_, _, rfl, rfl, ?_⟩
    rename_i b1 b2
    cases b1 <;> cases b2 <;> exact q
theorem op_bad {X : Cx} {W : Wd} {f : Value → Value → Sem Value} {g : D → D → Hs → Option Bool} (hg : ∀ x y S, g x y S = none) : OpR X f (rC W g) := fun pins s σ H x y v u Q I rx ry ⟨S, μ, ν, dx, dy, b, h, rx', ry', e, q⟩ => by
  rw [hg] at e; cases e

/-! ### subscripts -/
theorem IxR.imp {X : Cx} {r r' : R2} (h : IxR X r) (i : ∀ x y H Q, r' x y H Q → r x y H Q) : IxR X r' := fun value slice pins s σ H x y v u Q I rx ry q hs => h value slice pins s σ H x y v u Q I rx ry (i x y H Q q) hs
theorem at_of {W : Wd} {μ ν : List Addr} {H : Hp} {vs : List V} {ds : List D} {k : Int} {d : D} (r : Rps W μ ν H vs ds) (e : ((ixN ds.length k).bind fun j => ds[j]?) = some d) : ∃ v, atI vs k = some v ∧ Rp W μ ν H v d := by
  unfold atI
  rw [r.length]
  cases q : ixN ds.length k with
  | none => rw [q] at e; cases e
  | some j => rw [q] at e; exact r.get e
theorem ix_L {X : Cx} {W : Wd} (hK : W.K = X.K) : IxR X (rD W idxL) := by
  refine IxR.imp ix_seq fun x y H Q hq => ?_
  obtain ⟨S, μ, ν, dx, dy, d, h, rx, ry, e, q⟩ := hq
  unfold idxL at e
  cases ry <;> simp only at e <;> try (cases e; done)
  cases rx <;> simp only at e <;> try (cases e; done)
  · rename_i k l hl hc
    refine .inr (.inr ?_)
    cases q0 : ixN l.length k with
    | none => rw [q0] at e; cases e
    | some j =>
      rw [q0] at e
      simp only [Option.bind_some, Option.map_eq_some_iff] at e
      obtain ⟨c, e1, rfl⟩ := e
      refine ⟨_, _, c, rfl, rfl, by rw [str_len, ← lim_eq]; exact hl, ?_, ?_⟩
      · unfold atI
        simp only
        rw [q0]; exact e1
      · exact q.val h (.str [c] (by show 1 ≤ lim; decide) fun c' h' => by
          rw [List.mem_singleton] at h'
          subst h'
          exact hc _ (List.mem_of_getElem? e1))
  · rename_i hs rs
    obtain ⟨v, e1, rv⟩ := at_of rs e
    exact .inr (.inl ⟨_, _, _, v, rfl, rfl, hK ▸ hs.seq, e1, q.val h rv⟩)
  · rename_i h0 _ _ rs
    obtain ⟨v, e1, rv⟩ := at_of rs e
    exact .inl ⟨_, _, _, v, rfl, rfl, .inl (.inl h0), e1, q.val h rv⟩
  · rename_i hn
    cases q0 : cellL S _ with
    | none => rw [q0] at e; cases e
    | some l =>
      rw [q0] at e
      simp only [Option.bind_some] at e
      obtain ⟨_, vs, hv, rv⟩ := h.read hn q0
      obtain ⟨v, e1, rv⟩ := at_of rv e
      exact .inl ⟨_, _, _, v, rfl, rfl, .inl (.inl hv), e1, q.val h rv⟩

/-! ### dicts -/
theorem KR.rp {W : Wd} {μ ν : List Addr} {H : Hp} {k : Key} {d : D} (h : KR k d) : Rp W μ ν H (kV k) d := by
  cases h with
  | int i => exact .int i
  | str l a b => exact .str l a b
theorem kr_of {W : Wd} {μ ν : List Addr} {H : Hp} {v : V} {d : D} (h : Rp W μ ν H v d) (hk : key1 d = true) : ∃ k, v = kV k ∧ KR k d := by
  cases h <;> first | (cases hk; done) | skip
  · rename_i i; exact ⟨.inl i, rfl, .int i⟩
  · rename_i l a b; exact ⟨.inr ⟨l.toArray⟩, rfl, .str l a b⟩
theorem kr_eq {k k' : Key} {d d' : D} (h : KR k d) (h' : KR k' d') : eqD d d' = decide (k = k') := by
  cases h <;> cases h'
  · rename_i i j
    show (i == j) = _
    by_cases e : i = j
    · subst e; simp
    · have : ¬ (Sum.inl i : Key) = Sum.inl j := fun z => e (by cases z; rfl)
      simp [e, this]
  · show false = _
    rw [decide_eq_false (fun z => by cases z)]
  · show false = _
    rw [decide_eq_false (fun z => by cases z)]
  · rename_i l _ _ m _ _
    show eqL l m = _
    rw [eqL_iff]
    by_cases e : l = m
    · subst e; simp
    · have : ¬ (Sum.inr (⟨l.toArray⟩ : Str) : Key) = Sum.inr ⟨m.toArray⟩ := fun z => e (by
        have := Sum.inr.inj z
        simpa using this)
      simp [e, this]
theorem look_ok {W : Wd} {μ ν : List Addr} {H : Hp} {k : Key} {d : D} (hk : KR k d) : ∀ {kvs : List (Key × V)} {ks vs : List D}, Ks (kvs.map Prod.fst) ks → Rps W μ ν H (kvs.map Prod.snd) vs →
    (∀ x, lookD ks vs d = some x → ∃ v, valV kvs k = some v ∧ Rp W μ ν H v x) ∧ (lookD ks vs d = none → valV kvs k = none)
  | [], [], vs, _, _ => ⟨fun x h => by simp [lookD] at h, fun _ => rfl⟩
  | [], _ :: _, _, h, _ => by cases h
  | p :: r, [], _, h, _ => by cases h
  | p :: r, _ :: _, [], _, h => by cases h
  | p :: r, k1 :: ks, v1 :: vs, .cons a b, .cons c e => by
    have q := kr_eq a hk
    unfold lookD
    by_cases h : p.1 = k
    · rw [q, decide_eq_true h, if_pos rfl, valV_pos h]
      exact ⟨fun x hx => by cases hx; exact ⟨_, rfl, c⟩, fun hx => by cases hx⟩
    · rw [q, decide_eq_false h, if_neg Bool.false_ne_true, valV_neg h]
      exact look_ok hk b e
theorem Ks.length : ∀ {k : List Key} {d : List D}, Ks k d → k.length = d.length
  | _, _, .nil => rfl
  | _, _, .cons _ t => by rw [List.length_cons, List.length_cons, t.length]
/-- a dict's parts at an address -/
theorem dic_at {W : Wd} {μ ν : List Addr} {S : Hs} {H : Hp} (h : HR W μ ν S H) {x : V} {d : D} {ks vs : List D} (r : Rp W μ ν H x d) (e : dicP d S = some (false, ks, vs)) :
    ∃ (a : Addr) (kvs : List (Key × V)), x = .ref a ∧ Rd H a (.dK kvs) ∧ Ks (kvs.map Prod.fst) ks ∧ Rps W μ ν H (kvs.map Prod.snd) vs := by
  unfold dicP at e
  cases r <;> simp only at e <;> try (cases e; done)
  · rename_i a n hn
    unfold cellD at e
    split at e
    · rename_i t ks' vs' hs
      cases e
      obtain ⟨_, kvs, hv, k, rr⟩ := h.cell n a _ hn hs
      exact ⟨a, kvs, rfl, .inl hv, k, rr⟩
    · cases e
  · rename_i h0 h1 h2 k rr
    cases e
    exact ⟨_, _, rfl, h0, k, rr⟩
/-- a dict's look -/
theorem dget_of {W : Wd} {μ ν : List Addr} {S : Hs} {H : Hp} (h : HR W μ ν S H) {x y : V} {dx dy : D} {t : Bool} {ks vs : List D} {o : Option D} (rx : Rp W μ ν H x dx) (ry : Rp W μ ν H y dy) (e : dicP dx S = some (t, ks, vs)) (g : getK t ks vs dy = some o) :
    ∃ a r, x = .ref a ∧ DGet H a y r ∧ IsD H a ∧ (∀ z, o = some z → ∃ v, r = some v ∧ Rp W μ ν H v z) ∧ (o = none → r = none) := by
  unfold getK at g
  split at g
  · rename_i hc
    cases g
    rw [Bool.and_eq_true, Bool.not_eq_true'] at hc
    obtain ⟨rfl, hk⟩ := hc
    obtain ⟨k, rfl, kr⟩ := kr_of ry hk
    obtain ⟨a, kvs, rfl, rd, kk, rr⟩ := dic_at h rx e
    obtain ⟨l1, l2⟩ := look_ok kr kk rr
    exact ⟨a, valV kvs k, rfl, .inl ⟨kvs, k, rd, rfl, rfl⟩, .inl ⟨kvs, rd⟩, l1, l2⟩
  · cases g
def idxK (a i : D) (S : Hs) : Option D := match dicP a S with
  | some (t, ks, vs) => (getK t ks vs i).join
  | none => none
theorem ix_K {X : Cx} {W : Wd} (hu : X.A.units + 64 < cLine) : IxR X (rD W idxK) := by
  intro value slice pins s σ H x y v u Q I rx ry hq hs
  obtain ⟨S, μ, ν, dx, dy, d, h, px, py, e, q⟩ := hq
  unfold idxK at e
  split at e
  · rename_i t ks vs hd
    rw [Option.join_eq_some_iff] at e
    obtain ⟨a, r, rfl, g, _, f1, _⟩ := dget_of h px py hd e
    obtain ⟨w, rfl, rw'⟩ := f1 d rfl
    obtain rfl : v = Value.ref a := rx
    have hT := dict_typeIs I g
    unfold subscriptTail
    refine wpAny_bind ?_
    rw [getitemInPython_of_ne hT.not_modules]
    refine wpAny_bind (wpAny_specialOf hT PySem.F.slot_dict_getitem.lookup ?_)
    have fin : wpAny (model X.prog X.w) X.A (subscripted slice false (.ref a) u) (fun r s₃ => wpAny (model X.prog X.w) X.A (letTemporaryGo value (.ref a) r >>= fun _ => pure r) (EP X pins σ Q) X.xe s₃) X.xe s := by
      rw [hs]
      exact wpAny_operating (d_getItem (by omega) I g ry fun w' s3 I3 rw3 => wpAny_bind (wpAny_letTemporaryGo (wpAny_pure ⟨w, H, I3, rw3, q.val h rw'⟩)))
    first
      | exact wpAny_pure (wpAny_bind fin)
      | exact wpAny_bind (wpAny_pure (wpAny_bind fin))
      | exact wpAny_bind fin
  · cases e
theorem IxR.or {X : Cx} {r r' : R2} (h : IxR X r) (h' : IxR X r') : IxR X (fun x y H Q => r x y H Q ∨ r' x y H Q) := fun value slice pins s σ H x y v u Q I rx ry q hs =>
  q.elim (fun q => h value slice pins s σ H x y v u Q I rx ry q hs) fun q => h' value slice pins s σ H x y v u Q I rx ry q hs
theorem ix_D {X : Cx} {W : Wd} (hK : W.K = X.K) (hu : X.A.units + 64 < cLine) : IxR X (rD W idxD) := by
  refine IxR.imp (IxR.or (ix_K (W := W) hu) (ix_L (W := W) hK)) fun x y H Q hq => ?_
  obtain ⟨S, μ, ν, dx, dy, d, h, px, py, e, q⟩ := hq
  unfold idxD at e
  cases hd : dicP dx S with
  | none => rw [hd] at e; exact .inr ⟨S, μ, ν, dx, dy, d, h, px, py, e, q⟩
  | some p =>
    rw [hd] at e
    refine .inl ⟨S, μ, ν, dx, dy, d, h, px, py, ?_, q⟩
    unfold idxK
    rw [hd]; exact e
theorem SlR.imp {X : Cx} {r r' : V → Option Int → Option Int → Hp → VK → Prop} (h : SlR X r) (i : ∀ x lo hi H Q, r' x lo hi H Q → r x lo hi H Q) : SlR X r' := fun pins s σ H x v vl vu lo hi sl Q I rx a b c q => h pins s σ H x v vl vu lo hi sl Q I rx a b c (i x lo hi H Q q)
def rSl (W : Wd) : V → Option Int → Option Int → Hp → VK → Prop := fun x lo hi H Q => ∃ S μ ν dx d, HR W μ ν S H ∧ Rp W μ ν H x dx ∧ slcD dx lo hi S = some d ∧ Aft W μ ν S H d Q
theorem cut_rps {W : Wd} {μ ν : List Addr} {H : Hp} {vs : List V} {ds : List D} (r : Rps W μ ν H vs ds) (lo hi : Option Int) : Rps W μ ν H (cutV vs lo hi) (cut ds lo hi) := by
  unfold cutV cut
  rw [r.length]
  exact (r.drop _).take _
theorem cut_whole {α : Type} {ds : List α} {lo hi : Option Int} (h1 : HT.sIx ds.length 0 lo = 0) (h2 : HT.sIx ds.length ds.length hi = ds.length) : cut ds lo hi = ds := by
  unfold cut
  rw [h1, h2]
  simp
theorem sl_D {X : Cx} {W : Wd} (hK : W.K = X.K) : SlR X (rSl W) := by
  refine SlR.imp (SlR.or sl_list (SlR.or sl_tupA sl_str)) fun x lo hi H Q hq => ?_
  obtain ⟨S, μ, ν, dx, d, h, rx, e, q⟩ := hq
  unfold slcD at e
  cases rx <;> simp only at e <;> try (cases e; done)
  · rename_i l hl hc
    cases e
    refine .inr (.inr ⟨_, rfl, by rw [str_len, ← lim_eq]; exact hl, ?_⟩)
    unfold cutS
    rw [str_len]
    exact q.val h (.str (cut l lo hi) (Nat.le_trans (by unfold cut; simp only [List.length_take, List.length_drop]; omega) hl) fun c h' => hc c (List.mem_of_mem_drop (List.mem_of_mem_take h')))
  · rename_i hs rs
    cases e
    refine .inr (.inl ⟨_, _, rfl, hK ▸ hs.seq, fun z => ?_, fun _ => q.tup h (cut_rps rs lo hi)⟩)
    rw [rs.length] at z
    exact q.val h (by rw [cut_whole z.1 z.2]; exact .tup hs rs)
  · rename_i h0 _ _ rs
    cases e
    exact .inl ⟨_, _, rfl, .inl (.inl h0), q.lst h (cut_rps rs lo hi)⟩
  · rename_i hn
    simp only [Option.map_eq_some_iff] at e
    obtain ⟨l, hl, rfl⟩ := e
    obtain ⟨_, vs, hv, rv⟩ := h.read hn hl
    exact .inl ⟨_, _, rfl, .inl (.inl hv), q.lst h (cut_rps rv lo hi)⟩

theorem UnR.imp {X : Cx} {f : Value → Sem Value} {r r' : V → Hp → VK → Prop} (h : UnR X f r) (i : ∀ x H Q, r' x H Q → r x H Q) : UnR X f r' := fun pins s σ H x v Q I rx q => h pins s σ H x v Q I rx (i x H Q q)
theorem CallR.imp {X : Cx} {f : Value} {r r' : List V → Hp → VK → Prop} (h : CallR X f r) (i : ∀ x H Q, r' x H Q → r x H Q) : CallR X f r' := fun pins s σ H x v Q I rx q => h pins s σ H x v Q I rx (i x H Q q)

/-! ### built-ins -/
def rBi (W : Wd) (b : Bi) : List V → Hp → VK → Prop := fun xs H Q => ∃ S μ ν ds d, HR W μ ν S H ∧ Rps W μ ν H xs ds ∧ biD b ds S = some d ∧ Aft W μ ν S H d Q
theorem rps1 {W : Wd} {μ ν : List Addr} {H : Hp} {xs : List V} {d : D} (r : Rps W μ ν H xs [d]) : ∃ x, xs = [x] ∧ Rp W μ ν H x d := by
  cases r with | cons h t => cases t; exact ⟨_, rfl, h⟩
theorem rps2 {W : Wd} {μ ν : List Addr} {H : Hp} {xs : List V} {d e : D} (r : Rps W μ ν H xs [d, e]) : ∃ x y, xs = [x, y] ∧ Rp W μ ν H x d ∧ Rp W μ ν H y e := by
  cases r with | cons h t => obtain ⟨y, rfl, ry⟩ := rps1 t; exact ⟨_, y, rfl, h, ry⟩
theorem cr_lenD {X : Cx} : CallR X (.builtin "len") (fun xs H Q => ∃ (a : Addr) (kvs : List (Key × V)), xs = [.ref a] ∧ Rd H a (.dK kvs) ∧ Q (.int (kvs.length : Nat)) H) := by
  intro pins s σ H xs us Q I r h
  obtain ⟨a, kvs, rfl, rd, q⟩ := h
  rw [Vals.ref1 r]
  exact d_len I rd fun t s' I' => ⟨.int _, H, I', ⟨t, rfl⟩, q⟩
theorem bi_len {X : Cx} {W : Wd} (hK : W.K = X.K) : CallR X (.builtin "len") (rBi W .len) := by
  refine CallR.imp (CallR.or call_len cr_lenD) fun xs H Q hq => ?_
  obtain ⟨S, μ, ν, ds, d, h, rs, e, q⟩ := hq
  unfold biD at e
  simp only at e
  split at e <;> try (cases e; done)
  · obtain ⟨x, rfl, rx⟩ := rps1 rs; cases e; cases rx with
    | str _ hl _ => exact .inl ⟨_, _, rfl, ⟨by rw [str_len, ← lim_eq]; exact hl, (str_len _).symm⟩, q.val h (.int _)⟩
  · obtain ⟨x, rfl, rx⟩ := rps1 rs; cases e; cases rx with
    | tup hs r => exact .inl ⟨_, _, rfl, .inr ⟨_, hK ▸ hs.seq, r.length.symm⟩, q.val h (.int _)⟩
  · obtain ⟨x, rfl, rx⟩ := rps1 rs; cases e; cases rx with
    | lst h0 _ _ r => exact .inl ⟨_, _, rfl, .inl ⟨_, .inl (.inl h0), r.length.symm⟩, q.val h (.int _)⟩
  · obtain ⟨x, rfl, rx⟩ := rps1 rs; cases e; cases rx with
    | scr h0 => exact .inl ⟨_, _, rfl, .inl ⟨_, hK ▸ h0.seq, (List.length_map _).symm⟩, q.val h (.int _)⟩
  · obtain ⟨x, rfl, rx⟩ := rps1 rs
    split at e
    · rename_i t ks vs hc
      split at e
      · cases e
      · rename_i ht
        cases e
        have ht : t = false := by simpa using ht
        subst ht
        obtain ⟨a, kvs, rfl, rd, k, r⟩ := dic_at h rx (show dicP (.cell _) S = some (false, ks, vs) from hc)
        have hl := k.length
        rw [List.length_map] at hl
        exact .inr ⟨a, kvs, rfl, rd, by rw [hl]; exact q.val h (.int _)⟩
    · simp only [Option.map_eq_some_iff] at e
      obtain ⟨l, hl, rfl⟩ := e
      cases rx with
      | cell hn =>
        obtain ⟨_, vs, hv, rv⟩ := h.read hn hl
        exact .inl ⟨_, _, rfl, .inl ⟨_, .inl (.inl hv), rv.length.symm⟩, q.val h (.int _)⟩
  · obtain ⟨x, rfl, rx⟩ := rps1 rs
    split at e
    · cases e
    · rename_i t ks vs ht
      cases e
      have ht : t = false := by simpa using ht
      subst ht
      obtain ⟨a, kvs, rfl, rd, k, r⟩ := dic_at h rx (show dicP (.dic false ks vs) S = some (false, ks, vs) from rfl)
      have hl := k.length
      rw [List.length_map] at hl
      exact .inr ⟨a, kvs, rfl, rd, by rw [hl]; exact q.val h (.int _)⟩
theorem bi_abs {X : Cx} {W : Wd} : CallR X (.builtin "abs") (rBi W .abs) := by
  refine CallR.imp call_abs fun xs H Q hq => ?_
  obtain ⟨S, μ, ν, ds, d, h, rs, e, q⟩ := hq
  unfold biD at e
  simp only at e
  split at e <;> try (cases e; done)
  obtain ⟨x, rfl, rx⟩ := rps1 rs; cases e; cases rx
  exact ⟨_, rfl, q.val h (.int _)⟩
theorem bi_int {X : Cx} {W : Wd} : CallR X (.type "int") (rBi W .int) := by
  refine CallR.imp (CallR.or call_int1 call_int_str) fun xs H Q hq => ?_
  obtain ⟨S, μ, ν, ds, d, h, rs, e, q⟩ := hq
  unfold biD at e
  simp only at e
  split at e <;> try (cases e; done)
  · obtain ⟨x, rfl, rx⟩ := rps1 rs; cases e; cases rx
    exact .inl (.inl ⟨_, rfl, q.val h (.int _)⟩)
  · obtain ⟨x, rfl, rx⟩ := rps1 rs; cases e; cases rx
    exact .inl (.inr ⟨_, rfl, q.val h (.int _)⟩)
  · obtain ⟨x, rfl, rx⟩ := rps1 rs
    split at e
    case isFalse => cases e
    rename_i l hd
    cases e
    unfold digs at hd
    simp only [Bool.and_eq_true, Bool.not_eq_true', List.isEmpty_eq_false_iff] at hd
    have hl := Nat.le_of_ble_eq_true hd.2
    cases rx
    exact .inr ⟨_, _, rfl, SX.int_S hd.1.1 hd.1.2 (by omega), by show (SX.S l).length ≤ 640; rw [SX.S_len]; exact hl, q.val h (.int _)⟩
theorem bi_tuple {X : Cx} {W : Wd} (hK : W.K = X.K) : CallR X (.type "tuple") (rBi W .tuple) := by
  refine CallR.imp call_tuple_of fun xs H Q hq => ?_
  obtain ⟨S, μ, ν, ds, d, h, rs, e, q⟩ := hq
  unfold biD at e
  simp only at e
  split at e <;> try (cases e; done)
  · obtain ⟨x, rfl, rx⟩ := rps1 rs; cases e; cases rx with
    | tup hs r => exact ⟨_, _, rfl, .inr ⟨hK ▸ hs.seq, q.val h (.tup hs r)⟩⟩
  · obtain ⟨x, rfl, rx⟩ := rps1 rs; cases e; cases rx with
    | lst h0 _ _ r => exact ⟨_, _, rfl, .inl ⟨.inl (.inl h0), q.tup h r⟩⟩
  · obtain ⟨x, rfl, rx⟩ := rps1 rs
    simp only [Option.map_eq_some_iff] at e
    obtain ⟨l, hl, rfl⟩ := e
    cases rx with
    | cell hn =>
      obtain ⟨_, vs, hv, rv⟩ := h.read hn hl
      exact ⟨_, _, rfl, .inl ⟨.inl (.inl hv), q.tup h rv⟩⟩
theorem Ks.rps {W : Wd} {μ ν : List Addr} {H : Hp} : ∀ {kvs : List (Key × V)} {ks : List D}, Ks (kvs.map Prod.fst) ks → Rps W μ ν H (kvs.map fun kv => kV kv.1) ks
  | [], [], _ => .nil
  | [], _ :: _, h => by cases h
  | _ :: _, [], h => by cases h
  | _ :: _, _ :: _, .cons a b => .cons a.rp (Ks.rps b)
theorem bi_list {X : Cx} {W : Wd} (hK : W.K = X.K) (hc : X.calm = true) : CallR X (.type "list") (rBi W .list) := by
  refine CallR.imp (CallR.or call_list_of (call_listD hc)) fun xs H Q hq => ?_
  obtain ⟨S, μ, ν, ds, d, h, rs, e, q⟩ := hq
  unfold biD at e
  simp only at e
  split at e <;> try (cases e; done)
  · obtain ⟨x, rfl, rx⟩ := rps1 rs; cases e; cases rx with
    | tup hs r => exact .inl ⟨_, _, rfl, .inr (hK ▸ hs.seq), q.lst h r⟩
  · obtain ⟨x, rfl, rx⟩ := rps1 rs; cases e; cases rx with
    | lst h0 _ _ r => exact .inl ⟨_, _, rfl, .inl (.inl (.inl h0)), q.lst h r⟩
  · obtain ⟨x, rfl, rx⟩ := rps1 rs; cases e; cases rx with
    | scr h0 => exact .inl ⟨_, _, rfl, .inl (hK ▸ h0.seq), q.lst h Rps.ints⟩
  · obtain ⟨x, rfl, rx⟩ := rps1 rs
    split at e
    · rename_i t ks vs hd
      split at e
      · cases e
      · rename_i ht
        cases e
        have ht : t = false := by simpa using ht
        subst ht
        obtain ⟨a, kvs, rfl, rd, k, r⟩ := dic_at h rx hd
        exact .inr ⟨a, kvs, rfl, rd, q.lst h k.rps⟩
    · simp only [Option.map_eq_some_iff] at e
      obtain ⟨l, hl, rfl⟩ := e
      obtain ⟨a, vs, rfl, hv, rv⟩ := lst_at h rx hl
      exact .inl ⟨_, _, rfl, .inl (.inl (.inl hv)), q.lst h rv⟩
theorem allInt_of {W : Wd} {μ ν : List Addr} {H : Hp} : ∀ {vs : List V} {ds : List D} {ns : List Int}, Rps W μ ν H vs ds → allInt ds = some ns → vs = ns.map V.int
  | _, _, _, .nil, e => by cases e; rfl
  | _, _, _, .cons h r, e => by
    cases h <;> simp only [allInt] at e <;> try (cases e; done)
    simp only [Option.map_eq_some_iff] at e
    obtain ⟨l, hl, rfl⟩ := e
    rw [allInt_of r hl]; rfl
theorem allBl_of {W : Wd} {μ ν : List Addr} {H : Hp} : ∀ {vs : List V} {ds : List D} {ns : List Bool}, Rps W μ ν H vs ds → allBl ds = some ns → vs = ns.map V.bl
  | _, _, _, .nil, e => by cases e; rfl
  | _, _, _, .cons h r, e => by
    cases h <;> simp only [allBl] at e <;> try (cases e; done)
    simp only [Option.map_eq_some_iff] at e
    obtain ⟨l, hl, rfl⟩ := e
    rw [allBl_of r hl]; rfl
/-- sum of a tuple of ints -/
def rSumT (K : PySem.W.Frag) : List V → Hp → VK → Prop := fun vs H Q => ∃ (a : Addr) (ns : List Int), vs = [V.ref a] ∧ SqT K H a (ns.map V.int) ∧ Q (.int ns.sum) H
theorem cr_sumT {X : Cx} (hc : X.calm = true) : CallR X (.builtin "sum") (rSumT X.K) := by
  intro pins s σ H vs us Q I r h
  obtain ⟨a, ns, rfl, hs, q⟩ := h
  obtain ⟨its, rv, hl, _⟩ := I.tuple hs
  rw [Vals.ref1 r]
  have hi := rv.ints
  obtain ⟨xs, e⟩ := hi.allInts.items
  have hn : numsOf (intItems xs).toList = ns := by rw [← e]; exact hi.numsOf
  rw [nums_intItems] at hn
  have hl' : s.heap.IsTuple a (intItems xs) := e ▸ hl
  refine PySem.W.ktm_sumG (I.ok.hd hc) hl' fun h' tk t' hk => ⟨.int _, H, I.kept hk, ⟨_, rfl⟩, ?_⟩
  rw [preSum_eq, List.take_of_length_le (by simp), hn]
  exact q
theorem bi_sum {X : Cx} {W : Wd} (hK : W.K = X.K) (hc : X.calm = true) : CallR X (.builtin "sum") (rBi W .sum) := by
  refine CallR.imp (CallR.or (cr_sum hc) (cr_sumT hc)) fun xs H Q hq => ?_
  obtain ⟨S, μ, ν, ds, d, h, rs, e, q⟩ := hq
  unfold biD at e
  simp only at e
  split at e <;> try (cases e; done)
  · obtain ⟨x, rfl, rx⟩ := rps1 rs
    simp only [Option.map_eq_some_iff] at e
    obtain ⟨ns, hns, rfl⟩ := e
    cases rx with
    | tup hs rv =>
      refine .inr ⟨_, ns, rfl, ?_, q.val h (.int _)⟩
      rw [← allInt_of rv hns]
      exact hK ▸ hs.seq
  · obtain ⟨x, rfl, rx⟩ := rps1 rs
    simp only [Option.map_eq_some_iff, Option.bind_eq_some_iff] at e
    obtain ⟨ns, ⟨l, hl, hns⟩, rfl⟩ := e
    obtain ⟨a, vs, rfl, hv, rv⟩ := lst_at h rx hl
    rw [allInt_of rv hns] at hv
    exact .inl ⟨a, ns, rfl, .inl (.inl hv), q.val h (.int _)⟩
theorem bi_all {X : Cx} {W : Wd} (hc : X.calm = true) : CallR X (.builtin "all") (rBi W .all) := by
  refine CallR.imp (cr_all hc) fun xs H Q hq => ?_
  obtain ⟨S, μ, ν, ds, d, h, rs, e, q⟩ := hq
  unfold biD at e
  simp only at e
  split at e <;> try (cases e; done)
  obtain ⟨x, rfl, rx⟩ := rps1 rs
  simp only [Option.map_eq_some_iff, Option.bind_eq_some_iff] at e
  obtain ⟨ns, ⟨l, hl, hns⟩, rfl⟩ := e
  obtain ⟨a, vs, rfl, hv, rv⟩ := lst_at h rx hl
  rw [allBl_of rv hns] at hv
  exact ⟨a, ns, rfl, .inl (.inl hv), q.val h (.bl _)⟩
theorem bi_any {X : Cx} {W : Wd} (hc : X.calm = true) : CallR X (.builtin "any") (rBi W .any) := by
  refine CallR.imp (cr_any hc) fun xs H Q hq => ?_
  obtain ⟨S, μ, ν, ds, d, h, rs, e, q⟩ := hq
  unfold biD at e
  simp only at e
  split at e <;> try (cases e; done)
  obtain ⟨x, rfl, rx⟩ := rps1 rs
  simp only [Option.map_eq_some_iff, Option.bind_eq_some_iff] at e
  obtain ⟨ns, ⟨l, hl, hns⟩, rfl⟩ := e
  obtain ⟨a, vs, rfl, hv, rv⟩ := lst_at h rx hl
  rw [allBl_of rv hns] at hv
  exact ⟨a, ns, rfl, .inl (.inl hv), q.val h (.bl _)⟩
theorem min_is : ∀ (r : List Int) (i m : Int), m ∈ i :: r → (∀ y ∈ i :: r, m ≤ y) → r.foldl (fun a b => if b < a then b else a) i = m
  | [], i, m, h, _ => by simp at h; exact h.symm
  | j :: r, i, m, h, hm => by
    show r.foldl _ (if j < i then j else i) = m
    refine min_is r _ m ?_ fun y hy => ?_
    · have h1 := hm i (by simp)
      have h2 := hm j (by simp)
      rcases List.mem_cons.mp h with e | h
      · subst e; rw [if_neg (by omega)]; simp
      · rcases List.mem_cons.mp h with e | h
        · subst e
          by_cases hj : m < i
          · rw [if_pos hj]; simp
          · rw [if_neg hj, show i = m by omega]; simp
        · exact List.mem_cons_of_mem _ h
    · rcases List.mem_cons.mp hy with e | hy
      · subst e; split
        · exact hm j (by simp)
        · exact hm i (by simp)
      · exact hm y (List.mem_cons_of_mem _ (List.mem_cons_of_mem _ hy))
theorem max_is : ∀ (r : List Int) (i m : Int), m ∈ i :: r → (∀ y ∈ i :: r, y ≤ m) → r.foldl (fun a b => if a < b then b else a) i = m
  | [], i, m, h, _ => by simp at h; exact h.symm
  | j :: r, i, m, h, hm => by
    show r.foldl _ (if i < j then j else i) = m
    refine max_is r _ m ?_ fun y hy => ?_
    · have h1 := hm i (by simp)
      have h2 := hm j (by simp)
      rcases List.mem_cons.mp h with e | h
      · subst e; rw [if_neg (by omega)]; simp
      · rcases List.mem_cons.mp h with e | h
        · subst e
          by_cases hj : i < m
          · rw [if_pos hj]; simp
          · rw [if_neg hj, show i = m by omega]; simp
        · exact List.mem_cons_of_mem _ h
    · rcases List.mem_cons.mp hy with e | hy
      · subst e; split
        · exact hm j (by simp)
        · exact hm i (by simp)
      · exact hm y (List.mem_cons_of_mem _ (List.mem_cons_of_mem _ hy))
/-- the items of a tuple of ints are data -/
theorem holds_ints {h : Heap} : ∀ {its : List Value} {ns : List Int}, Vals (ns.map V.int) its → ReadsAll h its (ns.map PyData.int) []
  | [], [], _ => .nil
  | _ :: _, [], h => by cases h
  | [], _ :: _, h => by cases h
  | v :: its, n :: ns, h => by
    cases h with
    | cons r rs =>
      obtain ⟨t, rfl⟩ := r
      exact .cons (.int n t) (holds_ints rs)
def rMaxT (K : PySem.W.Frag) : List V → Hp → VK → Prop := fun vs H Q => ∃ (a : Addr) (i : Int) (ns : List Int), vs = [V.ref a] ∧ SqT K H a ((i :: ns).map V.int) ∧ Q (.int (ns.foldl (fun a b => if a < b then b else a) i)) H
def rMinT (K : PySem.W.Frag) : List V → Hp → VK → Prop := fun vs H Q => ∃ (a : Addr) (i : Int) (ns : List Int), vs = [V.ref a] ∧ SqT K H a ((i :: ns).map V.int) ∧ Q (.int (ns.foldl (fun a b => if b < a then b else a) i)) H
theorem maxOf_int (i : Int) (ns : List Int) : PySem.W.maxOf i ns = ns.foldl (fun a b => if a < b then b else a) i := by
  unfold PySem.W.maxOf
  congr 1
  funext a b
  show (if decide (a < b) = true then b else a) = _
  by_cases h : a < b <;> simp [h]
theorem minOf_int (i : Int) (ns : List Int) : PySem.W.minOf i ns = ns.foldl (fun a b => if b < a then b else a) i := by
  unfold PySem.W.minOf
  congr 1
  funext a b
  show (if decide (b < a) = true then b else a) = _
  by_cases h : b < a <;> simp [h]
theorem cr_maxT {X : Cx} (hc : X.calm = true) (hu : X.A.units + 64 < cLine) : CallR X (.builtin "max") (rMaxT X.K) := by
  intro pins s σ H vs us Q I r h
  obtain ⟨a, i, ns, rfl, hs, q⟩ := h
  obtain ⟨its, rv, hl, _⟩ := I.tuple hs
  rw [Vals.ref1 r]
  refine PySem.W.max_tuple_datum (α := Int) (x := i) (xs := ns) (I.ok.hd hc) hl ⟨[], holds_ints (h := s.heap) (ns := i :: ns) rv⟩ (by show X.A.units + 1 + 0 < cLine; omega) fun k v h' tk hi hv hk => ?_
  obtain ⟨as, hv⟩ := hv
  rw [maxOf_int] at hv
  cases hv with
  | int _ t => exact ⟨.int _, H, I.kept hk, ⟨_, rfl⟩, q⟩
theorem cr_minT {X : Cx} (hc : X.calm = true) (hu : X.A.units + 64 < cLine) : CallR X (.builtin "min") (rMinT X.K) := by
  intro pins s σ H vs us Q I r h
  obtain ⟨a, i, ns, rfl, hs, q⟩ := h
  obtain ⟨its, rv, hl, _⟩ := I.tuple hs
  rw [Vals.ref1 r]
  refine PySem.W.min_tuple_datum (α := Int) (x := i) (xs := ns) (I.ok.hd hc) hl ⟨[], holds_ints (h := s.heap) (ns := i :: ns) rv⟩ (by show X.A.units + 1 + 0 < cLine; omega) fun k v h' tk hi hv hk => ?_
  obtain ⟨as, hv⟩ := hv
  rw [minOf_int] at hv
  cases hv with
  | int _ t => exact ⟨.int _, H, I.kept hk, ⟨_, rfl⟩, q⟩
theorem bi_min {X : Cx} {W : Wd} (hK : W.K = X.K) (hc : X.calm = true) (hu : X.A.units + 64 < cLine) : CallR X (.builtin "min") (rBi W .min) := by
  refine CallR.imp (CallR.or (cr_min hc) (cr_minT hc hu)) fun xs H Q hq => ?_
  obtain ⟨S, μ, ν, ds, d, h, rs, e, q⟩ := hq
  unfold biD at e
  simp only at e
  split at e <;> try (cases e; done)
  · obtain ⟨x, rfl, rx⟩ := rps1 rs
    split at e <;> try (cases e; done)
    rename_i i r e0
    cases e
    cases rx with
    | tup hs rv =>
      refine .inr ⟨_, i, r, rfl, ?_, q.val h (.int _)⟩
      rw [← allInt_of rv e0]
      exact hK ▸ hs.seq
  · obtain ⟨x, rfl, rx⟩ := rps1 rs
    split at e <;> try (cases e; done)
    rename_i i r e0
    cases e
    obtain ⟨l, hl, hns⟩ := Option.bind_eq_some_iff.mp e0
    obtain ⟨a, vs, rfl, hv, rv⟩ := lst_at h rx hl
    rw [allInt_of rv hns] at hv
    exact .inl ⟨a, _, rfl, .inl (.inl hv), Nat.succ_pos _, fun m h1 h2 => by rw [min_is r i m h1 h2] at q; exact q.val h (.int _)⟩
theorem bi_max {X : Cx} {W : Wd} (hK : W.K = X.K) (hc : X.calm = true) (hu : X.A.units + 64 < cLine) : CallR X (.builtin "max") (rBi W .max) := by
  refine CallR.imp (CallR.or (cr_max hc) (cr_maxT hc hu)) fun xs H Q hq => ?_
  obtain ⟨S, μ, ν, ds, d, h, rs, e, q⟩ := hq
  unfold biD at e
  simp only at e
  split at e <;> try (cases e; done)
  · obtain ⟨x, rfl, rx⟩ := rps1 rs
    split at e <;> try (cases e; done)
    rename_i i r e0
    cases e
    cases rx with
    | tup hs rv =>
      refine .inr ⟨_, i, r, rfl, ?_, q.val h (.int _)⟩
      rw [← allInt_of rv e0]
      exact hK ▸ hs.seq
  · obtain ⟨x, rfl, rx⟩ := rps1 rs
    split at e <;> try (cases e; done)
    rename_i i r e0
    cases e
    obtain ⟨l, hl, hns⟩ := Option.bind_eq_some_iff.mp e0
    obtain ⟨a, vs, rfl, hv, rv⟩ := lst_at h rx hl
    rw [allInt_of rv hns] at hv
    exact .inl ⟨a, _, rfl, .inl (.inl hv), Nat.succ_pos _, fun m h1 h2 => by rw [max_is r i m h1 h2] at q; exact q.val h (.int _)⟩
theorem bi_min2 {X : Cx} {W : Wd} (hc : X.calm = true) : CallR X (.builtin "min") (rBi W .min2) := by
  refine CallR.imp (call_min2 hc) fun xs H Q hq => ?_
  obtain ⟨S, μ, ν, ds, d, h, rs, e, q⟩ := hq
  unfold biD at e
  simp only at e
  split at e <;> try (cases e; done)
  obtain ⟨x, y, rfl, rx, ry⟩ := rps2 rs; cases e; cases rx; cases ry
  exact ⟨_, _, rfl, q.val h (.int _)⟩
theorem bi_max2 {X : Cx} {W : Wd} (hc : X.calm = true) : CallR X (.builtin "max") (rBi W .max2) := by
  refine CallR.imp (call_max2 hc) fun xs H Q hq => ?_
  obtain ⟨S, μ, ν, ds, d, h, rs, e, q⟩ := hq
  unfold biD at e
  simp only at e
  split at e <;> try (cases e; done)
  obtain ⟨x, y, rfl, rx, ry⟩ := rps2 rs; cases e; cases rx; cases ry
  exact ⟨_, _, rfl, q.val h (.int _)⟩

/-! ### truth -/
theorem tru_of {X : Cx} {W : Wd} (hK : W.K = X.K) {μ ν : List Addr} {S : Hs} {H : Hp} (h : HR W μ ν S H) {v : V} {d : D} {k : Bool} (r : Rp W μ ν H v d) (e : tru d S = some k) : TruV X.K v H k := by
  have emp : ∀ {vs : List V} {ds : List D}, Rps W μ ν H vs ds → vs.isEmpty = ds.isEmpty := fun r => by cases r <;> rfl
  cases r <;> simp only [tru] at e <;> try (cases e; done)
  · cases e; rfl
  · cases e; rfl
  · cases e; rfl
  · rename_i l hl _
    cases e
    refine ⟨by rw [str_len, ← lim_eq]; exact hl, ?_⟩
    rw [str_len]
    cases l with
    | nil => rfl
    | cons a r =>
      have : ((((a :: r).length : Nat) : Int) != 0) = true := by simp [bne_iff_ne]; omega
      rw [this]; rfl
  · rename_i hs rs
    cases e
    exact .inr (.inl ⟨_, hK ▸ hs.seq, by rw [emp rs]⟩)
  · rename_i h0 _ _ rs
    cases e
    exact .inl ⟨_, .inl (.inl h0), by rw [emp rs]⟩
  · rename_i hn
    simp only [Option.map_eq_some_iff] at e
    obtain ⟨l, hl, rfl⟩ := e
    obtain ⟨_, vs, hv, rv⟩ := h.read hn hl
    exact .inl ⟨_, .inl (.inl hv), by rw [emp rv]⟩

/-! ### isinstance -/
def tyN : Ty → String
  | .int => "int" | .str => "str" | .bool => "bool" | .tuple => "tuple" | .list => "list" | .dict => "dict" | .cls _ => ""
def ofD : D → Hs → Option String
  | .non, _ => some "NoneType" | .bl _, _ => some "bool" | .int _, _ => some "int" | .str _, _ => some "str" | .tup _, _ => some "tuple" | .lst _, _ => some "list"
  | .cell n, S => match S[n]? with
    | some (.lst _) => some "list"
    | _ => none
  | _, _ => none
theorem isi_kit {d : D} {t : Ty} {S : Hs} {b : Bool} (e : isiD d t S = some b) : ∃ n, ofD d S = some n ∧ kitB n (tyN t) = some b := by
  have k : ∀ t : Ty, (∀ n, t ≠ .cls n) → kitB "NoneType" (tyN t) = some false := fun t ht => by
    cases t <;> first | decide +kernel | exact (ht _ rfl).elim
  cases d <;> simp only [isiD] at e <;> try (cases e; done)
  case non => cases t <;> simp only at e <;> cases e <;> exact ⟨_, rfl, by decide +kernel⟩
  case bl => cases t <;> simp only at e <;> cases e <;> exact ⟨_, rfl, by decide +kernel⟩
  case int => cases t <;> simp only at e <;> cases e <;> exact ⟨_, rfl, by decide +kernel⟩
  case str => cases t <;> simp only at e <;> cases e <;> exact ⟨_, rfl, by decide +kernel⟩
  case tup => cases t <;> simp only at e <;> cases e <;> exact ⟨_, rfl, by decide +kernel⟩
  case lst => cases t <;> simp only at e <;> cases e <;> exact ⟨_, rfl, by decide +kernel⟩
  case cell n =>
    split at e
    · rename_i l hl
      cases t <;> simp only at e <;> cases e <;> exact ⟨"list", by simp only [ofD, hl], by decide +kernel⟩
    · cases e
theorem ty_of {X : Cx} {W : Wd} (hK : W.K = X.K) {μ ν : List Addr} {S : Hs} {H : Hp} (h : HR W μ ν S H) {v : V} {d : D} {n : String} (r : Rp W μ ν H v d) (e : ofD d S = some n) : TyX X.K H v (.type n) := by
  cases r <;> simp only [ofD] at e <;> try (cases e; done)
  · cases e; exact .base .non
  · cases e; exact .base (.bl _)
  · cases e; exact .base (.int _)
  · cases e; exact .base (.str _)
  · rename_i hs _
    cases e
    rcases hs with ⟨hs, _⟩ | ⟨o, its, n, ho, hc, _⟩
    · exact .base (.tup hs)
    · exact .kTuple (hK ▸ ho) hc
  · rename_i h0 _ _ _
    cases e; exact .base (.lst h0)
  · rename_i hn
    split at e
    · rename_i l hl
      cases e
      obtain ⟨_, vs, hv, _⟩ := h.cell _ _ _ hn hl
      exact .base (.lst hv)
    · cases e
/-- isinstance(x, T), T a built-in type -/
def rIs (W : Wd) (t : Ty) : List V → Hp → VK → Prop := fun xs H Q => ∃ S μ ν x d b, HR W μ ν S H ∧ xs = [x, .ty (tyN t)] ∧ Rp W μ ν H x d ∧ isiD d t S = some b ∧ Q (.bl b) H
theorem bi_isi {X : Cx} {W : Wd} (hK : W.K = X.K) (t : Ty) : CallR X (.builtin "isinstance") (rIs W t) := by
  refine CallR.imp call_isi fun xs H Q hq => ?_
  obtain ⟨S, μ, ν, x, d, b, h, ex, rx, e, q⟩ := hq
  obtain ⟨n, e1, e2⟩ := isi_kit e
  exact ⟨x, .ty (tyN t), .type n, .type (tyN t), b, ex, .ty _, ty_of hK h rx e1, kit_ty e2, q⟩
end EW

/-! EW: members of tuples and lists. -/
namespace EW
open PySem PySem.Spec PyProof.Rows L2
theorem any_eqv {n m : Nat} {x : D} (hx : x.shp n = true) : ∀ {l : List D}, D.shps m l = true → ((toPys l).any fun z => PyData.eqv z (toPy x)) = inD x l
  | [], _ => rfl
  | y :: r, h => by
    simp only [D.shps, Bool.and_eq_true] at h
    show ((PyData.eqv (toPy y) (toPy x)) || ((toPys r).any fun z => PyData.eqv z (toPy x))) = (eqD y x || inD x r)
    rw [eqv_toPy m n y x h.1 hx, any_eqv hx h.2]
/-- the container of a membership test -/
theorem in_cases {W : Wd} {μ ν : List Addr} {S : Hs} {H : Hp} (h : HR W μ ν S H) {x y : V} {dx dy : D} {b : Bool} (rx : Rp W μ ν H x dx) (ry : Rp W μ ν H y dy) (e : inS dx dy S = some b) :
    ∃ l, dx.shp 60 = true ∧ D.shps 60 l = true ∧ b = inD dx l ∧ (Dp W.K H y (.list (toPys l)) ∨ Dp W.K H y (.tuple (toPys l))) ∧ PyData.canLayAll0 (toPys l) = true := by
  cases ry <;> simp only [inS] at e <;> try (cases e; done)
  · rename_i hs rs
    split at e
    · rename_i hh
      rw [Bool.and_eq_true] at hh
      cases e
      obtain ⟨a, b, c⟩ := dps_of 60 rs hh.2
      exact ⟨_, hh.1, hh.2, rfl, .inr (.tup hs.seq a), b⟩
    · cases e
  · rename_i h0 h1 h2 rs
    split at e
    · rename_i hh
      rw [Bool.and_eq_true] at hh
      cases e
      obtain ⟨a, b, c⟩ := dps_of 60 rs hh.2
      exact ⟨_, hh.1, hh.2, rfl, .inl (.lst (.inl (.inl h0)) a), b⟩
    · cases e
  · rename_i n hn
    split at e
    · rename_i l hl
      split at e
      · rename_i hh
        rw [Bool.and_eq_true] at hh
        cases e
        obtain ⟨_, vs, hv, rs⟩ := h.read hn hl
        obtain ⟨a, b, c⟩ := dps_of 60 rs hh.2
        exact ⟨_, hh.1, hh.2, rfl, .inl (.lst (.inl (.inl hv)) a), b⟩
      · cases e
    · cases e
theorem op_inS {X : Cx} {W : Wd} (hK : W.K = X.K) (hu : X.A.units + 64 < cLine) : OpR X (compareOp .In) (rC W inS) := by
  intro pins s σ H x y v u Q I rx ry h
  obtain ⟨S, μ, ν, dx, dy, b, hr, px, py, e, q⟩ := h
  obtain ⟨l, h1, h2, rfl, h3, h4⟩ := in_cases hr px py e
  obtain ⟨a1, a2, a3⟩ := dp_of 60 px h1
  obtain ⟨as, r1⟩ := Dp.reads I _ x v (hK ▸ a1) rx
  have hroom : X.A.units + 1 + min (PyData.depthAll (toPys l)) (toPy dx).depth < cLine := by omega
  rcases h3 with h3 | h3
  · obtain ⟨bs, r2⟩ := Dp.reads I _ y u (hK ▸ h3) ry
    exact SeqAt.in_list_reads r2 r1 h4 a2 hroom ⟨.bl _, H, I, rfl, by rw [any_eqv h1 h2]; exact q⟩
  · obtain ⟨bs, r2⟩ := Dp.reads I _ y u (hK ▸ h3) ry
    exact SeqAt.in_tuple_reads r2 r1 h4 a2 hroom ⟨.bl _, H, I, rfl, by rw [any_eqv h1 h2]; exact q⟩
theorem op_ninS {X : Cx} {W : Wd} (hK : W.K = X.K) (hu : X.A.units + 64 < cLine) : OpR X (compareOp .NotIn) (rC W fun a b S => (inS a b S).map (!·)) := by
  intro pins s σ H x y v u Q I rx ry h
  obtain ⟨S, μ, ν, dx, dy, b, hr, px, py, e, q⟩ := h
  simp only [Option.map_eq_some_iff] at e
  obtain ⟨b', e, rfl⟩ := e
  obtain ⟨l, h1, h2, rfl, h3, h4⟩ := in_cases hr px py e
  obtain ⟨a1, a2, a3⟩ := dp_of 60 px h1
  obtain ⟨as, r1⟩ := Dp.reads I _ x v (hK ▸ a1) rx
  have hroom : X.A.units + 1 + min (PyData.depthAll (toPys l)) (toPy dx).depth < cLine := by omega
  rcases h3 with h3 | h3
  · obtain ⟨bs, r2⟩ := Dp.reads I _ y u (hK ▸ h3) ry
    exact SeqAt.notIn_list_reads r2 r1 h4 a2 hroom ⟨.bl _, H, I, rfl, by rw [any_eqv h1 h2]; exact q⟩
  · obtain ⟨bs, r2⟩ := Dp.reads I _ y u (hK ▸ h3) ry
    exact SeqAt.notIn_tuple_reads r2 r1 h4 a2 hroom ⟨.bl _, H, I, rfl, by rw [any_eqv h1 h2]; exact q⟩
/-- a member of a dict -/
def inK (a b : D) (S : Hs) : Option Bool := match dicP b S with
  | some (t, ks, vs) => (getK t ks vs a).map (·.isSome)
  | none => none
theorem inK_of {W : Wd} {μ ν : List Addr} {S : Hs} {H : Hp} (h : HR W μ ν S H) {x y : V} {dx dy : D} {b : Bool} (rx : Rp W μ ν H x dx) (ry : Rp W μ ν H y dy) (e : inK dx dy S = some b) : ∃ a r, y = .ref a ∧ DGet H a x r ∧ r.isSome = b := by
  unfold inK at e
  split at e
  · rename_i t ks vs hd
    simp only [Option.map_eq_some_iff] at e
    obtain ⟨o, ho, rfl⟩ := e
    obtain ⟨a, r, ey, g, _, f1, f2⟩ := dget_of h ry rx hd ho
    refine ⟨a, r, ey, g, ?_⟩
    cases o with
    | none => rw [f2 rfl]; rfl
    | some z => obtain ⟨v, hv, _⟩ := f1 z rfl; rw [hv]; rfl
  · cases e
theorem op_inK {X : Cx} {W : Wd} (hu : X.A.units + 64 < cLine) : OpR X (compareOp .In) (rC W inK) := by
  intro pins s σ H x y v u Q I rx ry h
  obtain ⟨S, μ, ν, dx, dy, b, hr, px, py, e, q⟩ := h
  obtain ⟨a, r, rfl, g, eb⟩ := inK_of hr px py e
  obtain rfl : u = Value.ref a := ry
  exact d_in (by omega) I g rx fun s3 I3 => ⟨.bl r.isSome, H, I3, rfl, by rw [eb]; exact q⟩
theorem op_ninK {X : Cx} {W : Wd} (hu : X.A.units + 64 < cLine) : OpR X (compareOp .NotIn) (rC W fun a b S => (inK a b S).map (!·)) := by
  intro pins s σ H x y v u Q I rx ry h
  obtain ⟨S, μ, ν, dx, dy, b, hr, px, py, e, q⟩ := h
  simp only [Option.map_eq_some_iff] at e
  obtain ⟨b', e, rfl⟩ := e
  obtain ⟨a, r, rfl, g, eb⟩ := inK_of hr px py e
  obtain rfl : u = Value.ref a := ry
  exact d_notIn (by omega) I g rx fun s3 I3 => ⟨.bl (!r.isSome), H, I3, rfl, by rw [eb]; exact q⟩
/-- a sign in a text -/
def inX (a b : D) (S : Hs) : Option Bool := match b with
  | .str l => match a with
    | .str [c] => some (l.contains c)
    | _ => none
  | _ => none
theorem inX_of {W : Wd} {μ ν : List Addr} {H : Hp} {x y : V} {dx dy : D} {S : Hs} {b : Bool} (rx : Rp W μ ν H x dx) (ry : Rp W μ ν H y dy) (e : inX dx dy S = some b) : ∃ (c : Nat) (z : Str), x = .str ⟨#[c]⟩ ∧ y = .str z ∧ b = decide (c ∈ z.cps.toList) := by
  unfold inX at e
  split at e
  case h_2 => cases e
  rename_i l
  split at e
  case h_2 => cases e
  rename_i c
  cases e
  cases rx
  cases ry
  exact ⟨c, _, rfl, rfl, List.contains_eq_mem c l⟩
theorem op_inTx {X : Cx} {W : Wd} : OpR X (compareOp .In) (rC W inX) := by
  refine OpR.imp op_in_sign fun x y H Q hq => ?_
  obtain ⟨S, μ, ν, dx, dy, b, h, rx, ry, e, q⟩ := hq
  obtain ⟨c, z, e1, e2, rfl⟩ := inX_of rx ry e
  exact ⟨c, z, e1, e2, q⟩
theorem op_ninTx {X : Cx} {W : Wd} : OpR X (compareOp .NotIn) (rC W fun a b S => (inX a b S).map (!·)) := by
  refine OpR.imp op_notIn_sign fun x y H Q hq => ?_
  obtain ⟨S, μ, ν, dx, dy, b, h, rx, ry, e, q⟩ := hq
  rw [Option.map_eq_some_iff] at e
  obtain ⟨b', e, rfl⟩ := e
  obtain ⟨c, z, e1, e2, rfl⟩ := inX_of rx ry e
  exact ⟨c, z, e1, e2, q⟩
theorem inT_cases {a b : D} {S : Hs} {r : Bool} (e : inT a b S = some r) : inX a b S = some r ∨ inA a b S = some r := by
  unfold inT at e
  split at e
  · exact .inl e
  · exact .inr e
theorem op_inC {X : Cx} {W : Wd} (hK : W.K = X.K) (hu : X.A.units + 64 < cLine) : OpR X (compareOp .In) (rC W (cmpD .isin)) := by
  refine OpR.imp (OpR.or (op_inTx (W := W)) (OpR.or (op_inK (W := W) hu) (op_inS hK hu))) fun x y H Q hq => ?_
  obtain ⟨S, μ, ν, dx, dy, b, h, rx, ry, e, q⟩ := hq
  have e : inT dx dy S = some b := e
  rcases inT_cases e with e | e
  · exact .inl ⟨S, μ, ν, dx, dy, b, h, rx, ry, e, q⟩
  refine .inr ?_
  unfold inA at e
  cases hd : dicP dy S with
  | none => rw [hd] at e; exact .inr ⟨S, μ, ν, dx, dy, b, h, rx, ry, e, q⟩
  | some p => rw [hd] at e; exact .inl ⟨S, μ, ν, dx, dy, b, h, rx, ry, by unfold inK; rw [hd]; exact e, q⟩
theorem op_ninC {X : Cx} {W : Wd} (hK : W.K = X.K) (hu : X.A.units + 64 < cLine) : OpR X (compareOp .NotIn) (rC W (cmpD .notin)) := by
  refine OpR.imp (OpR.or (op_ninTx (W := W)) (OpR.or (op_ninK (W := W) hu) (op_ninS hK hu))) fun x y H Q hq => ?_
  obtain ⟨S, μ, ν, dx, dy, b, h, rx, ry, e, q⟩ := hq
  have e : (inT dx dy S).map (!·) = some b := e
  obtain ⟨b', e2, e3⟩ := Option.map_eq_some_iff.mp e
  rcases inT_cases e2 with e4 | e4
  · exact .inl ⟨S, μ, ν, dx, dy, _, h, rx, ry, by show (inX dx dy S).map (!·) = some b; rw [e4, ← e3]; rfl, q⟩
  refine .inr ?_
  have e : (inA dx dy S).map (!·) = some b := by rw [e4, ← e3]; rfl
  unfold inA at e
  cases hd : dicP dy S with
  | none => rw [hd] at e; exact .inr ⟨S, μ, ν, dx, dy, b, h, rx, ry, e, q⟩
  | some p => rw [hd] at e; exact .inl ⟨S, μ, ν, dx, dy, b, h, rx, ry, by show (inK dx dy S).map (!·) = some b; unfold inK; rw [hd]; exact e, q⟩
/-! ### sorted -/
theorem insI_perm (x : Int) : ∀ l : List Int, (insI x l).Perm (x :: l)
  | [] => .refl _
  | y :: r => by
    unfold insI
    split
    · exact .refl _
    · exact ((insI_perm x r).cons y).trans (.swap x y r)
theorem sortI_perm : ∀ l : List Int, (sortI l).Perm l
  | [] => .refl _
  | x :: r => (insI_perm x (sortI r)).trans ((sortI_perm r).cons x)
theorem insI_mem {x : Int} {l : List Int} {z : Int} (h : z ∈ insI x l) : z = x ∨ z ∈ l := by
  have := (insI_perm x l).mem_iff.1 h
  simpa using this
theorem insI_sorted (x : Int) : ∀ l : List Int, l.Pairwise (· ≤ ·) → (insI x l).Pairwise (· ≤ ·)
  | [], _ => by simp [insI]
  | y :: r, h => by
    have h' := List.pairwise_cons.1 h
    unfold insI
    split
    · rename_i hxy
      refine List.pairwise_cons.2 ⟨fun z hz => ?_, h⟩
      rcases List.mem_cons.1 hz with rfl | hz
      · exact hxy
      · have := h'.1 z hz; omega
    · rename_i hxy
      refine List.pairwise_cons.2 ⟨fun z hz => ?_, insI_sorted x r h'.2⟩
      rcases insI_mem hz with rfl | hz
      · omega
      · exact h'.1 z hz
theorem sortI_sorted : ∀ l : List Int, (sortI l).Pairwise (· ≤ ·)
  | [] => .nil
  | x :: r => insI_sorted x _ (sortI_sorted r)
theorem sortI_of {ns ns' : List Int} (h : ns'.Perm ns) (hs : ns'.Pairwise (· ≤ ·)) : ns' = sortI ns :=
  List.Perm.eq_of_pairwise (fun a b _ _ h1 h2 => Int.le_antisymm h1 h2) hs (sortI_sorted ns) (h.trans (sortI_perm ns).symm)
theorem ltCps_eq : ∀ a b : List Nat, PySem.Spec.ltCps a b = ltL a b
  | [], [] => rfl
  | [], _ :: _ => rfl
  | _ :: _, [] => rfl
  | a :: r, b :: t => by
    show (decide (a < b) || (a == b && PySem.Spec.ltCps r t)) = (if Nat.blt a b then true else if Nat.beq a b then ltL r t else false)
    rw [ltCps_eq r t]
    by_cases h : a < b
    · have : Nat.blt a b = true := by simpa using h
      rw [this]; simp [h]
    · have : Nat.blt a b = false := by cases q : Nat.blt a b with | false => rfl | true => exact (h (Nat.le_of_ble_eq_true q)).elim
      rw [this]
      by_cases h2 : a = b
      · subst h2; simp
      · have : Nat.beq a b = false := by cases q : Nat.beq a b with | false => rfl | true => exact (h2 (Nat.eq_of_beq_eq_true q)).elim
        rw [this]; simp [h, h2]
theorem ltL_lt {a b : List Nat} : ltL a b = true ↔ a < b := by rw [ltL_iff]; simp
theorem insS_perm (x : List Nat) : ∀ l : List (List Nat), (insS x l).Perm (x :: l)
  | [] => .refl _
  | y :: r => by
    unfold insS
    split
    · exact ((insS_perm x r).cons y).trans (.swap x y r)
    · exact .refl _
theorem sortS_perm : ∀ l : List (List Nat), (sortS l).Perm l
  | [] => .refl _
  | x :: r => (insS_perm x (sortS r)).trans ((sortS_perm r).cons x)
abbrev leS (a b : List Nat) : Prop := ltL b a = false
theorem leS_iff {a b : List Nat} : leS a b ↔ ¬ b < a := by
  unfold leS
  rw [← Bool.not_eq_true, ltL_lt]
theorem leS_le {a b : List Nat} : leS a b ↔ a ≤ b := by rw [leS_iff, List.not_lt]
theorem leS_trans {a b c : List Nat} (h : leS a b) (h2 : leS b c) : leS a c := leS_le.2 (List.le_trans (leS_le.1 h) (leS_le.1 h2))
theorem insS_mem {x : List Nat} {l : List (List Nat)} {z : List Nat} (h : z ∈ insS x l) : z = x ∨ z ∈ l := by
  have := (insS_perm x l).mem_iff.1 h
  simpa using this
theorem insS_sorted (x : List Nat) : ∀ l : List (List Nat), l.Pairwise leS → (insS x l).Pairwise leS
  | [], _ => by simp [insS]
  | y :: r, h => by
    have h' := List.pairwise_cons.1 h
    unfold insS
    split
    · rename_i hxy
      refine List.pairwise_cons.2 ⟨fun z hz => ?_, insS_sorted x r h'.2⟩
      rcases insS_mem hz with rfl | hz
      · rw [leS_iff]
        exact fun q => List.lt_asymm (ltL_lt.1 hxy) q
      · exact h'.1 z hz
    · rename_i hxy
      have hxy : leS x y := by simpa using hxy
      refine List.pairwise_cons.2 ⟨fun z hz => ?_, h⟩
      rcases List.mem_cons.1 hz with rfl | hz
      · exact hxy
      · exact leS_trans hxy (h'.1 z hz)
theorem sortS_sorted : ∀ l : List (List Nat), (sortS l).Pairwise leS
  | [] => .nil
  | x :: r => insS_sorted x _ (sortS_sorted r)
def cpsL (x : Str) : List Nat := x.cps.toList
theorem rising_all : ∀ (l : List Str) (p : Str), risingS p l = true → (∀ x ∈ l, leS (cpsL p) (cpsL x)) ∧ (l.map cpsL).Pairwise leS
  | [], p, _ => ⟨by simp, .nil⟩
  | x :: r, p, h => by
    unfold risingS at h
    rw [Bool.and_eq_true, Bool.not_eq_true', ltCps_eq] at h
    obtain ⟨h1, h2⟩ := rising_all r x h.2
    have h0 : leS (cpsL p) (cpsL x) := h.1
    refine ⟨fun y hy => ?_, List.pairwise_cons.2 ⟨fun y hy => ?_, h2⟩⟩
    · rcases List.mem_cons.1 hy with rfl | hy
      · exact h0
      · exact leS_trans h0 (h1 y hy)
    · obtain ⟨z, hz, rfl⟩ := List.mem_map.1 hy
      exact h1 z hz
theorem sorted_pw {l : List Str} (h : sortedS l = true) : (l.map cpsL).Pairwise leS := by
  cases l with
  | nil => exact .nil
  | cons x r =>
    obtain ⟨h1, h2⟩ := rising_all r x h
    refine List.pairwise_cons.2 ⟨fun y hy => ?_, h2⟩
    obtain ⟨z, hz, rfl⟩ := List.mem_map.1 hy
    exact h1 z hz
theorem sortS_of {ss : List (List Nat)} {ys : List Str} (h : ys.Perm (ss.map fun l => (⟨l.toArray⟩ : Str))) (hs : sortedS ys = true) : ys = (sortS ss).map fun l => (⟨l.toArray⟩ : Str) := by
  have h1 : (ys.map cpsL).Perm ss := by
    have := h.map cpsL
    rw [List.map_map] at this
    have e : (cpsL ∘ fun l : List Nat => (⟨l.toArray⟩ : Str)) = id := by funext l; simp [cpsL]
    rw [e, List.map_id] at this
    exact this
  have h2 : ys.map cpsL = sortS ss := List.Perm.eq_of_pairwise (fun a b _ _ h1 h2 => by
    exact List.le_antisymm (leS_le.1 h1) (leS_le.1 h2)) (sorted_pw hs) (sortS_sorted ss) (h1.trans (sortS_perm ss).symm)
  rw [← h2, List.map_map]
  have e : ((fun l : List Nat => (⟨l.toArray⟩ : Str)) ∘ cpsL) = id := by funext x; simp [cpsL]
  rw [e, List.map_id]
theorem allStr_of {W : Wd} {μ ν : List Addr} {H : Hp} : ∀ {vs : List V} {ds : List D} {ss : List (List Nat)}, Rps W μ ν H vs ds → allStr ds = some ss → vs = ss.map (fun l => V.str ⟨l.toArray⟩) ∧ ∀ l ∈ ss, l.length ≤ lim ∧ ∀ c ∈ l, c < 1114112
  | _, _, _, .nil, e => by cases e; exact ⟨rfl, by simp⟩
  | _, _, _, .cons h r, e => by
    cases h <;> simp only [allStr] at e <;> try (cases e; done)
    rename_i l h1 h2
    simp only [Option.map_eq_some_iff] at e
    obtain ⟨m, hm, rfl⟩ := e
    obtain ⟨e1, e2⟩ := allStr_of r hm
    refine ⟨by rw [e1]; rfl, fun x hx => ?_⟩
    rcases List.mem_cons.1 hx with rfl | hx
    · exact ⟨h1, h2⟩
    · exact e2 x hx
theorem rps_strs {W : Wd} {μ ν : List Addr} {H : Hp} : ∀ {ss : List (List Nat)}, (∀ l ∈ ss, l.length ≤ lim ∧ ∀ c ∈ l, c < 1114112) → Rps W μ ν H (ss.map fun l => V.str ⟨l.toArray⟩) (ss.map D.str)
  | [], _ => .nil
  | l :: r, h => .cons (.str l (h l (by simp)).1 (h l (by simp)).2) (rps_strs fun x hx => h x (List.mem_cons_of_mem _ hx))
theorem kint_of : ∀ {kvs : List (Key × V)} {ks : List D} {ns : List Int}, Ks (kvs.map Prod.fst) ks → allInt ks = some ns → kvs.map (·.1) = ns.map Sum.inl
  | [], [], _, _, e => by cases e; rfl
  | [], _ :: _, _, h, _ => by cases h
  | _ :: _, [], _, h, _ => by cases h
  | p :: r, _ :: _, _, .cons a b, e => by
    cases hp : p.1 <;> rw [hp] at a <;> cases a <;> simp only [allInt] at e
    · simp only [Option.map_eq_some_iff] at e
      obtain ⟨m, hm, rfl⟩ := e
      rw [List.map_cons, List.map_cons, kint_of b hm, hp]
    · cases e
theorem kstr_of : ∀ {kvs : List (Key × V)} {ks : List D} {ss : List (List Nat)}, Ks (kvs.map Prod.fst) ks → allStr ks = some ss → kvs.map (·.1) = (ss.map fun l => (⟨l.toArray⟩ : Str)).map Sum.inr ∧ ∀ l ∈ ss, l.length ≤ lim ∧ ∀ c ∈ l, c < 1114112
  | [], [], _, _, e => by cases e; exact ⟨rfl, by simp⟩
  | [], _ :: _, _, h, _ => by cases h
  | _ :: _, [], _, h, _ => by cases h
  | p :: r, _ :: _, _, .cons a b, e => by
    cases hp : p.1 <;> rw [hp] at a <;> cases a <;> simp only [allStr] at e
    · cases e
    · rename_i l h1 h2
      simp only [Option.map_eq_some_iff] at e
      obtain ⟨m, hm, rfl⟩ := e
      obtain ⟨e1, e2⟩ := kstr_of b hm
      refine ⟨by rw [List.map_cons, e1, hp]; rfl, fun x hx => ?_⟩
      rcases List.mem_cons.1 hx with rfl | hx
      · exact ⟨h1, h2⟩
      · exact e2 x hx
theorem strs_back {ss : List (List Nat)} (h : ∀ l ∈ ss, l.length ≤ lim ∧ ∀ c ∈ l, c < 1114112) : ∀ l ∈ sortS ss, l.length ≤ lim ∧ ∀ c ∈ l, c < 1114112 := fun l hl => h l ((sortS_perm ss).mem_iff.1 hl)
theorem bi_sorted {X : Cx} {W : Wd} (hK : W.K = X.K) (hc : X.calm = true) : CallR X (.builtin "sorted") (rBi W .sorted) := by
  refine CallR.imp (CallR.or (CallR.or cr_sortedI cr_sortedS) (CallR.or (call_sortedDI hc) (call_sortedD hc))) fun xs H Q hq => ?_
  obtain ⟨S, μ, ν, ds, d, h, rs, e, q⟩ := hq
  unfold biD at e
  simp only at e
  split at e <;> try (cases e; done)
  obtain ⟨x, rfl, rx⟩ := rps1 rs
  split at e
  · rename_i t ks vs hd
    split at e
    case isFalse => cases e
    rename_i hf
    rw [Bool.and_eq_true, Bool.not_eq_true'] at hf
    obtain ⟨rfl, hlen⟩ := hf
    have hlen := Nat.le_of_ble_eq_true hlen
    obtain ⟨a, kvs, rfl, rd, k, r⟩ := dic_at h rx hd
    have hl := k.length
    rw [List.length_map] at hl
    unfold sortD at e
    split at e
    · rename_i ns hns
      cases e
      have kk := kint_of k hns
      have hl2 : ns.length = kvs.length := by have := congrArg List.length kk; simpa using this.symm
      refine .inr (.inl ⟨a, kvs, ns, rfl, rd, kk, by omega, fun ys p hp hs hn => ?_⟩)
      rw [sortI_of hp hs]
      exact q.lst h Rps.ints p hn
    · split at e
      · rename_i ss hss
        split at e
        case isFalse => cases e
        cases e
        obtain ⟨kk, hb⟩ := kstr_of k hss
        have hl2 : ss.length = kvs.length := by have := congrArg List.length kk; simpa using this.symm
        refine .inr (.inr ⟨a, kvs, _, rfl, rd, kk, by rw [List.length_map]; omega, fun ys p hp hs hn => ?_⟩)
        rw [sortS_of hp hs, List.map_map]
        exact q.lst h (rps_strs (strs_back hb)) p hn
      · cases e
  · simp only [Option.bind_eq_some_iff] at e
    obtain ⟨l, hl, e⟩ := e
    obtain ⟨a, vs, rfl, hv, rv⟩ := lst_at h rx hl
    unfold sortD at e
    split at e
    · rename_i ns hns
      cases e
      rw [allInt_of rv hns] at hv
      refine .inl (.inl ⟨a, ns, rfl, .inl (.inl hv), fun ys p hp hs hn => ?_⟩)
      rw [sortI_of hp hs]
      exact q.lst h Rps.ints p hn
    · split at e
      · rename_i ss hss
        split at e
        case isFalse => cases e
        rename_i hlen
        have hlen := Nat.le_of_ble_eq_true hlen
        cases e
        obtain ⟨kk, hb⟩ := allStr_of rv hss
        rw [kk, show (ss.map fun l => V.str ⟨l.toArray⟩) = (ss.map fun l => (⟨l.toArray⟩ : Str)).map V.str by rw [List.map_map]; rfl] at hv
        refine .inl (.inr ⟨a, _, rfl, .inl (.inl hv), by rw [List.length_map]; omega, fun ys p hp hs hn => ?_⟩)
        rw [sortS_of hp hs, List.map_map]
        exact q.lst h (rps_strs (strs_back hb)) p hn
      · cases e
end EW

/-! EW: zip of two and of three, enumerate: of lists and tuples in any mixture. -/
namespace EW
open PySem PySem.Spec PyProof.Rows L2

inductive SK where
  | l | t
def SqK (K : PySem.W.Frag) (k : SK) (H : Hp) (a : Addr) (xs : List V) : Prop := match k with
  | .l => SqL K H a xs
  | .t => SqT K H a xs
def ItK (k : SK) (h : Heap) (it a : Addr) (i : Nat) : Prop := match k with
  | .l => h.IsListIter it a i
  | .t => h.IsTupleIter it a i
def ObK (k : SK) (h : Heap) (a : Addr) (xs : Array Value) : Prop := match k with
  | .l => h.IsList a xs
  | .t => h.IsTuple a xs
def obK (k : SK) (a : Addr) : Obj := match k with
  | .l => { cls := .type "list_iterator", data := .fields #[.ref a, .int 0 0] }
  | .t => { cls := .type "tuple_iterator", data := .fields #[.ref a, .int 0 0] }
theorem obK_it {k : SK} {h : Heap} {it a : Addr} (e : h.get? it = some (obK k a)) : ItK k h it a 0 := by
  cases k
  · exact ⟨_, e, rfl, rfl⟩
  · exact ⟨_, e, rfl, rfl⟩
theorem ItK.obj {k : SK} {h : Heap} {it a : Addr} {i : Nat} (e : ItK k h it a i) : ∃ o, h.get? it = some o ∧ ∀ v, o.data ≠ .cell v := by
  cases k
  · obtain ⟨o, ho, _, d⟩ := e; exact ⟨o, ho, fun v q => by rw [d] at q; cases q⟩
  · obtain ⟨o, ho, _, d⟩ := e; exact ⟨o, ho, fun v q => by rw [d] at q; cases q⟩
theorem ItK.at {k : SK} {h h' : Heap} {it a : Addr} {i : Nat} (e : ItK k h it a i) (q : ∀ o, h.get? it = some o → h'.get? it = some o) : ItK k h' it a i := by
  cases k
  · exact Heap.IsListIter.at e q
  · exact Heap.IsTupleIter.at e q
theorem ObK.lt {k : SK} {h : Heap} {a : Addr} {xs : Array Value} (e : ObK k h a xs) : a < h.objs.size := by
  cases k
  · obtain ⟨o, ho, _⟩ := e; exact Heap.lt_size ho
  · obtain ⟨o, ho, _⟩ := e; exact Heap.lt_size ho
theorem beginsK (k : SK) (a : Addr) (xs : Array Value) : Begins (.ref a) (obK k a) fun h => ObK k h a xs := by
  cases k
  · exact begins_list a xs
  · exact begins_tuple a xs
theorem drawsK {prog : Program} {w : World} {A : Around} (hh : A.handled = none) (k : SK) (it a : Addr) (hne : a ≠ it) (items : Array Value) :
    Draws prog w A it [it, a] items.size (fun i v => items[i]? = some v) (fun i h => ItK k h it a i ∧ ObK k h a items) := by
  cases k
  · exact Draws.list hh it a hne items
  · exact Draws.tuple hh it a hne items
section
variable {X : Cx} {pins : List (Addr × Obj)} {σ : L2.St} {H : Hp} {s : Shared}
theorem inv_sq (I : Inv X pins σ H s) {k : SK} {a : Addr} {xs : List V} (h : SqK X.K k H a xs) : ∃ its, Vals xs its ∧ ObK k s.heap a its.toArray := by
  cases k
  · obtain ⟨its, rv, p, _⟩ := I.list h; exact ⟨its, rv, p.isList⟩
  · obtain ⟨its, rv, p, _⟩ := I.tuple h; exact ⟨its, rv, p⟩
theorem inv_inj (I : Inv X pins σ H s) {k : SK} {a : Addr} {xs ys : List V} (h : SqK X.K k H a xs) (h2 : SqK X.K k H a ys) : xs = ys := by
  cases k
  · exact I.list_inj h h2
  · exact I.tuple_inj h h2
end

/-! ### zip of two -/
def Itz2 (K : PySem.W.Frag) (k1 k2 : SK) (a b : Addr) : It :=
  ⟨fun i H => ∃ (xs ys : List V) (x y : V), SqK K k1 H a xs ∧ SqK K k2 H b ys ∧ xs[i]? = some x ∧ ys[i]? = some y,
    fun i H v H' => ∃ T x y, v = .ref T ∧ H T = none ∧ H' = upd H T (.tup [x, y]) ∧ (∀ xs, SqK K k1 H a xs → xs[i]? = some x) ∧ ∀ ys, SqK K k2 H b ys → ys[i]? = some y,
    fun i H => ∃ xs ys : List V, SqK K k1 H a xs ∧ SqK K k2 H b ys ∧ i ≤ xs.length ∧ i ≤ ys.length ∧ (i = xs.length ∨ i = ys.length)⟩
theorem turn_zip2 {P : Program} {w : World} {K : PySem.W.Frag} {elts : List Expr} {kk : Nat} {tpos : Pos} {k1 k2 : SK} {a b z TI TO i1 i2 : Addr} (S : ZipSep2 z TI TO i1 i2 [i1, a] [i2, b]) (n1 : a ≠ i1) (n2 : b ≠ i2) :
    Turn P w K (.Tuple elts kk tpos) (Itz2 K k1 k2 a b) [z, TI, TO, i1, i2] z (fun i h => IsZip h z TI TO .none ∧ IsTupOf2 h TI (.ref i1) (.ref i2) ∧ (∃ x y, IsTupOf2 h TO x y) ∧ ItK k1 h i1 a i ∧ ItK k2 h i2 b i) where
  mem := by simp
  obj := fun i h st c hc => by
    obtain ⟨hz, hTI, ⟨x, y, hTO⟩, h1, h2⟩ := st
    have e' : c = z ∨ c = TI ∨ c = TO ∨ c = i1 ∨ c = i2 := by simpa using hc
    rcases e' with q | q | q | q | q
    · rw [q]; exact ⟨_, hz, fun v q => nomatch q⟩
    · rw [q]; exact ⟨_, hTI, fun v q => nomatch q⟩
    · rw [q]; exact ⟨_, hTO, fun v q => nomatch q⟩
    · rw [q]; exact h1.obj
    · rw [q]; exact h2.obj
  keep := fun i h h' st k => by
    obtain ⟨hz, hTI, ⟨x, y, hTO⟩, h1, h2⟩ := st
    exact ⟨k z (by simp) _ hz, k TI (by simp) _ hTI, ⟨x, y, k TO (by simp) _ hTO⟩, h1.at fun o q => k i1 (by simp) o q, h2.at fun o q => k i2 (by simp) o q⟩
  item := by
    intro X hP hw hK hc i pins s σ H E I hf st hg
    subst hP hw hK
    obtain ⟨hz, hTI, ⟨x0, y0, hTO⟩, h1, h2⟩ := st
    obtain ⟨xs, ys, x, y, hqx, hqy, hx, hy⟩ := hg
    obtain ⟨its, rv, p⟩ := inv_sq I hqx
    obtain ⟨its2, rv2, p2⟩ := inv_sq I hqy
    obtain ⟨u, hu, ru⟩ := rv.get hx
    obtain ⟨u2, hu2, ru2⟩ := rv2.get hy
    have hh := I.ok.hd hc
    have hzl : z < s.heap.objs.size := Heap.lt_size hz
    have hlt1 : i < its.toArray.size := by have := (List.getElem?_eq_some_iff.mp hu).1; simpa using this
    have hlt2 : i < its2.toArray.size := by have := (List.getElem?_eq_some_iff.mp hu2).1; simpa using this
    refine wpAny_pyNext_zipD2_item S (drawsK (A := X.A.in1) hh k1 i1 a n1 its.toArray) (drawsK (A := X.A.in1) hh k2 i2 b n2 its2.toArray) hz hTI hTO ⟨h1, p⟩ ⟨h2, p2⟩ hlt1 hlt2 fun x1 x2 h' tk y1 y2 z' TO' st1 st2 hT hsz hk => ?_
    have e1 : x1 = u := by have q : its[i]? = some x1 := by simpa using y1
                           rw [hu] at q; exact (Option.some.inj q).symm
    have e2 : x2 = u2 := by have q : its2[i]? = some x2 := by simpa using y2
                            rw [hu2] at q; exact (Option.some.inj q).symm
    subst e1 e2
    refine ⟨_, rfl, wpAny_letOwnedTupleGo_zip (s := { s with heap := h', toks := tk }) z' fun h'' z'' sb => ?_⟩
    have hT2 : h''.get? s.heap.objs.size = some { cls := .type "tuple", data := .seq #[x1, x2] } := (sb.2 _ (Nat.ne_of_gt hzl)).trans hT
    have new : ObjOk X.prog X.w (upd H s.heap.objs.size (.tup [x, y])) h'' s.heap.objs.size (.tup [x, y]) :=
      ⟨by show 2 ≤ sizeLine; decide, [x1, x2], .cons ru (.cons ru2 .nil), ⟨_, hT2, rfl, _, rfl⟩⟩
    have I1 : Inv X pins σ (upd H s.heap.objs.size (.tup [x, y])) { s with heap := h'', toks := tk } :=
      I.turnedNew (t' := tk) (ch := [z, TI, TO, i1, i2]) (fun c o hb q => (sb.2 c (fun q' => hb (by simp [q']))).trans (hk c o (fun q' => hb (by simp [q'])) (fun q' => hb (by simp [q'])) (fun q' => hb (by simp [q'])) (fun q' => hb (by simp [q'])) q)) hf (Nat.le_refl _) new
    have i1z : i1 ≠ z := Ne.symm S.zi1
    have i2z : i2 ≠ z := Ne.symm S.zi2
    refine ⟨.ref s.heap.objs.size, _, I1, rfl, ⟨_, x, y, rfl, I.hok.fresh (Nat.le_refl _), rfl, fun l hl => by rw [inv_inj I hl hqx]; exact hx, fun l hl => by rw [inv_inj I hl hqy]; exact hy⟩, ⟨z'', ?_, ⟨x1, x2, ?_⟩, ?_, ?_⟩, fun c hcm => ?_⟩
    · exact (sb.2 _ S.TIz).trans (hk _ _ S.TIz S.TITO S.TIi1 S.TIi2 hTI)
    · exact (sb.2 _ S.TOz).trans TO'
    · exact st1.1.at fun o q => (sb.2 _ i1z).trans q
    · exact st2.1.at fun o q => (sb.2 _ i2z).trans q
    · have hlt : c < s.heap.objs.size := by
        have e' : c = z ∨ c = TI ∨ c = TO ∨ c = i1 ∨ c = i2 := by simpa using hcm
        rcases e' with q | q | q | q | q
        · rw [q]; exact hzl
        · rw [q]; exact Heap.lt_size hTI
        · rw [q]; exact Heap.lt_size hTO
        · rw [q]; obtain ⟨_, e1, _⟩ := h1.obj; exact Heap.lt_size e1
        · rw [q]; obtain ⟨_, e2, _⟩ := h2.obj; exact Heap.lt_size e2
      rw [upd_ne (Nat.ne_of_lt hlt)]
      exact (hf c hcm).1
  done := by
    intro X hP hw hK hc i pins s σ H E I hf st hg
    subst hP hw hK
    obtain ⟨hz, hTI, ⟨x0, y0, hTO⟩, h1, h2⟩ := st
    obtain ⟨xs, ys, hqx, hqy, hl1, hl2, hend⟩ := hg
    obtain ⟨its, rv, p⟩ := inv_sq I hqx
    obtain ⟨its2, rv2, p2⟩ := inv_sq I hqy
    have l1 := rv.length
    have l2 := rv2.length
    have hh := I.ok.hd hc
    exact wpAny_pyNext_zipD2_end S (drawsK (A := X.A.in1) hh k1 i1 a n1 its.toArray) (drawsK (A := X.A.in1) hh k2 i2 b n2 its2.toArray) hz hTI hTO ⟨h1, p⟩ ⟨h2, p2⟩ (by simp; omega) (by simp; omega) (by simp; omega) fun h' tk hk => ⟨rfl, I.turnedL (t' := tk) (ch := [z, TI, TO, i1, i2]) (fun c o hb q =>
      hk c o (fun q' => hb (by simp [q'])) (fun q' => hb (by simp [q'])) (fun q' => hb (by simp [q'])) (fun q' => hb (by simp [q'])) q) hf⟩
  self := fun A i s Q E st h => wpAny_pyIter_zip st.1 h

def iZip2 (K : PySem.W.Frag) (ta : TA) : TI := fun σ H R => ta σ H fun vs H1 => ∃ k1 k2 a b xs ys, vs = [.ref a, .ref b] ∧ SqK K k1 H1 a xs ∧ SqK K k2 H1 b ys ∧ R (Itz2 K k1 k2 a b) H1
theorem pi_zip2 {X : Cx} {e e2 : Expr} {ta : TA} {p pos tpos : Pos} {elts : List Expr} {kk : Nat} (hg : Gl X "zip") (hm : X.mg "zip" = none) (ha : PA X [e, e2] ta)
    (hs : starEach [e, e2] X.env = (false, eval e X.env) :: starEach [e2] X.env := by rfl) (hpl : (backTo pos (starEach [e2] X.env)).any (·.1) = false := by rfl) :
    PI X (.Tuple elts kk tpos) (.Call (.Name "zip" p) [e, e2] [] pos) (iZip2 X.K ta) := by
  refine ⟨fun pins s σ H R I h => ?_⟩
  refine Call_ (ld_blt I hg hm PyProof.Rows.boot_zip (PyProof.Rows.callWith_type1 (thn (ha.run pos pins s σ H _ I h) fun us s1 ⟨vs, H1, I1, r1, q1⟩ => ?_) hs hpl))
  obtain ⟨k1, k2, a, b, xs, ys, ex, hqx, hqy, q⟩ := q1
  subst ex
  cases r1 with
  | cons r rr =>
    cases rr with
    | cons r' rr =>
      cases rr
      cases r
      cases r'
      obtain ⟨its, rv, p1⟩ := inv_sq I1 hqx
      obtain ⟨its2, rv2, p2⟩ := inv_sq I1 hqy
      have la := p1.lt
      have lb := p2.lt
      refine zip_begins2 (beginsK k1 a its.toArray) (beginsK k2 b its2.toArray) p1 p2 fun h' hz hTI hTO g1 g2 hsz hk => wpAny_pyIter_zip hz ?_
      have I2 : Inv X pins σ H1 { s1 with heap := h' } := I1.kept (t' := s1.toks) hk
      refine ⟨s1.heap.objs.size + 4, [s1.heap.objs.size + 4, s1.heap.objs.size + 2, s1.heap.objs.size + 3, s1.heap.objs.size, s1.heap.objs.size + 1], _, _, H1, rfl, I2,
        turn_zip2 (zip_sep2 (N := s1.heap.objs.size) (fp1 := [a]) (fp2 := [b]) (fun c hc => by rw [List.mem_singleton.mp hc]; exact la) (fun c hc => by rw [List.mem_singleton.mp hc]; exact lb)) (Nat.ne_of_lt la) (Nat.ne_of_lt (Nat.lt_succ_of_lt lb)),
        ⟨hz, hTI, ⟨_, _, hTO⟩, obK_it g1, obK_it g2⟩, fun c hcm => ?_, q⟩
      have e' : c = s1.heap.objs.size + 4 ∨ c = s1.heap.objs.size + 2 ∨ c = s1.heap.objs.size + 3 ∨ c = s1.heap.objs.size ∨ c = s1.heap.objs.size + 1 := by simpa using hcm
      have hle : s1.heap.objs.size ≤ c := by
        rcases e' with z | z | z | z | z
        · rw [z]; exact Nat.le_add_right _ _
        · rw [z]; exact Nat.le_add_right _ _
        · rw [z]; exact Nat.le_add_right _ _
        · rw [z]; exact Nat.le_refl _
        · rw [z]; exact Nat.le_add_right _ _
      exact I1.fpOk hle (I1.hok.fresh hle)
/-! ### zip of three -/
def Itz3 (K : PySem.W.Frag) (k1 k2 k3 : SK) (a b c' : Addr) : It :=
  ⟨fun i H => ∃ (xs ys zs : List V) (x y v3 : V), SqK K k1 H a xs ∧ SqK K k2 H b ys ∧ SqK K k3 H c' zs ∧ xs[i]? = some x ∧ ys[i]? = some y ∧ zs[i]? = some v3,
    fun i H v H' => ∃ T x y v3, v = .ref T ∧ H T = none ∧ H' = upd H T (.tup [x, y, v3]) ∧ (∀ xs, SqK K k1 H a xs → xs[i]? = some x) ∧ (∀ ys, SqK K k2 H b ys → ys[i]? = some y) ∧ ∀ zs, SqK K k3 H c' zs → zs[i]? = some v3,
    fun i H => ∃ xs ys zs : List V, SqK K k1 H a xs ∧ SqK K k2 H b ys ∧ SqK K k3 H c' zs ∧ i ≤ xs.length ∧ i ≤ ys.length ∧ i ≤ zs.length ∧ (i = xs.length ∨ i = ys.length ∨ i = zs.length)⟩
theorem turn_zip3 {P : Program} {w : World} {K : PySem.W.Frag} {elts : List Expr} {kk : Nat} {tpos : Pos} {k1 k2 k3 : SK} {a b c' z TI TO i1 i2 i3 : Addr} (S : ZipSep3 z TI TO i1 i2 i3 [i1, a] [i2, b] [i3, c']) (n1 : a ≠ i1) (n2 : b ≠ i2) (n3 : c' ≠ i3) :
    Turn P w K (.Tuple elts kk tpos) (Itz3 K k1 k2 k3 a b c') [z, TI, TO, i1, i2, i3] z (fun i h => IsZip h z TI TO .none ∧ IsTupOf3 h TI (.ref i1) (.ref i2) (.ref i3) ∧ (∃ x y x3, IsTupOf3 h TO x y x3) ∧ ItK k1 h i1 a i ∧ ItK k2 h i2 b i ∧ ItK k3 h i3 c' i) where
  mem := by simp
  obj := fun i h st c hc => by
    obtain ⟨hz, hTI, ⟨x, y, x3, hTO⟩, h1, h2, h3⟩ := st
    have e' : c = z ∨ c = TI ∨ c = TO ∨ c = i1 ∨ c = i2 ∨ c = i3 := by simpa using hc
    rcases e' with q | q | q | q | q | q
    · rw [q]; exact ⟨_, hz, fun v q => nomatch q⟩
    · rw [q]; exact ⟨_, hTI, fun v q => nomatch q⟩
    · rw [q]; exact ⟨_, hTO, fun v q => nomatch q⟩
    · rw [q]; exact h1.obj
    · rw [q]; exact h2.obj
    · rw [q]; exact h3.obj
  keep := fun i h h' st k => by
    obtain ⟨hz, hTI, ⟨x, y, x3, hTO⟩, h1, h2, h3⟩ := st
    exact ⟨k z (by simp) _ hz, k TI (by simp) _ hTI, ⟨x, y, x3, k TO (by simp) _ hTO⟩, h1.at fun o q => k i1 (by simp) o q, h2.at fun o q => k i2 (by simp) o q, h3.at fun o q => k i3 (by simp) o q⟩
  item := by
    intro X hP hw hK hc i pins s σ H E I hf st hg
    subst hP hw hK
    obtain ⟨hz, hTI, ⟨x0, y0, w0, hTO⟩, h1, h2, h3⟩ := st
    obtain ⟨xs, ys, zs, x, y, v3, hqx, hqy, hqz, hx, hy, hzz⟩ := hg
    obtain ⟨its, rv, p⟩ := inv_sq I hqx
    obtain ⟨its2, rv2, p2⟩ := inv_sq I hqy
    obtain ⟨its3, rv3, p3⟩ := inv_sq I hqz
    obtain ⟨u, hu, ru⟩ := rv.get hx
    obtain ⟨u2, hu2, ru2⟩ := rv2.get hy
    obtain ⟨u3, hu3, ru3⟩ := rv3.get hzz
    have hh := I.ok.hd hc
    have hzl : z < s.heap.objs.size := Heap.lt_size hz
    have hlt1 : i < its.toArray.size := by have := (List.getElem?_eq_some_iff.mp hu).1; simpa using this
    have hlt2 : i < its2.toArray.size := by have := (List.getElem?_eq_some_iff.mp hu2).1; simpa using this
    have hlt3 : i < its3.toArray.size := by have := (List.getElem?_eq_some_iff.mp hu3).1; simpa using this
    refine wpAny_pyNext_zipD3_item S (drawsK (A := X.A.in1) hh k1 i1 a n1 its.toArray) (drawsK (A := X.A.in1) hh k2 i2 b n2 its2.toArray) (drawsK (A := X.A.in1) hh k3 i3 c' n3 its3.toArray) hz hTI hTO ⟨h1, p⟩ ⟨h2, p2⟩ ⟨h3, p3⟩ hlt1 hlt2 hlt3 fun x1 x2 x3 h' tk y1 y2 y3 z' TO' st1 st2 st3 hT hsz hk => ?_
    have e1 : x1 = u := by have q : its[i]? = some x1 := by simpa using y1
                           rw [hu] at q; exact (Option.some.inj q).symm
    have e2 : x2 = u2 := by have q : its2[i]? = some x2 := by simpa using y2
                            rw [hu2] at q; exact (Option.some.inj q).symm
    have e3 : x3 = u3 := by have q : its3[i]? = some x3 := by simpa using y3
                            rw [hu3] at q; exact (Option.some.inj q).symm
    subst e1 e2 e3
    refine ⟨_, rfl, wpAny_letOwnedTupleGo_zip (s := { s with heap := h', toks := tk }) z' fun h'' z'' sb => ?_⟩
    have hT2 : h''.get? s.heap.objs.size = some { cls := .type "tuple", data := .seq #[x1, x2, x3] } := (sb.2 _ (Nat.ne_of_gt hzl)).trans hT
    have new : ObjOk X.prog X.w (upd H s.heap.objs.size (.tup [x, y, v3])) h'' s.heap.objs.size (.tup [x, y, v3]) :=
      ⟨by show 3 ≤ sizeLine; decide, [x1, x2, x3], .cons ru (.cons ru2 (.cons ru3 .nil)), ⟨_, hT2, rfl, _, rfl⟩⟩
    have I1 : Inv X pins σ (upd H s.heap.objs.size (.tup [x, y, v3])) { s with heap := h'', toks := tk } :=
      I.turnedNew (t' := tk) (ch := [z, TI, TO, i1, i2, i3]) (fun c o hb q => (sb.2 c (fun q' => hb (by simp [q']))).trans (hk c o (fun q' => hb (by simp [q'])) (fun q' => hb (by simp [q'])) (fun q' => hb (by simp [q'])) (fun q' => hb (by simp [q'])) (fun q' => hb (by simp [q'])) q)) hf (Nat.le_refl _) new
    have i1z : i1 ≠ z := Ne.symm S.zi1
    have i2z : i2 ≠ z := Ne.symm S.zi2
    have i3z : i3 ≠ z := Ne.symm S.zi3
    refine ⟨.ref s.heap.objs.size, _, I1, rfl, ⟨_, x, y, v3, rfl, I.hok.fresh (Nat.le_refl _), rfl, fun l hl => by rw [inv_inj I hl hqx]; exact hx, fun l hl => by rw [inv_inj I hl hqy]; exact hy, fun l hl => by rw [inv_inj I hl hqz]; exact hzz⟩, ⟨z'', ?_, ⟨x1, x2, x3, ?_⟩, ?_, ?_, ?_⟩, fun c hcm => ?_⟩
    · exact (sb.2 _ S.TIz).trans (hk _ _ S.TIz S.TITO S.TIi1 S.TIi2 S.TIi3 hTI)
    · exact (sb.2 _ S.TOz).trans TO'
    · exact st1.1.at fun o q => (sb.2 _ i1z).trans q
    · exact st2.1.at fun o q => (sb.2 _ i2z).trans q
    · exact st3.1.at fun o q => (sb.2 _ i3z).trans q
    · have hlt : c < s.heap.objs.size := by
        have e' : c = z ∨ c = TI ∨ c = TO ∨ c = i1 ∨ c = i2 ∨ c = i3 := by simpa using hcm
        rcases e' with q | q | q | q | q | q
        · rw [q]; exact hzl
        · rw [q]; exact Heap.lt_size hTI
        · rw [q]; exact Heap.lt_size hTO
        · rw [q]; obtain ⟨_, e1, _⟩ := h1.obj; exact Heap.lt_size e1
        · rw [q]; obtain ⟨_, e2, _⟩ := h2.obj; exact Heap.lt_size e2
        · rw [q]; obtain ⟨_, e2, _⟩ := h3.obj; exact Heap.lt_size e2
      rw [upd_ne (Nat.ne_of_lt hlt)]
      exact (hf c hcm).1
  done := by
    intro X hP hw hK hc i pins s σ H E I hf st hg
    subst hP hw hK
    obtain ⟨hz, hTI, ⟨x0, y0, w0, hTO⟩, h1, h2, h3⟩ := st
    obtain ⟨xs, ys, zs, hqx, hqy, hqz, hl1, hl2, hl3, hend⟩ := hg
    obtain ⟨its, rv, p⟩ := inv_sq I hqx
    obtain ⟨its2, rv2, p2⟩ := inv_sq I hqy
    obtain ⟨its3, rv3, p3⟩ := inv_sq I hqz
    have l1 := rv.length
    have l2 := rv2.length
    have l3 := rv3.length
    have hh := I.ok.hd hc
    exact wpAny_pyNext_zipD3_end S (drawsK (A := X.A.in1) hh k1 i1 a n1 its.toArray) (drawsK (A := X.A.in1) hh k2 i2 b n2 its2.toArray) (drawsK (A := X.A.in1) hh k3 i3 c' n3 its3.toArray) hz hTI hTO ⟨h1, p⟩ ⟨h2, p2⟩ ⟨h3, p3⟩ (by simp; omega) (by simp; omega) (by simp; omega) (by simp; omega) fun h' tk hk => ⟨rfl, I.turnedL (t' := tk) (ch := [z, TI, TO, i1, i2, i3]) (fun c o hb q =>
      hk c o (fun q' => hb (by simp [q'])) (fun q' => hb (by simp [q'])) (fun q' => hb (by simp [q'])) (fun q' => hb (by simp [q'])) (fun q' => hb (by simp [q'])) q) hf⟩
  self := fun A i s Q E st h => wpAny_pyIter_zip st.1 h

def iZip3 (K : PySem.W.Frag) (ta : TA) : TI := fun σ H R => ta σ H fun vs H1 => ∃ k1 k2 k3 a b c' xs ys zs, vs = [.ref a, .ref b, .ref c'] ∧ SqK K k1 H1 a xs ∧ SqK K k2 H1 b ys ∧ SqK K k3 H1 c' zs ∧ R (Itz3 K k1 k2 k3 a b c') H1
theorem pi_zip3 {X : Cx} {e e2 e3 : Expr} {ta : TA} {p pos tpos : Pos} {elts : List Expr} {kk : Nat} (hg : Gl X "zip") (hm : X.mg "zip" = none) (ha : PA X [e, e2, e3] ta)
    (hs : starEach [e, e2, e3] X.env = (false, eval e X.env) :: starEach [e2, e3] X.env := by rfl) (hpl : (backTo pos (starEach [e2, e3] X.env)).any (·.1) = false := by rfl) :
    PI X (.Tuple elts kk tpos) (.Call (.Name "zip" p) [e, e2, e3] [] pos) (iZip3 X.K ta) := by
  refine ⟨fun pins s σ H R I h => ?_⟩
  refine Call_ (ld_blt I hg hm PyProof.Rows.boot_zip (PyProof.Rows.callWith_type1 (thn (ha.run pos pins s σ H _ I h) fun us s1 ⟨vs, H1, I1, r1, q1⟩ => ?_) hs hpl))
  obtain ⟨k1, k2, k3, a, b, c', xs, ys, zs, ex, hqx, hqy, hqz, q⟩ := q1
  subst ex
  cases r1 with
  | cons r rr =>
    cases rr with
    | cons r' rr =>
      cases rr with
      | cons r'' rr =>
      cases rr
      cases r
      cases r'
      cases r''
      obtain ⟨its, rv, p1⟩ := inv_sq I1 hqx
      obtain ⟨its2, rv2, p2⟩ := inv_sq I1 hqy
      obtain ⟨its3, rv3, p3⟩ := inv_sq I1 hqz
      have la := p1.lt
      have lb := p2.lt
      have lc := p3.lt
      refine zip_begins3 (beginsK k1 a its.toArray) (beginsK k2 b its2.toArray) (beginsK k3 c' its3.toArray) p1 p2 p3 fun h' hz hTI hTO g1 g2 g3 hsz hk => wpAny_pyIter_zip hz ?_
      have I2 : Inv X pins σ H1 { s1 with heap := h' } := I1.kept (t' := s1.toks) hk
      refine ⟨s1.heap.objs.size + 5, [s1.heap.objs.size + 5, s1.heap.objs.size + 3, s1.heap.objs.size + 4, s1.heap.objs.size, s1.heap.objs.size + 1, s1.heap.objs.size + 2], _, _, H1, rfl, I2,
        turn_zip3 (zip_sep3 (N := s1.heap.objs.size) (fp1 := [a]) (fp2 := [b]) (fp3 := [c']) (fun c hc => by rw [List.mem_singleton.mp hc]; exact la) (fun c hc => by rw [List.mem_singleton.mp hc]; exact lb) (fun c hc => by rw [List.mem_singleton.mp hc]; exact lc)) (Nat.ne_of_lt la) (Nat.ne_of_lt (Nat.lt_succ_of_lt lb)) (Nat.ne_of_lt (Nat.lt_succ_of_lt (Nat.lt_succ_of_lt lc))),
        ⟨hz, hTI, ⟨_, _, _, hTO⟩, obK_it g1, obK_it g2, obK_it g3⟩, fun c hcm => ?_, q⟩
      have e' : c = s1.heap.objs.size + 5 ∨ c = s1.heap.objs.size + 3 ∨ c = s1.heap.objs.size + 4 ∨ c = s1.heap.objs.size ∨ c = s1.heap.objs.size + 1 ∨ c = s1.heap.objs.size + 2 := by simpa using hcm
      have hle : s1.heap.objs.size ≤ c := by
        rcases e' with z | z | z | z | z | z
        · rw [z]; exact Nat.le_add_right _ _
        · rw [z]; exact Nat.le_add_right _ _
        · rw [z]; exact Nat.le_add_right _ _
        · rw [z]; exact Nat.le_refl _
        · rw [z]; exact Nat.le_add_right _ _
        · rw [z]; exact Nat.le_add_right _ _
      exact I1.fpOk hle (I1.hok.fresh hle)

/-! ### enumerate -/
theorem meets_enum1 {v : Value} {o : Obj} {Hq : Heap → Prop} (B : Begins v o Hq) :
    Meets (Builtin.«enumerate.__new__» ⟨[.type "enumerate", v], []⟩) (fun _ R s => Hq s.heap ∧
      R (.ok (.ret (.ref (s.heap.push o).objs.size))) { s with heap := (s.heap.push o).push { cls := .type "enumerate", data := .fields #[.none, .bool false, .ref s.heap.objs.size, rawInt 0, .none, .none] } }) :=
  .of_wp fun prog w A R s h => by
    obtain ⟨hp, g, d, tk, os⟩ := s; obtain ⟨h1, h⟩ := h
    have hsub := sub_enumerate
    have q1 : ∀ {A' : Around} {E : Value → Shared → Prop} {Q : Value → Shared → Prop}, Q (.ref hp.objs.size) ⟨hp.push o, g, d, tk, os⟩ → wpAny (model prog w) A' (pyIter v) Q E ⟨hp, g, d, tk, os⟩ :=
      fun q => B.iter prog w _ _ ⟨hp, g, d, tk, os⟩ _ h1 q
    wp_walk using q1
    refine wpAny_stack_any fun st => wpAny_pure ?_
    split
    · rename_i c _ _ _ _ _
      cases (c == Value.type "enumerate")
      · wp_walk using q1
        exact ⟨_, rfl, h⟩
      · wp_walk using q1
        exact ⟨_, rfl, h⟩
    · wp_walk using q1
      exact ⟨_, rfl, h⟩
section
variable {prog : Program} {w : World} {A : Around} {E : Value → Shared → Prop} {s : Shared}
theorem enum_begins1 {v : Value} {o : Obj} {Hq : Heap → Prop} {Q : Value → Shared → Prop} (B : Begins v o Hq) (h1 : Hq s.heap)
    (h : ∀ h', IsEnum h' (s.heap.objs.size + 1) s.heap.objs.size 0 .none → h'.get? s.heap.objs.size = some o → h'.objs.size = s.heap.objs.size + 2 →
      (∀ b o, s.heap.get? b = some o → h'.get? b = some o) → Q (.ref (s.heap.objs.size + 1)) { s with heap := h' }) :
    wpAny (model prog w) A (call (.type "enumerate") [v]) Q E s := by
  refine callType_new F.called_enumerate (by decide) (F.typeCall_enumerate_1 _) (F.newCall_enumerate_1 _) (fun obj => F.args_object_init_2 obj _) F.entry_enumerate_new
    (meets_enum1 B) ⟨h1, ?_⟩
  have hz : (s.heap.push o).objs.size = s.heap.objs.size + 1 := Heap.size_push ..
  show _ ∧ _
  rw [hz]
  have he : IsEnum ((s.heap.push o).push { cls := .type "enumerate", data := .fields #[.none, .bool false, .ref s.heap.objs.size, rawInt 0, .none, .none] }) (s.heap.objs.size + 1) s.heap.objs.size 0 .none := by
    have := Heap.get?_push_size (s.heap.push o) (o := { cls := .type "enumerate", data := .fields #[.none, .bool false, .ref s.heap.objs.size, rawInt 0, .none, .none] }) rfl
    rw [hz] at this; exact this
  refine ⟨⟨_, he, rfl⟩, h _ he (Heap.get?_push_of_some _ (Heap.get?_push_size _ B.free)) (by rw [Heap.size_push, hz]) fun b o x => Heap.get?_push_of_some _ (Heap.get?_push_of_some _ x)⟩
end
def ItE (K : PySem.W.Frag) (k : SK) (a : Addr) : It :=
  ⟨fun i H => ∃ (xs : List V) (x : V), SqK K k H a xs ∧ xs[i]? = some x, fun i H v H' => ∃ T x, v = .ref T ∧ H T = none ∧ H' = upd H T (.tup [.int (i : Nat), x]) ∧ ∀ xs, SqK K k H a xs → xs[i]? = some x, fun i H => ∃ xs : List V, SqK K k H a xs ∧ xs.length = i⟩
theorem turn_enumK {P : Program} {w : World} {K : PySem.W.Frag} {elts : List Expr} {kk : Nat} {tpos : Pos} {k : SK} {a e it : Addr} (hne : e ≠ it) (na : a ≠ it) (ne : e ≠ a) :
    Turn P w K (.Tuple elts kk tpos) (ItE K k a) [e, it] e (fun i h => (∃ old, IsEnum h e it ((i : Nat) : Int) old) ∧ ItK k h it a i) where
  mem := by simp
  obj := fun i h st b hb => by
    obtain ⟨⟨old, he⟩, hi⟩ := st
    have e' : b = e ∨ b = it := by simpa using hb
    rcases e' with z | z
    · rw [z]; exact ⟨_, he, fun v q => nomatch q⟩
    · rw [z]; exact hi.obj
  keep := fun i h h' st k => let ⟨⟨old, he⟩, hi⟩ := st; ⟨⟨old, k e (by simp) _ he⟩, hi.at fun o q => k it (by simp) o q⟩
  item := by
    intro X hP hw hK hc i pins s σ H E I hf st hg
    subst hP hw hK
    obtain ⟨⟨old, he⟩, hit⟩ := st
    obtain ⟨xs, x, hq, hx⟩ := hg
    obtain ⟨its, rv, p⟩ := inv_sq I hq
    obtain ⟨u, hu, ru⟩ := rv.get hx
    have hh := I.ok.hd hc
    have hel : e < s.heap.objs.size := Heap.lt_size he
    have hil : it < s.heap.objs.size := by obtain ⟨_, q, _⟩ := hit.obj; exact Heap.lt_size q
    have hlt1 : i < its.toArray.size := by have := (List.getElem?_eq_some_iff.mp hu).1; simpa using this
    refine wpAny_pyNext_enum_itemD (drawsK (A := X.A.in1) hh k it a na its.toArray) he ⟨hit, p⟩ hlt1 hne (by simp [hne, ne]) fun x1 h' tk y1 ho st1 hT hsz hk => ?_
    have e1 : x1 = u := by
      have q : its[i]? = some x1 := by simpa using y1
      rw [hu] at q; exact (Option.some.inj q).symm
    subst e1
    refine ⟨_, rfl, wpAny_letOwnedTupleGo_enum (s := { s with heap := h', toks := tk + 1 }) ho fun h'' he' sb => ?_⟩
    have hT2 : h''.get? s.heap.objs.size = some { cls := .type "tuple", data := .seq #[.int i tk, x1] } := (sb.2 _ (Nat.ne_of_gt hel)).trans hT
    have new : ObjOk X.prog X.w (upd H s.heap.objs.size (.tup [.int (i : Nat), x])) h'' s.heap.objs.size (.tup [.int (i : Nat), x]) :=
      ⟨by show 2 ≤ sizeLine; decide, [.int i tk, x1], .cons ⟨_, rfl⟩ (.cons ru .nil), ⟨_, hT2, rfl, _, rfl⟩⟩
    have I1 : Inv X pins σ (upd H s.heap.objs.size (.tup [.int (i : Nat), x])) { s with heap := h'', toks := tk + 1 } :=
      I.turnedNew (t' := tk + 1) (ch := [e, it]) (fun b ob hb q => (sb.2 b (fun z => hb (by simp [z]))).trans (hk b ob (fun z => hb (by simp [z])) (fun z => hb (by simp [z])) q)) hf (Nat.le_refl _) new
    refine ⟨.ref s.heap.objs.size, _, I1, rfl, ⟨_, x, rfl, I.hok.fresh (Nat.le_refl _), rfl, fun ys hy => by rw [inv_inj I hy hq]; exact hx⟩, ⟨⟨x1, ?_⟩, st1.1.at fun o q => (sb.2 it (Ne.symm hne)).trans q⟩, fun b hb => ?_⟩
    · have e1 : ((i + 1 : Nat) : Int) = (i : Int) + 1 := by omega
      rw [e1]; exact he'
    · have hb' : b < s.heap.objs.size := by
        have e' : b = e ∨ b = it := by simpa using hb
        rcases e' with z | z
        · rw [z]; exact hel
        · rw [z]; exact hil
      rw [upd_ne (Nat.ne_of_lt hb')]
      exact (hf b hb).1
  done := by
    intro X hP hw hK hc i pins s σ H E I hf st hg
    subst hP hw hK
    obtain ⟨⟨old, he⟩, hit⟩ := st
    obtain ⟨xs, hq, hx⟩ := hg
    obtain ⟨its, rv, p⟩ := inv_sq I hq
    obtain ⟨f0, f1, f2, f3, f4, f5⟩ := hf it (by simp)
    have hl := rv.length
    have hi : i = its.toArray.size := by simp; omega
    subst hi
    exact wpAny_pyNext_enum_endD (drawsK (A := X.A.in1) (I.ok.hd hc) k it a na its.toArray) he ⟨hit, p⟩ fun h' eb => ⟨rfl, I.turned (t' := s.toks) (fun b o hb q => eb b o hb q) f0 f1 f3 f4 f5⟩
  self := fun A i s Q E st h => let ⟨⟨_, he⟩, _⟩ := st; wpAny_pyIter_enum he h
def iEnumK (K : PySem.W.Frag) (ta : TA) : TI := fun σ H R => ta σ H fun vs H1 => ∃ k a xs, vs = [.ref a] ∧ SqK K k H1 a xs ∧ R (ItE K k a) H1
theorem pi_enumK {X : Cx} {e : Expr} {ta : TA} {p pos tpos : Pos} {elts : List Expr} {kk : Nat} (hg : Gl X "enumerate") (hm : X.mg "enumerate" = none) (ha : PA X [e] ta) (hs : starEach [e] X.env = [(false, eval e X.env)] := by rfl) :
    PI X (.Tuple elts kk tpos) (.Call (.Name "enumerate" p) [e] [] pos) (iEnumK X.K ta) := by
  refine ⟨fun pins s σ H R I h => ?_⟩
  refine Call_ (ld_blt I hg hm boot_enumerate (PyProof.Rows.callWith_type1 (thn (ha.run pos pins s σ H _ I h) fun us s1 ⟨vs, H1, I1, r1, q1⟩ => ?_) hs rfl))
  obtain ⟨k, a, xs, ex, hq, q⟩ := q1
  subst ex
  cases r1 with
  | cons r rr =>
    cases rr
    cases r
    obtain ⟨its, rv, p'⟩ := inv_sq I1 hq
    have la := p'.lt
    refine enum_begins1 (beginsK k a its.toArray) p' fun h' he g1 hsz hk => wpAny_pyIter_enum he ?_
    have I2 : Inv X pins σ H1 { s1 with heap := h' } := I1.kept (t' := s1.toks) hk
    refine ⟨s1.heap.objs.size + 1, [s1.heap.objs.size + 1, s1.heap.objs.size], _, _, H1, rfl, I2, turn_enumK (Nat.succ_ne_self _) (Nat.ne_of_lt la) (Nat.ne_of_gt (Nat.lt_succ_of_lt la)), ⟨⟨.none, he⟩, obK_it g1⟩, fun b hb => ?_, q⟩
    have e' : b = s1.heap.objs.size + 1 ∨ b = s1.heap.objs.size := by simpa using hb
    have hle : s1.heap.objs.size ≤ b := by
      rcases e' with z | z
      · rw [z]; exact Nat.le_add_right _ _
      · rw [z]; exact Nat.le_refl _
    exact I1.fpOk hle (I1.hok.fresh hle)
end EW

/-! EW: walks that end while an exception is handled. -/
namespace EW
open PySem PySem.Spec PyProof.Rows L2 HotX

/-- the exception that is handled lies at x1, its context is None -/
def HotO (x1 : Addr) (h : Heap) : Prop := ∃ (o : Obj) (vs : Array Value), h.get? x1 = some o ∧ o.data = .fields vs ∧ vs[2]? = some .none
theorem HotO.push {x1 : Addr} {h : Heap} {o : Obj} (k : HotO x1 h) : HotO x1 (h.push o) := let ⟨p, vs, a, b, c⟩ := k; ⟨p, vs, Heap.get?_push_of_some _ a, b, c⟩
theorem HotO.keep {x1 : Addr} {h h' : Heap} (k : HotO x1 h) (e : ∀ o, h.get? x1 = some o → h'.get? x1 = some o) : HotO x1 h' := let ⟨p, vs, a, b, c⟩ := k; ⟨p, vs, e _ a, b, c⟩
theorem HotO.at {A : Around} {x1 : Addr} {h : Heap} (k : HotO x1 h) (hh : A.handled = some (.ref x1)) : HotAt A x1 h := ⟨hh, k⟩
theorem HotO.lt {x1 : Addr} {h : Heap} (k : HotO x1 h) : x1 < h.objs.size := let ⟨_, _, a, _, _⟩ := k; Heap.lt_size a

section
variable {prog : Program} {w : World} {A : Around} {E : Value → Shared → Prop} {s : Shared} {x1 : Addr}
theorem nextOf_tuple_endH {it l : Addr} {i : Nat} {items : Array Value} {Q : Value → Shared → Prop} (hh : A.handled = some (.ref x1)) (hot : HotO x1 s.heap) (hne : x1 ≠ it)
    (hit : s.heap.IsTupleIter it l i) (hl : s.heap.IsTuple l items) (hx : items[i]? = none)
    (hE : ∀ h' e, Heap.ExtBut it s.heap h' → (∃ o, h'.get? e = some o ∧ o.cls = .type "StopIteration") → E (.ref e) { s with heap := h' }) :
    wpAny (model prog w) A (Builtin.SmallTypes.nextOf (.ref it)) Q E s := by
  obtain ⟨o, ho, hc, hd⟩ := id hit
  obtain ⟨ol, hol, _, nl, hdl⟩ := hl
  unfold Builtin.SmallTypes.nextOf
  refine wpAny_bind (wpAny_callSpecial?_slot (name := Str.ofString "__next__") hit.typeIs F.slot_tuple_iterator_next
    (wpAny_call_entry F.slot_tuple_iterator_next hit.typeIs F.entry_tuple_iterator_next ?_ (F.args_tuple_iterator_next_1 _)))
  show wpAny _ _ (field (.ref it) 0 >>= _) _ _ s
  refine wpAny_bind (wpAny_field ho hd (x := .ref l) rfl ?_)
  show wpAny _ _ (if (Value.ref l == Value.none) = true then _ else _) _ _ s
  rw [if_neg (show ¬ ((Value.ref l == Value.none) = true) from Bool.false_ne_true)]
  show wpAny _ _ (field (.ref it) 1 >>= _) _ _ s
  refine wpAny_bind (wpAny_field ho hd (x := .int i 0) rfl ?_)
  show wpAny _ _ (seqItems? (.ref l) >>= _) _ _ s
  refine wpAny_bind (wpAny_seqItems hol hdl ?_)
  simp only [Int.toNat_natCast, hx]
  refine wpAny_bind (wpAny_rule (wpAny_bind (wpAny_setField ho hd (by simp) ?_)))
  show wpAny _ _ (newExc (.type "StopIteration") [] >>= _) _ _ _
  refine wpAny_bind ?_
  simp only [newExc, newTuple]
  refine wpAny_bind (wpAny_newObj_type ?_ (by size_fits))
  refine wpAny_bind (m := firstArgMember _ _) (wpAny_of_eq (a := Value.none) (by first | rfl | (simp only [firstArgMember]; rfl)) ?_)
  refine wpAny_newObj_type ?_ (by size_fits)
  have k0 : HotO x1 (s.heap.update it (Obj.mapFields (·.setIfInBounds 0 .none))) := hot.keep fun o e => by rw [Heap.get?_update_other _ _ (Ne.symm hne)]; exact e
  have k1 := (k0.push (o := { cls := .type "tuple", data := .seq ([] : List Value).toArray }))
  refine raiseNew_hot (k1.push.at hh) (Nat.ne_of_lt k1.lt) (Heap.get?_push_size _ rfl) rfl (by first | (simp; done) | (simp; omega) | (simp only [Array.size_append]; simp; omega)) ?_
  refine hE _ _ (fun b o hb e => ?_) ⟨_, Heap.get?_update_self _ (Heap.get?_push_size _ rfl) rfl, rfl⟩
  have e1 := (((Heap.SameBut.update (h := s.heap) it (Obj.mapFields (·.setIfInBounds 0 .none))).extBut.push { cls := .type "tuple", data := .seq ([] : List Value).toArray })) b o hb e
  rw [Heap.get?_update_other _ _ (Nat.ne_of_gt (Heap.lt_size e1))]
  exact Heap.get?_push_of_some _ e1
theorem nextOf_list_endH {it l : Addr} {i : Nat} {items : Array Value} {Q : Value → Shared → Prop} (hh : A.handled = some (.ref x1)) (hot : HotO x1 s.heap) (hne : x1 ≠ it)
    (hit : s.heap.IsListIter it l i) (hl : s.heap.IsList l items) (hx : items[i]? = none)
    (hE : ∀ h' e, Heap.ExtBut it s.heap h' → (∃ o, h'.get? e = some o ∧ o.cls = .type "StopIteration") → E (.ref e) { s with heap := h' }) :
    wpAny (model prog w) A (Builtin.SmallTypes.nextOf (.ref it)) Q E s := by
  obtain ⟨o, ho, hc, hd⟩ := id hit
  obtain ⟨ol, hol, _, nl, hdl⟩ := hl
  unfold Builtin.SmallTypes.nextOf
  refine wpAny_bind (wpAny_callSpecial?_slot (name := Str.ofString "__next__") hit.typeIs slot_listiter_next
    (wpAny_call_entry slot_listiter_next hit.typeIs entry_listiter_next ?_ (args_listiter_next _)))
  show wpAny _ _ (field (.ref it) 0 >>= _) _ _ s
  refine wpAny_bind (wpAny_field ho hd (x := .ref l) rfl ?_)
  show wpAny _ _ (if (Value.ref l == Value.none) = true then _ else _) _ _ s
  rw [if_neg (show ¬ ((Value.ref l == Value.none) = true) from Bool.false_ne_true)]
  show wpAny _ _ (field (.ref it) 1 >>= _) _ _ s
  refine wpAny_bind (wpAny_field ho hd (x := .int i 0) rfl ?_)
  show wpAny _ _ (seqItems? (.ref l) >>= _) _ _ s
  refine wpAny_bind (wpAny_seqItems hol hdl ?_)
  simp only [Int.toNat_natCast, hx]
  refine wpAny_bind (wpAny_rule (wpAny_bind (wpAny_setField ho hd (by simp) ?_)))
  show wpAny _ _ (newExc (.type "StopIteration") [] >>= _) _ _ _
  refine wpAny_bind ?_
  simp only [newExc, newTuple]
  refine wpAny_bind (wpAny_newObj_type ?_ (by size_fits))
  refine wpAny_bind (m := firstArgMember _ _) (wpAny_of_eq (a := Value.none) (by first | rfl | (simp only [firstArgMember]; rfl)) ?_)
  refine wpAny_newObj_type ?_ (by size_fits)
  have k0 : HotO x1 (s.heap.update it (Obj.mapFields (·.setIfInBounds 0 .none))) := hot.keep fun o e => by rw [Heap.get?_update_other _ _ (Ne.symm hne)]; exact e
  have k1 := (k0.push (o := { cls := .type "tuple", data := .seq ([] : List Value).toArray }))
  refine raiseNew_hot (k1.push.at hh) (Nat.ne_of_lt k1.lt) (Heap.get?_push_size _ rfl) rfl (by first | (simp; done) | (simp; omega) | (simp only [Array.size_append]; simp; omega)) ?_
  refine hE _ _ (fun b o hb e => ?_) ⟨_, Heap.get?_update_self _ (Heap.get?_push_size _ rfl) rfl, rfl⟩
  have e1 := (((Heap.SameBut.update (h := s.heap) it (Obj.mapFields (·.setIfInBounds 0 .none))).extBut.push { cls := .type "tuple", data := .seq ([] : List Value).toArray })) b o hb e
  rw [Heap.get?_update_other _ _ (Nat.ne_of_gt (Heap.lt_size e1))]
  exact Heap.get?_push_of_some _ e1
theorem next_tuple_endH {it l : Addr} {i : Nat} {items : Array Value} {Q : Option Value → Shared → Prop} (hh : A.handled = some (.ref x1)) (hot : HotO x1 s.heap) (hne : x1 ≠ it)
    (hit : IsTupIter s.heap it l i) (hl : IsTup s.heap l items) (hx : items[i]? = none)
    (hQ : ∀ h', Heap.ExtBut it s.heap h' → Q none { s with heap := h' }) : wpAny (model prog w) A (pyNext (.ref it)) Q E s := by
  obtain ⟨o, ho, hc, hd⟩ := id hit
  obtain ⟨ol, hol, _, nl, hdl⟩ := hl
  unfold pyNext
  refine wpAny_bind (wpAny_attempt (wpAny_callSpecial?_slot (name := Str.ofString "__next__") hit.typeIs slot_tupleiter_next
    (wpAny_call_entry slot_tupleiter_next hit.typeIs entry_tupleiter_next ?_ (args_tupleiter_next _))))
  show wpAny _ _ (field (.ref it) 0 >>= _) _ _ s
  refine wpAny_bind (wpAny_field ho hd (x := .ref l) rfl ?_)
  show wpAny _ _ (if (Value.ref l == Value.none) = true then _ else _) _ _ s
  rw [if_neg (show ¬ ((Value.ref l == Value.none) = true) from Bool.false_ne_true)]
  show wpAny _ _ (field (.ref it) 1 >>= _) _ _ s
  refine wpAny_bind (wpAny_field ho hd (x := .int i 0) rfl ?_)
  show wpAny _ _ (seqItems? (.ref l) >>= _) _ _ s
  refine wpAny_bind (wpAny_seqItems hol hdl ?_)
  simp only [Int.toNat_natCast, hx]
  refine wpAny_bind (wpAny_rule (wpAny_bind (wpAny_setField ho hd (by simp) ?_)))
  show wpAny _ _ (newExc (.type "StopIteration") [] >>= _) _ _ _
  refine wpAny_bind ?_
  simp only [newExc, newTuple]
  refine wpAny_bind (wpAny_newObj_type ?_ (by size_fits))
  refine wpAny_bind (m := firstArgMember _ _) (wpAny_of_eq (a := Value.none) (by first | rfl | (simp only [firstArgMember]; rfl)) ?_)
  refine wpAny_newObj_type ?_ (by size_fits)
  have k0 : HotO x1 (s.heap.update it (Obj.mapFields (·.setIfInBounds 0 .none))) := hot.keep fun o e => by rw [Heap.get?_update_other _ _ (Ne.symm hne)]; exact e
  have k1 := (k0.push (o := { cls := .type "tuple", data := .seq ([] : List Value).toArray }))
  refine raiseNew_hot (k1.push.at hh) (Nat.ne_of_lt k1.lt) (Heap.get?_push_size _ rfl) rfl (by first | (simp; done) | (simp; omega) | (simp only [Array.size_append]; simp; omega)) ?_
  refine wpAny_bind (wpAny_isInstance (T := "StopIteration") (b := true) ⟨_, Heap.get?_update_self _ (Heap.get?_push_size _ rfl) rfl, rfl⟩ isSubtype_stop ?_)
  refine wpAny_pure (hQ _ fun b o hb e => ?_)
  have e1 := (((Heap.SameBut.update (h := s.heap) it (Obj.mapFields (·.setIfInBounds 0 .none))).extBut.push { cls := .type "tuple", data := .seq ([] : List Value).toArray })) b o hb e
  rw [Heap.get?_update_other _ _ (Nat.ne_of_gt (Heap.lt_size e1))]
  exact Heap.get?_push_of_some _ e1
theorem unpackItems_tupleH {t : Addr} {items : Array Value} {Q : List Value → Shared → Prop} (hh : A.handled = some (.ref x1)) (hot : HotO x1 s.heap) (ht : IsTup s.heap t items)
    (hQ : ∀ h', Heap.ExtBut s.heap.objs.size s.heap h' → Q items.toList { s with heap := h' }) : wpAny (model prog w) A (unpackItems (.ref t) items.size none) Q E s := by
  have hlt : t ≠ s.heap.objs.size := by obtain ⟨o, ho, _⟩ := ht; exact Nat.ne_of_lt (Heap.lt_size ho)
  unfold unpackItems
  refine wpAny_bind ?_
  unfold notIterableAtAll
  refine wpAny_bind (wpAny_specialOf ht.typeIs slot_tuple_iter.lookup ?_)
  refine wpAny_pure ?_
  simp only [Bool.false_eq_true, if_false]
  refine wpAny_bind (wpAny_holding (iter_tuple ht ?_))
  refine wpAny_bind (wpAny_holding (draw_tuple hlt items.size 0 _ _ ⟨_, Heap.get?_push_size _ rfl, rfl, rfl⟩ (ht.push _) (by omega) fun h₁ hit₁ hs₁ => ?_))
  have hall : List.take items.size (List.drop 0 items.toList) = items.toList := by
    rw [List.drop_zero]; exact List.take_of_length_le (by simp)
  rw [hall, if_neg (by simp)]
  have ht₁ : IsTup h₁ t items := (ht.push _).extBut hs₁.extBut hlt
  have nx : x1 ≠ s.heap.objs.size := Nat.ne_of_lt hot.lt
  have hot1 : HotO x1 h₁ := hot.push.keep fun o e => hs₁.extBut x1 o nx e
  refine wpAny_bind (wpAny_holding (next_tuple_endH hh hot1 nx hit₁ ht₁ (by simp) fun h₂ he₂ => ?_))
  simp only [Option.isSome_none, Bool.false_eq_true, if_false]
  exact wpAny_pure (hQ h₂ fun b o hb e => he₂ b o hb (hs₁.extBut b o hb (Heap.get?_push_of_some _ e)))
theorem next_list_endH {it l : Addr} {i : Nat} {items : Array Value} {Q : Option Value → Shared → Prop} (hh : A.handled = some (.ref x1)) (hot : HotO x1 s.heap) (hne : x1 ≠ it)
    (hit : s.heap.IsListIter it l i) (hl : s.heap.IsList l items) (hx : items[i]? = none)
    (hQ : ∀ h', Heap.ExtBut it s.heap h' → Q none { s with heap := h' }) : wpAny (model prog w) A (pyNext (.ref it)) Q E s := by
  obtain ⟨o, ho, hc, hd⟩ := id hit
  obtain ⟨ol, hol, _, nl, hdl⟩ := hl
  unfold pyNext
  refine wpAny_bind (wpAny_attempt (wpAny_callSpecial?_slot (name := Str.ofString "__next__") hit.typeIs slot_listiter_next
    (wpAny_call_entry slot_listiter_next hit.typeIs entry_listiter_next ?_ (args_listiter_next _))))
  show wpAny _ _ (field (.ref it) 0 >>= _) _ _ s
  refine wpAny_bind (wpAny_field ho hd (x := .ref l) rfl ?_)
  show wpAny _ _ (if (Value.ref l == Value.none) = true then _ else _) _ _ s
  rw [if_neg (show ¬ ((Value.ref l == Value.none) = true) from Bool.false_ne_true)]
  show wpAny _ _ (field (.ref it) 1 >>= _) _ _ s
  refine wpAny_bind (wpAny_field ho hd (x := .int i 0) rfl ?_)
  show wpAny _ _ (seqItems? (.ref l) >>= _) _ _ s
  refine wpAny_bind (wpAny_seqItems hol hdl ?_)
  simp only [Int.toNat_natCast, hx]
  refine wpAny_bind (wpAny_rule (wpAny_bind (wpAny_setField ho hd (by simp) ?_)))
  show wpAny _ _ (newExc (.type "StopIteration") [] >>= _) _ _ _
  refine wpAny_bind ?_
  simp only [newExc, newTuple]
  refine wpAny_bind (wpAny_newObj_type ?_ (by size_fits))
  refine wpAny_bind (m := firstArgMember _ _) (wpAny_of_eq (a := Value.none) (by first | rfl | (simp only [firstArgMember]; rfl)) ?_)
  refine wpAny_newObj_type ?_ (by size_fits)
  have k0 : HotO x1 (s.heap.update it (Obj.mapFields (·.setIfInBounds 0 .none))) := hot.keep fun o e => by rw [Heap.get?_update_other _ _ (Ne.symm hne)]; exact e
  have k1 := (k0.push (o := { cls := .type "tuple", data := .seq ([] : List Value).toArray }))
  refine raiseNew_hot (k1.push.at hh) (Nat.ne_of_lt k1.lt) (Heap.get?_push_size _ rfl) rfl (by first | (simp; done) | (simp; omega) | (simp only [Array.size_append]; simp; omega)) ?_
  refine wpAny_bind (wpAny_isInstance (T := "StopIteration") (b := true) ⟨_, Heap.get?_update_self _ (Heap.get?_push_size _ rfl) rfl, rfl⟩ isSubtype_stop ?_)
  refine wpAny_pure (hQ _ fun b o hb e => ?_)
  have e1 := (((Heap.SameBut.update (h := s.heap) it (Obj.mapFields (·.setIfInBounds 0 .none))).extBut.push { cls := .type "tuple", data := .seq ([] : List Value).toArray })) b o hb e
  rw [Heap.get?_update_other _ _ (Nat.ne_of_gt (Heap.lt_size e1))]
  exact Heap.get?_push_of_some _ e1
theorem unpackItems_listH {t : Addr} {items : Array Value} {Q : List Value → Shared → Prop} (hh : A.handled = some (.ref x1)) (hot : HotO x1 s.heap) (ht : s.heap.IsList t items)
    (hQ : ∀ h', Heap.ExtBut s.heap.objs.size s.heap h' → Q items.toList { s with heap := h' }) : wpAny (model prog w) A (unpackItems (.ref t) items.size none) Q E s := by
  have hlt : t ≠ s.heap.objs.size := by obtain ⟨o, ho, _⟩ := ht; exact Nat.ne_of_lt (Heap.lt_size ho)
  unfold unpackItems
  refine wpAny_bind ?_
  unfold notIterableAtAll
  refine wpAny_bind (wpAny_specialOf ht.typeIs slot_list_iter.lookup ?_)
  refine wpAny_pure ?_
  simp only [Bool.false_eq_true, if_false]
  refine wpAny_bind (wpAny_holding (wpAny_pyIter_list ht ?_))
  refine wpAny_bind (wpAny_holding (PySem.W.kun_draw hlt items.size 0 _ _ ⟨_, Heap.get?_push_size _ rfl, rfl, rfl⟩ (ht.push _) (by omega) fun h₁ hit₁ hs₁ => ?_))
  have hall : List.take items.size (List.drop 0 items.toList) = items.toList := by
    rw [List.drop_zero]; exact List.take_of_length_le (by simp)
  rw [hall, if_neg (by simp)]
  have ht₁ : h₁.IsList t items := (ht.push _).extBut hs₁.extBut hlt
  have nx : x1 ≠ s.heap.objs.size := Nat.ne_of_lt hot.lt
  have hot1 : HotO x1 h₁ := hot.push.keep fun o e => hs₁.extBut x1 o nx e
  refine wpAny_bind (wpAny_holding (next_list_endH hh hot1 nx hit₁ ht₁ (by simp) fun h₂ he₂ => ?_))
  simp only [Option.isSome_none, Bool.false_eq_true, if_false]
  exact wpAny_pure (hQ h₂ fun b o hb e => he₂ b o hb (hs₁.extBut b o hb (Heap.get?_push_of_some _ e)))
theorem assign_tupleH {env : PySem.Env} {elts : List Expr} {k1 : Nat} {pos : Pos} {t : Addr} {items : Array Value} {Q : Unit → Shared → Prop} (hh : A.handled = some (.ref x1)) (hot : HotO x1 s.heap) (ht : IsTup s.heap t items)
    (hn : (assignEach elts env).length = items.size) (hstar : (assignEach elts env).findIdx? (·.1) = none)
    (h : ∀ h', Heap.ExtBut s.heap.objs.size s.heap h' → wpAny (model prog w) A (assignInOrder ((assignEach elts env).map (·.2)) items.toList) Q E { s with heap := h' }) :
    wpAny (model prog w) A (assign (.Tuple elts k1 pos) env (.ref t)) Q E s := by
  rw [assign_Tuple]
  refine wpAny_bind (wpAny_standAt ?_)
  unfold unpack
  rw [hn, hstar]
  exact wpAny_bind (wpAny_holding (unpackItems_tupleH hh hot ht h))
end

/-- the draws of a list or a tuple, its end while the exception at x1 is handled -/
theorem drawsH {prog : Program} {w : World} {A : Around} {x1 : Addr} (hh : A.handled = some (.ref x1)) (k : SK) (it a : Addr) (hne : a ≠ it) (hx : x1 ≠ it) (items : Array Value) :
    Draws prog w A it [it, a, x1] items.size (fun i v => items[i]? = some v) (fun i h => (ItK k h it a i ∧ ObK k h a items) ∧ HotO x1 h) where
  live := fun i h st => let ⟨o, ho, _⟩ := st.1.1.obj; ⟨o, ho⟩
  frame := fun i h h' st hk => by
    refine ⟨⟨st.1.1.at fun o e => hk it (by simp) o e, ?_⟩, st.2.keep fun o e => hk x1 (by simp) o e⟩
    have q := st.1.2
    cases k
    · exact Heap.IsList.at q fun o e => hk a (by simp) o e
    · exact Heap.IsTuple.at q fun o e => hk a (by simp) o e
  item := fun i s Q E hi st hQ => by
    obtain ⟨⟨h1, h2⟩, h3⟩ := st
    cases k
    · refine wpAny_nextOf_list_item h1 h2 (x := items[i]) (by simp [hi]) fun h' hit' hs' => ?_
      exact hQ _ h' s.toks (by simp [hi]) ⟨⟨hit', Heap.IsList.extBut h2 hs'.extBut hne⟩, h3.keep fun o e => hs'.extBut x1 o hx e⟩ hs'
    · refine RZ.nextOf_tuple_item h1 h2 (x := items[i]) (by simp [hi]) fun h' hit' hs' => ?_
      exact hQ _ h' s.toks (by simp [hi]) ⟨⟨hit', Heap.IsTuple.extBut h2 hs'.extBut hne⟩, h3.keep fun o e => hs'.extBut x1 o hx e⟩ hs'
  done := fun s Q E st hE => by
    obtain ⟨⟨h1, h2⟩, h3⟩ := st
    cases k
    · exact nextOf_list_endH hh h3 hx h1 h2 (by simp) hE
    · exact nextOf_tuple_endH hh h3 hx h1 h2 (by simp) hE

/-- an iterator that is walked while the exception at x1 is handled -/
structure TurnX (P : Program) (w : World) (K : PySem.W.Frag) (x1 : Addr) (tg : Expr) (J : It) (fp : List Addr) (it : Addr) (tn : Nat → Heap → Prop) : Prop where
  mem : it ∈ fp
  obj : ∀ i h, tn i h → ∀ b ∈ fp, ∃ o, h.get? b = some o ∧ ∀ v, o.data ≠ .cell v
  keep : ∀ i h h', tn i h → (∀ b ∈ fp, ∀ o, h.get? b = some o → h'.get? b = some o) → tn i h'
  item : ∀ (X : Cx), X.prog = P → X.w = w → X.K = K → X.A.handled = some (.ref x1) → ∀ (i : Nat) (pins : List (Addr × Obj)) (s : Shared) (σ : L2.St) (H : Hp) (E : Value → Shared → Prop), Inv X pins σ H s → HotO x1 s.heap → (∀ b ∈ fp, FpOk X pins H b) → tn i s.heap → J.go i H →
    wpAny (model P w) X.A (pyNext (.ref it)) (fun r s1 => ∃ u, r = some u ∧
      wpAny (model P w) X.A (letOwnedTupleGo tg (.ref it) u) (fun _ s2 => ∃ x H', Inv X pins σ H' s2 ∧ RelV x u ∧ J.yld i H x H' ∧ tn (i + 1) s2.heap ∧ ∀ b ∈ fp, H' b = none) E s1) E s
  done : ∀ (X : Cx), X.prog = P → X.w = w → X.K = K → X.A.handled = some (.ref x1) → ∀ (i : Nat) (pins : List (Addr × Obj)) (s : Shared) (σ : L2.St) (H : Hp) (E : Value → Shared → Prop), Inv X pins σ H s → HotO x1 s.heap → (∀ b ∈ fp, FpOk X pins H b) → tn i s.heap → J.stop i H →
    wpAny (model P w) X.A (pyNext (.ref it)) (fun r s1 => r = none ∧ Inv X pins σ H s1) E s
  self : ∀ (A : Around) (i : Nat) (s : Shared) (Q : Value → Shared → Prop) (E : Value → Shared → Prop), tn i s.heap → Q (.ref it) s → wpAny (model P w) A (pyIter (.ref it)) Q E s
def PIEX (X : Cx) (x1 : Addr) (pins : List (Addr × Obj)) (σ : L2.St) (tg : Expr) (R : It → Hp → Prop) (itv : Value) (s2 : Shared) : Prop :=
  ∃ (it : Addr) (fp : List Addr) (tn : Nat → Heap → Prop) (J : It) (H' : Hp), itv = .ref it ∧ Inv X pins σ H' s2 ∧ TurnX X.prog X.w X.K x1 tg J fp it tn ∧ tn 0 s2.heap ∧ (∀ b ∈ fp, FpOk X pins H' b) ∧ x1 ∉ fp ∧ R J H'
structure PIX (X : Cx) (x1 : Addr) (tg iter : Expr) (wi : TI) : Prop where
  run : ∀ (pins : List (Addr × Obj)) (s : Shared) (σ : L2.St) (H : Hp) (R : It → Hp → Prop), Inv X pins σ H s → (∀ {s' : Shared} {σ' : L2.St} {H' : Hp}, Inv X pins σ' H' s' → HotO x1 s'.heap) → wi σ H R →
    wpAny (model X.prog X.w) X.A (eval iter X.env) (fun v s1 => wpAny (model X.prog X.w) X.A (pyIter v) (PIEX X x1 pins σ tg R) X.xe s1) X.xe s
theorem two_lt {a x1 n : Addr} (h1 : a < n) (h2 : x1 < n) : ∀ c ∈ [a, x1], c < n := fun c hc => by
  rcases List.mem_cons.mp hc with z | z
  · rw [z]; exact h1
  · rw [List.mem_singleton.mp z]; exact h2
theorem turn_zip2H {P : Program} {w : World} {K : PySem.W.Frag} {elts : List Expr} {kk : Nat} {tpos : Pos} {k1 k2 : SK} {a b z TI TO i1 i2 : Addr} {x1 : Addr} (S : ZipSep2 z TI TO i1 i2 [i1, a, x1] [i2, b, x1]) (n1 : a ≠ i1) (n2 : b ≠ i2) (m1 : x1 ≠ i1) (m2 : x1 ≠ i2) :
    TurnX P w K x1 (.Tuple elts kk tpos) (Itz2 K k1 k2 a b) [z, TI, TO, i1, i2] z (fun i h => IsZip h z TI TO .none ∧ IsTupOf2 h TI (.ref i1) (.ref i2) ∧ (∃ x y, IsTupOf2 h TO x y) ∧ ItK k1 h i1 a i ∧ ItK k2 h i2 b i) where
  mem := by simp
  obj := fun i h st c hc => by
    obtain ⟨hz, hTI, ⟨x, y, hTO⟩, h1, h2⟩ := st
    have e' : c = z ∨ c = TI ∨ c = TO ∨ c = i1 ∨ c = i2 := by simpa using hc
    rcases e' with q | q | q | q | q
    · rw [q]; exact ⟨_, hz, fun v q => nomatch q⟩
    · rw [q]; exact ⟨_, hTI, fun v q => nomatch q⟩
    · rw [q]; exact ⟨_, hTO, fun v q => nomatch q⟩
    · rw [q]; exact h1.obj
    · rw [q]; exact h2.obj
  keep := fun i h h' st k => by
    obtain ⟨hz, hTI, ⟨x, y, hTO⟩, h1, h2⟩ := st
    exact ⟨k z (by simp) _ hz, k TI (by simp) _ hTI, ⟨x, y, k TO (by simp) _ hTO⟩, h1.at fun o q => k i1 (by simp) o q, h2.at fun o q => k i2 (by simp) o q⟩
  item := by
    intro X hP hw hK hh i pins s σ H E I hot hf st hg
    subst hP hw hK
    obtain ⟨hz, hTI, ⟨x0, y0, hTO⟩, h1, h2⟩ := st
    obtain ⟨xs, ys, x, y, hqx, hqy, hx, hy⟩ := hg
    obtain ⟨its, rv, p⟩ := inv_sq I hqx
    obtain ⟨its2, rv2, p2⟩ := inv_sq I hqy
    obtain ⟨u, hu, ru⟩ := rv.get hx
    obtain ⟨u2, hu2, ru2⟩ := rv2.get hy
    have hzl : z < s.heap.objs.size := Heap.lt_size hz
    have hlt1 : i < its.toArray.size := by have := (List.getElem?_eq_some_iff.mp hu).1; simpa using this
    have hlt2 : i < its2.toArray.size := by have := (List.getElem?_eq_some_iff.mp hu2).1; simpa using this
    refine wpAny_pyNext_zipD2_item S (drawsH (A := X.A.in1) hh k1 i1 a n1 m1 its.toArray) (drawsH (A := X.A.in1) hh k2 i2 b n2 m2 its2.toArray) hz hTI hTO ⟨⟨h1, p⟩, hot⟩ ⟨⟨h2, p2⟩, hot⟩ hlt1 hlt2 fun x1 x2 h' tk y1 y2 z' TO' st1 st2 hT hsz hk => ?_
    have e1 : x1 = u := by have q : its[i]? = some x1 := by simpa using y1
                           rw [hu] at q; exact (Option.some.inj q).symm
    have e2 : x2 = u2 := by have q : its2[i]? = some x2 := by simpa using y2
                            rw [hu2] at q; exact (Option.some.inj q).symm
    subst e1 e2
    refine ⟨_, rfl, wpAny_letOwnedTupleGo_zip (s := { s with heap := h', toks := tk }) z' fun h'' z'' sb => ?_⟩
    have hT2 : h''.get? s.heap.objs.size = some { cls := .type "tuple", data := .seq #[x1, x2] } := (sb.2 _ (Nat.ne_of_gt hzl)).trans hT
    have new : ObjOk X.prog X.w (upd H s.heap.objs.size (.tup [x, y])) h'' s.heap.objs.size (.tup [x, y]) :=
      ⟨by show 2 ≤ sizeLine; decide, [x1, x2], .cons ru (.cons ru2 .nil), ⟨_, hT2, rfl, _, rfl⟩⟩
    have I1 : Inv X pins σ (upd H s.heap.objs.size (.tup [x, y])) { s with heap := h'', toks := tk } :=
      I.turnedNew (t' := tk) (ch := [z, TI, TO, i1, i2]) (fun c o hb q => (sb.2 c (fun q' => hb (by simp [q']))).trans (hk c o (fun q' => hb (by simp [q'])) (fun q' => hb (by simp [q'])) (fun q' => hb (by simp [q'])) (fun q' => hb (by simp [q'])) q)) hf (Nat.le_refl _) new
    have i1z : i1 ≠ z := Ne.symm S.zi1
    have i2z : i2 ≠ z := Ne.symm S.zi2
    refine ⟨.ref s.heap.objs.size, _, I1, rfl, ⟨_, x, y, rfl, I.hok.fresh (Nat.le_refl _), rfl, fun l hl => by rw [inv_inj I hl hqx]; exact hx, fun l hl => by rw [inv_inj I hl hqy]; exact hy⟩, ⟨z'', ?_, ⟨x1, x2, ?_⟩, ?_, ?_⟩, fun c hcm => ?_⟩
    · exact (sb.2 _ S.TIz).trans (hk _ _ S.TIz S.TITO S.TIi1 S.TIi2 hTI)
    · exact (sb.2 _ S.TOz).trans TO'
    · exact st1.1.1.at fun o q => (sb.2 _ i1z).trans q
    · exact st2.1.1.at fun o q => (sb.2 _ i2z).trans q
    · have hlt : c < s.heap.objs.size := by
        have e' : c = z ∨ c = TI ∨ c = TO ∨ c = i1 ∨ c = i2 := by simpa using hcm
        rcases e' with q | q | q | q | q
        · rw [q]; exact hzl
        · rw [q]; exact Heap.lt_size hTI
        · rw [q]; exact Heap.lt_size hTO
        · rw [q]; obtain ⟨_, e1, _⟩ := h1.obj; exact Heap.lt_size e1
        · rw [q]; obtain ⟨_, e2, _⟩ := h2.obj; exact Heap.lt_size e2
      rw [upd_ne (Nat.ne_of_lt hlt)]
      exact (hf c hcm).1
  done := by
    intro X hP hw hK hh i pins s σ H E I hot hf st hg
    subst hP hw hK
    obtain ⟨hz, hTI, ⟨x0, y0, hTO⟩, h1, h2⟩ := st
    obtain ⟨xs, ys, hqx, hqy, hl1, hl2, hend⟩ := hg
    obtain ⟨its, rv, p⟩ := inv_sq I hqx
    obtain ⟨its2, rv2, p2⟩ := inv_sq I hqy
    have l1 := rv.length
    have l2 := rv2.length
    exact wpAny_pyNext_zipD2_end S (drawsH (A := X.A.in1) hh k1 i1 a n1 m1 its.toArray) (drawsH (A := X.A.in1) hh k2 i2 b n2 m2 its2.toArray) hz hTI hTO ⟨⟨h1, p⟩, hot⟩ ⟨⟨h2, p2⟩, hot⟩ (by simp; omega) (by simp; omega) (by simp; omega) fun h' tk hk => ⟨rfl, I.turnedL (t' := tk) (ch := [z, TI, TO, i1, i2]) (fun c o hb q =>
      hk c o (fun q' => hb (by simp [q'])) (fun q' => hb (by simp [q'])) (fun q' => hb (by simp [q'])) (fun q' => hb (by simp [q'])) q) hf⟩
  self := fun A i s Q E st h => wpAny_pyIter_zip st.1 h

theorem pi_zip2H {X : Cx} {x1 : Addr} {e e2 : Expr} {ta : TA} {p pos tpos : Pos} {elts : List Expr} {kk : Nat} (hg : Gl X "zip") (hm : X.mg "zip" = none) (ha : PA X [e, e2] ta)
    (hs : starEach [e, e2] X.env = (false, eval e X.env) :: starEach [e2] X.env := by rfl) (hpl : (backTo pos (starEach [e2] X.env)).any (·.1) = false := by rfl) :
    PIX X x1 (.Tuple elts kk tpos) (.Call (.Name "zip" p) [e, e2] [] pos) (iZip2 X.K ta) := by
  refine ⟨fun pins s σ H R I hot h => ?_⟩
  refine Call_ (ld_blt I hg hm PyProof.Rows.boot_zip (PyProof.Rows.callWith_type1 (thn (ha.run pos pins s σ H _ I h) fun us s1 ⟨vs, H1, I1, r1, q1⟩ => ?_) hs hpl))
  obtain ⟨k1, k2, a, b, xs, ys, ex, hqx, hqy, q⟩ := q1
  subst ex
  cases r1 with
  | cons r rr =>
    cases rr with
    | cons r' rr =>
      cases rr
      cases r
      cases r'
      obtain ⟨its, rv, p1⟩ := inv_sq I1 hqx
      obtain ⟨its2, rv2, p2⟩ := inv_sq I1 hqy
      have la := p1.lt
      have lb := p2.lt
      have lx : x1 < s1.heap.objs.size := (hot I1).lt
      refine zip_begins2 (beginsK k1 a its.toArray) (beginsK k2 b its2.toArray) p1 p2 fun h' hz hTI hTO g1 g2 hsz hk => wpAny_pyIter_zip hz ?_
      have I2 : Inv X pins σ H1 { s1 with heap := h' } := I1.kept (t' := s1.toks) hk
      refine ⟨s1.heap.objs.size + 4, [s1.heap.objs.size + 4, s1.heap.objs.size + 2, s1.heap.objs.size + 3, s1.heap.objs.size, s1.heap.objs.size + 1], _, _, H1, rfl, I2,
        turn_zip2H (zip_sep2 (N := s1.heap.objs.size) (fp1 := [a, x1]) (fp2 := [b, x1]) (two_lt la lx) (two_lt lb lx)) (Nat.ne_of_lt la) (Nat.ne_of_lt (Nat.lt_succ_of_lt lb)) (Nat.ne_of_lt lx) (Nat.ne_of_lt (Nat.lt_succ_of_lt lx)),
        ⟨hz, hTI, ⟨_, _, hTO⟩, obK_it g1, obK_it g2⟩, fun c hcm => ?_, fun z => ?_, q⟩
      rotate_left
      · simp only [List.mem_cons, List.not_mem_nil, or_false] at z
        have lx2 := lx
        rcases z with z | z | z | z | z <;> (rw [z] at lx2; exact absurd lx2 (Nat.not_lt_of_le (by first | exact Nat.le_refl _ | exact Nat.le_add_right _ _)))
      have e' : c = s1.heap.objs.size + 4 ∨ c = s1.heap.objs.size + 2 ∨ c = s1.heap.objs.size + 3 ∨ c = s1.heap.objs.size ∨ c = s1.heap.objs.size + 1 := by simpa using hcm
      have hle : s1.heap.objs.size ≤ c := by
        rcases e' with z | z | z | z | z
        · rw [z]; exact Nat.le_add_right _ _
        · rw [z]; exact Nat.le_add_right _ _
        · rw [z]; exact Nat.le_add_right _ _
        · rw [z]; exact Nat.le_refl _
        · rw [z]; exact Nat.le_add_right _ _
      exact I1.fpOk hle (I1.hok.fresh hle)
end EW

/-! EW: a comprehension while an exception is handled. -/
namespace EW
open PySem PySem.Spec PyProof.Rows L2 HotX
/-- in this context the exception at x1 is handled -/
def HX (X : Cx) (x1 : Addr) : Prop := X.A.handled = some (.ref x1) ∧ ∀ pins σ H s, Inv X pins σ H s → HotO x1 s.heap ∧ H x1 = none
section
variable {X : Cx}
theorem HX.blk {x1 : Addr} (hX : HX X x1) {pins : List (Addr × Obj)} {σ : L2.St} {H : Hp} {s : Shared} (I : Inv X pins σ H s) {scope : Scope} {cenv : PySem.Env} {fp : List Addr} (nx : x1 ∉ fp) : HX (X.blk s H scope cenv fp) x1 := by
  refine ⟨hX.1, fun pins' σ' H' s' I' => ?_⟩
  obtain ⟨⟨o, vs, e1, e2, e3⟩, n⟩ := hX.2 _ _ _ _ I
  obtain ⟨sl, q⟩ := I'.base.any e1 n nx
  exact ⟨⟨_, vs, q, e2, e3⟩, I'.base.free x1 o e1 n nx⟩
theorem lc_coreX {x1 : Addr} {pins : List (Addr × Obj)} {s : Shared} {σ : L2.St} {H : Hp} {Q : VK} {elt tg iter : Expr} {ifs : List Expr} {scope : Scope} {own : List (Str × Nat)} {pos pos' : Pos} {wi : TI} {g : TG} {tt : TT} {te : TE} {use : Option (Value → Sem Unit)} {Qf : Value → Shared → Prop}
    (hX : HX X x1) (hN : X.N.Nodup) (I : Inv X pins σ H s) (hi : PIX X x1 tg iter wi) (ok : BlkOk X.N X.env.scope scope own)
    (hg : ∀ (s : Shared) (H : Hp) (C : Addr) (cl : List (Str × Addr)) (fp : List Addr), HX (X.blk s H scope (compEnvC scope cl C X.env) fp) x1 → PG (X.blk s H scope (compEnvC scope cl C X.env) fp) tg g) (ht : ∀ (s : Shared) (H : Hp) (C : Addr) (cl : List (Str × Addr)) (fp : List Addr), HX (X.blk s H scope (compEnvC scope cl C X.env) fp) x1 → PTs (X.blk s H scope (compEnvC scope cl C X.env) fp) ifs tt)
    (he : ∀ (s : Shared) (H : Hp) (C : Addr) (cl : List (Str × Addr)) (fp : List Addr), HX (X.blk s H scope (compEnvC scope cl C X.env) fp) x1 → PE (X.blk s H scope (compEnvC scope cl C X.env) fp) elt te) (hs : ∀ x, foldedSetIterable iter X.env x = pure x)
    (h : tLc wi g tt te (own.map (·.2)) σ H Q)
    (hRR : ∀ D C s' m H', Inv X pins σ H' s' → Q (.ref D) H' → s'.heap.Ns C m → FpOk X pins H' C → compPost (model X.prog X.w) X.A X.xe use Qf (.ref D) C (.ok .next) s') :
    wpAny (model X.prog X.w) X.A (comprehension (.ListComp elt [⟨tg, iter, ifs, 0⟩] scope pos) scope X.env pos' (newList []) false (eval iter X.env) use) Qf X.xe s := by
  have hfree : ∀ y ∈ scope.names, y.2 = .free → ∃ c, X.env.cells.lookup y.1 = some c := fun y hy e => by
    rcases ok.free y hy e with k | k
    · exact I.ok.has _ (.inl k)
    · exact I.ok.has _ (.inr k)
  refine wpAny_comprehension_free (use := use) rfl hs (closure_ok hfree) ok.kind (fun y hy e => by rw [ok.uniq y hy, e])
    (thn (hi.run pins s σ H _ I (fun J => (hX.2 _ _ _ _ J).1) h) fun xv s1 hx => thn hx fun itv s2 h2 => ?_)
  obtain ⟨it, fp, tn, J, H2, e, I2, T, st2, f2, nx, q⟩ := h2
  subst e
  refine wpAny_newObj_type (newEnv_comp ?_) (by show 0 ≤ sizeLine; decide)
  generalize hD : s2.heap.objs.size = D
  have hDn : H2 D = none := I2.hok.fresh (Nat.le_of_eq hD)
  obtain ⟨W, ⟨m0, w0⟩, turn⟩ := q D hDn
  -- the new list
  generalize hs3 : ({ s2 with heap := s2.heap.push { cls := .type "list", data := .seq ([] : List Value).toArray } } : Shared) = s3
  have I3 : Inv X pins σ (upd H2 D (.lst [])) s3 := by
    rw [← hs3]
    refine I2.laid (t' := s2.toks) (fun b o e => Heap.get?_push_of_some _ e) (Nat.le_of_eq hD) ⟨Nat.zero_le _, [], 0, .nil, ?_⟩
    rw [← hD]
    exact Heap.get?_push_size _ rfl
  have h3 : s3.heap = s2.heap.push { cls := .type "list", data := .seq ([] : List Value).toArray } := by rw [← hs3]
  have sz : ∀ b ∈ fp, b < s2.heap.objs.size := fun b hb => by
    obtain ⟨o, e, _⟩ := T.obj _ _ st2 b hb
    exact Heap.lt_size e
  have f3 : ∀ b ∈ fp, FpOk X pins (upd H2 D (.lst [])) b ∧ b < s3.heap.objs.size := fun b hb => by
    have hlt := sz b hb
    refine ⟨⟨?_, (f2 b hb).2⟩, by rw [h3, Heap.size_push]; exact Nat.lt_succ_of_lt hlt⟩
    rw [upd_ne (by rw [← hD]; exact Nat.ne_of_lt hlt)]
    exact (f2 b hb).1
  have st3 : tn 0 s3.heap := T.keep _ _ _ st2 fun b _ o e => by rw [h3]; exact Heap.get?_push_of_some _ e
  have I4 := block_start I3 ok hN f3
  have hB := hX.blk I3 (scope := scope) (cenv := compEnvC scope (cellsFrom (s3.heap.objs.size + 1) scope.names (cloFrom X.env.cells scope.names [])) s3.heap.objs.size X.env) (fp := fp) nx
  have pg := hg s3 (upd H2 D (.lst [])) s3.heap.objs.size (cellsFrom (s3.heap.objs.size + 1) scope.names (cloFrom X.env.cells scope.names [])) fp hB
  have pt := ht s3 (upd H2 D (.lst [])) s3.heap.objs.size (cellsFrom (s3.heap.objs.size + 1) scope.names (cloFrom X.env.cells scope.names [])) fp hB
  have pe := he s3 (upd H2 D (.lst [])) s3.heap.objs.size (cellsFrom (s3.heap.objs.size + 1) scope.names (cloFrom X.env.cells scope.names [])) fp hB
  show codeAny _ _ (.compStart (.ListComp elt [⟨tg, iter, ifs, 0⟩] scope pos) 0 (.ref it) (.ref D) (compEnvC scope (cellsFrom (s3.heap.objs.size + 1) scope.names (cloFrom X.env.cells scope.names [])) s3.heap.objs.size X.env)) (compPost (model X.prog X.w) X.A X.xe use Qf (.ref D) s3.heap.objs.size) { s3 with heap := pushCells (s3.heap.push { cls := .type "dict", data := .dict #[] }) scope.names }
  have nfp : ∀ b ∈ fp, (upd H2 D (.lst [])) b = none := fun b hb => (f3 b hb).1.1
  generalize hce : compEnvC scope (cellsFrom (s3.heap.objs.size + 1) scope.names (cloFrom X.env.cells scope.names [])) s3.heap.objs.size X.env = ce at I4 pg pt pe hB ⊢
  have cL : ce.locals = s3.heap.objs.size := by subst hce; rfl
  generalize hH3 : upd H2 D (.lst []) = H3 at I3 I4 pg pt pe w0 nfp f3 hB
  generalize hs4 : ({ s3 with heap := pushCells (s3.heap.push { cls := .type "dict", data := .dict #[] }) scope.names } : Shared) = s4 at I4 ⊢
  have st4 : tn 0 s4.heap := T.keep _ _ _ st3 fun b _ o e => by rw [← hs4]; exact pushCells_keeps _ _ _ _ (Heap.get?_push_of_some _ e)
  have stat : ∀ {σ' : L2.St} {H' : Hp} {s' : Shared}, Inv (X.blk s3 H3 scope ce fp) [] σ' H' s' → (∀ b ∈ fp, H' b = none) → ∀ b ∈ fp, FpOk (X.blk s3 H3 scope ce fp) [] H' b := fun {σ' H' s'} I' hn b hb =>
    ⟨hn b hb, (I'.ok.exf b hb).1, I'.ok.exfs b hb, .inl hb, fun x c e => (I'.ok.exf b hb).2 x c e, fun p hp => absurd (show p ∈ ([] : List (Addr × Obj)) ++ [] from hp) (by simp)⟩
  have loop : codeAny (model X.prog X.w) X.A (.compLoop (.ListComp elt [⟨tg, iter, ifs, 0⟩] scope pos) 0 (.ref it) (.ref D) ce) (compPost (model X.prog X.w) X.A X.xe use Qf (.ref D) s3.heap.objs.size) s4 := by
    refine compLoop_any (fun n s' => ∃ i H', Inv (X.blk s3 H3 scope ce fp) [] (L2.wipe σ (own.map (·.2))) H' s' ∧ tn i s'.heap ∧ (∀ b ∈ fp, H' b = none) ∧ W i n H') ?_ m0 ⟨0, H3, I4, st4, nfp, w0⟩
    rintro n s5 ⟨i, H5, I5, st5, n5, w5⟩
    rcases turn i n H5 w5 with ⟨stop, qq⟩ | ⟨go, Nx, hNx, step⟩
    · have td := T.done (X.blk s3 H3 scope ce fp) rfl rfl rfl hX.1 i [] s5 _ H5 (fun _ _ => False) I5 (hB.2 _ _ _ _ I5).1 (stat I5 n5) st5 stop
      refine thnF td fun r s6 ⟨hr, I6⟩ => ?_
      subst hr
      -- back in the def's context
      have I7 : Inv X pins σ H5 s6 := I3.call' (ch := fp) I6.os I6.base I6.hok I6.bare fun b hb => ⟨(f3 b hb).1.2.2.2.1, (f3 b hb).1.2.1, (f3 b hb).1.2.2.2.2.1, (f3 b hb).1.2.2.2.2.2⟩
      have nC : H5 s3.heap.objs.size = none := by
        have z : H5 ce.locals = none := I6.free
        rw [cL] at z
        exact z
      obtain ⟨m, hn, _⟩ := I6.loc
      have hn : s6.heap.Ns ce.locals m := hn
      rw [cL] at hn
      exact hRR D s3.heap.objs.size s6 m H5 I7 qq hn (I3.fpOk (Nat.le_refl _) nC)
    · have ti := T.item (X.blk s3 H3 scope ce fp) rfl rfl rfl hX.1 i [] s5 _ H5 (fun _ _ => False) I5 (hB.2 _ _ _ _ I5).1 (stat I5 n5) st5 go
      refine thnF ti fun r s6 ⟨u, hr, h6⟩ => ?_
      subst hr
      refine thnF h6 fun _ s7 ⟨x, H7, I7, r7, y7, st7, n7⟩ => ?_
      have I7' := I7.pinned (stat I7 n7) (T.obj _ _ st7)
      refine thnF (pg.run _ s7 _ H7 x u _ I7' r7 (step x H7 y7)) fun _ s8 ⟨σ8, H8, I8, hw8, q8⟩ => ?_
      refine thnF (pt.run _ s8 σ8 H8 _ I8 q8) fun b s9 ⟨H9, I9, q9⟩ => ?_
      -- the turn's end
      have fin : ∀ {s' : Shared} {H' : Hp}, Inv (X.blk s3 H3 scope ce fp) ([] ++ pinsAt fp s7.heap) σ8 H' s' → Nx H' → ∃ m, m < n ∧ ∃ i H', Inv (X.blk s3 H3 scope ce fp) [] (L2.wipe σ (own.map (·.2))) H' s' ∧ tn i s'.heap ∧ (∀ b ∈ fp, H' b = none) ∧ W i m H' := fun {s' H'} I' nx => by
        obtain ⟨m', hm, w'⟩ := hNx H' nx
        have pin' : ∀ b ∈ fp, ∀ o, s7.heap.get? b = some o → s'.heap.get? b = some o ∧ H' b = none := fun b hb o e =>
          let z := I'.pin (b, o) (List.mem_append_right _ (List.mem_append_right _ (mem_pinsAt hb e)))
          ⟨z.1, z.2.1⟩
        have hl : (L2.wipe σ (own.map (·.2))).length = σ8.length := by rw [← hw8, L2.wipe_length]
        refine ⟨m', hm, i + 1, H', (I'.unpinned (pins := [])).weak hl (fun j v e => ?_), T.keep _ _ _ st7 fun b hb o e => (pin' b hb o e).1, fun b hb => ?_, w'⟩
        · rw [← hw8] at e
          exact (L2.wipe_some e).1
        · obtain ⟨o, e, _⟩ := T.obj _ _ st7 b hb
          exact (pin' b hb o e).2
      cases b with
      | false =>
        simp only [Bool.false_eq_true, if_false] at q9 ⊢
        exact fin I9 q9
      | true =>
        simp only [if_true] at q9 ⊢
        refine thnF (pe.run _ s9 σ8 H9 _ I9 q9) fun z s10 ⟨yv, H10, I10, r10, acc, hD10, hz10, nx⟩ => ?_
        exact app_ok (X := X.blk s3 H3 scope ce fp) I10 hD10 hz10 r10 fun s11 I11 => fin I11 nx
  exact codeAny_compStart_list loop (T.self X.A 0 _ _ _ st4 loop)
/-- as a value -/
theorem pe_lcX {x1 : Addr} {elt tg iter : Expr} {ifs : List Expr} {scope : Scope} {own : List (Str × Nat)} {pos : Pos} {wi : TI} {g : TG} {tt : TT} {te : TE} (hX : HX X x1) (hN : X.N.Nodup) (hi : PIX X x1 tg iter wi) (ok : BlkOk X.N X.env.scope scope own)
    (hg : ∀ (s : Shared) (H : Hp) (C : Addr) (cl : List (Str × Addr)) (fp : List Addr), HX (X.blk s H scope (compEnvC scope cl C X.env) fp) x1 → PG (X.blk s H scope (compEnvC scope cl C X.env) fp) tg g) (ht : ∀ (s : Shared) (H : Hp) (C : Addr) (cl : List (Str × Addr)) (fp : List Addr), HX (X.blk s H scope (compEnvC scope cl C X.env) fp) x1 → PTs (X.blk s H scope (compEnvC scope cl C X.env) fp) ifs tt)
    (he : ∀ (s : Shared) (H : Hp) (C : Addr) (cl : List (Str × Addr)) (fp : List Addr), HX (X.blk s H scope (compEnvC scope cl C X.env) fp) x1 → PE (X.blk s H scope (compEnvC scope cl C X.env) fp) elt te) (hs : ∀ x, foldedSetIterable iter X.env x = pure x := by intro _; rfl) :
    PE X (.ListComp elt [⟨tg, iter, ifs, 0⟩] scope pos) (tLc wi g tt te (own.map (·.2))) := by
  refine ⟨fun pins s σ H Q I h => ?_⟩
  rw [eval_ListComp]
  refine lc_coreX hX hN I hi ok hg ht he hs h fun D C s' m H' I' q hn f => ⟨m, hn, fun h'' sb => ?_⟩
  obtain ⟨f0, f1, f2, f3, f4, f5⟩ := f
  exact ⟨.ref D, H', I'.turned (t' := s'.toks) (fun b o hb e => (sb.2 b hb).trans e) f0 f1 f3 f4 f5, rfl, q⟩
theorem ps_setLcX {x1 : Addr} {i : Nat} {y : Str} {py : Pos} {elt tg iter : Expr} {ifs : List Expr} {scope : Scope} {own : List (Str × Nat)} {pos spos : Pos} {wi : TI} {g : TG} {tt : TT} {te : TE} (hX : HX X x1) (hN : X.N.Nodup) (hy : X.N[i]? = some y) (hyl : X.env.scope.names.lookup y = some .local)
    (hsw : swapsWith (.ListComp elt [⟨tg, iter, ifs, 0⟩] scope pos) (some (.Name y py)) spos.line X.env = pure true) (hi : PIX X x1 tg iter wi) (ok : BlkOk X.N X.env.scope scope own)
    (hg : ∀ (s : Shared) (H : Hp) (C : Addr) (cl : List (Str × Addr)) (fp : List Addr), HX (X.blk s H scope (compEnvC scope cl C X.env) fp) x1 → PG (X.blk s H scope (compEnvC scope cl C X.env) fp) tg g) (ht : ∀ (s : Shared) (H : Hp) (C : Addr) (cl : List (Str × Addr)) (fp : List Addr), HX (X.blk s H scope (compEnvC scope cl C X.env) fp) x1 → PTs (X.blk s H scope (compEnvC scope cl C X.env) fp) ifs tt)
    (he : ∀ (s : Shared) (H : Hp) (C : Addr) (cl : List (Str × Addr)) (fp : List Addr), HX (X.blk s H scope (compEnvC scope cl C X.env) fp) x1 → PE (X.blk s H scope (compEnvC scope cl C X.env) fp) elt te) (hs : ∀ x, foldedSetIterable iter X.env x = pure x := by intro _; rfl) :
    PS X (.Assign [.Name y py] (.ListComp elt [⟨tg, iter, ifs, 0⟩] scope pos) spos) (tAsg (tLc wi g tt te (own.map (·.2))) (gName i)) := by
  refine ⟨fun pins s σ H D I h => ?_⟩
  rw [exec_Assign_Name_used _ _ _ _ hsw]
  refine wpAny_bind (wpAny_standAt (wpAny_bind ?_))
  show wpAny _ X.A (do let _ ← comprehension (.ListComp elt [⟨tg, iter, ifs, 0⟩] scope pos) scope X.env (firstIterPos [⟨tg, iter, ifs, 0⟩] pos) (newList []) false (eval iter X.env) (some (assign (.Name y py) X.env))) _ _ s
  have h : tLc wi g tt te (own.map (·.2)) σ H (fun x H1 => gName i x σ H1 D.nx) := h
  refine wpAny_bind (thn (lc_coreX (Qf := fun _ s' => SP X pins D .next s') hX hN I hi ok hg ht he hs h fun L C s' m H' I' q hn f => ?_) fun _ s' hq => wpAny_pure (wpAny_pure hq))
  show wpAny _ _ (assign (.Name y py) X.env (.ref L)) _ _ _
  refine wpAny_assign_Name (store_ok2 (v := V.ref L) I' hN hy (.inl hyl) rfl (fun s2 I2 ⟨a, sb, ha⟩ => ?_) (.inr hyl))
  obtain ⟨f0, f1, f2, f3, f4, f5⟩ := f
  have haC : C ≠ a := by
    rcases ha with z | z
    · rw [z]; exact f1
    · exact fun e => f4 y a z e.symm
  refine ⟨m, hn.sameBut sb haC, fun h3 sb3 => ?_⟩
  exact ⟨_, H', I2.turned (t' := s2.toks) (fun b o hb e => (sb3.2 b hb).trans e) f0 f1 f3 f4 f5, q⟩
theorem pg_tupX {x1 : Addr} {es : List Expr} {k : Nat} {t : TGs} {n : Nat} {pos : Pos} (hX : HX X x1) (h : PGs X es t)
    (hn : (assignEach es X.env).length = n := by rfl) (hst : (assignEach es X.env).findIdx? (·.1) = none := by rfl) : PG X (.Tuple es k pos) (gTup X.K n t) := by
  refine ⟨fun pins s σ H v u Q I r hw => ?_⟩
  obtain ⟨a, xs, e1, hq, hl, hw⟩ := hw
  subst e1
  cases r
  obtain ⟨its, rv, ht, hz⟩ := I.tuple hq
  refine assign_tupleH hX.1 (hX.2 _ _ _ _ I).1 ht (by simp [hn, ← hl, rv.length]) hst fun h' hx => ?_
  have I1 : Inv X pins σ H { s with heap := h' } := I.kept (t' := s.toks) fun b o e => hx b o (Nat.ne_of_lt (Heap.lt_size e)) e
  exact h.run pins _ σ H xs _ Q I1 (by simpa using rv) hw
theorem pg_unlX {x1 : Addr} {es : List Expr} {k : Nat} {t : TGs} {n : Nat} {pos : Pos} (hX : HX X x1) (h : PGs X es t)
    (hn : (assignEach es X.env).length = n := by rfl) (hst : (assignEach es X.env).findIdx? (·.1) = none := by rfl) : PG X (.Tuple es k pos) (gUnl X.K n t) := by
  refine ⟨fun pins s σ H v u Q I r hw => ?_⟩
  obtain ⟨a, xs, e1, hq, hl, hw⟩ := hw
  subst e1
  cases r
  obtain ⟨its, rv, pl, hz⟩ := I.list hq
  have hl' : s.heap.IsList a its.toArray := pl.isList
  have hn' : (assignEach es X.env).length = its.toArray.size := hn.trans (hl.symm.trans (rv.length.trans (by simp)))
  rw [PyProof.Rows.assign_Tuple]
  refine wpAny_bind (wpAny_standAt ?_)
  unfold unpack
  rw [hn', hst]
  refine wpAny_bind (wpAny_holding (unpackItems_listH hX.1 (hX.2 _ _ _ _ I).1 hl' fun h' hx => ?_))
  have I1 : Inv X pins σ H { s with heap := h' } := I.kept (t' := s.toks) fun b o e => hx b o (Nat.ne_of_lt (Heap.lt_size e)) e
  exact h.run pins _ σ H xs _ Q I1 (by simpa using rv) hw
theorem hx_suite {X : Cx} {a : Addr} {oe : Obj} {cls : Value} {d : Option Addr} {pn : List (Addr × Obj)} (hz : L2N.Zn cls d oe) (hf : ∃ vs, oe.data = .fields vs) : HX (X.suite a ((a, oe) :: pn)) a := by
  obtain ⟨vs, hv⟩ := hf
  refine ⟨rfl, fun pins σ H s I => ?_⟩
  obtain ⟨h1, h2, _⟩ := I.pin (a, oe) (List.mem_append.mpr (.inl List.mem_cons_self))
  exact ⟨⟨oe, vs, h1, hv, hz.2.2 vs hv⟩, h2⟩
end
end EW

/-! EW: a lambda handed to a def that calls it; what it raises has no context. -/
namespace EW
open PySem PySem.Spec PyProof.Rows L2 LamX
/-- all but the tables stay; the tables stay tables -/
def ExtT (H H' : Hp) : Prop := ExtN H H' ∧ ∀ b ps, H b = some (.tbl ps) → ∃ ps', H' b = some (.tbl ps')
theorem ExtT.refl (H : Hp) : ExtT H H := ⟨ExtN.refl H, fun _ ps h => ⟨ps, h⟩⟩
def tLamN (T : List (Addr × Str)) (TT : (XK → Hp → VK → Prop) → Hp → VK → Prop) (t : XK → TE) : TE := fun σ H Q => Tabs T H ∧ ∀ H1, ExtT H H1 → Tabs T H1 → TT (fun E H' Q' => t E σ H' Q') H1 Q
def lamCxN (X : Cx) (A : Around) (outer : List PySem.Env) (s : Shared) (H : Hp) (E : XK) (scope : Scope) (f c' : Addr) : Cx :=
  { lamCx X A outer s H E scope f c' with
    xe := fun e s' => wpAny (model X.prog X.w) (A.deeper (lamEnv X scope s.heap.objs.size f c')) (leaving (lamEnv X scope s.heap.objs.size f c') e) (fun _ s'' => L2N.CX X.prog X.w outer H s E e s'') (fun e' s'' => L2N.CX X.prog X.w outer H s E e' s'') s' }
section
variable {X : Cx} {pins : List (Addr × Obj)} {σ : L2.St} {H HZ : Hp} {s s1 : Shared}
theorem lam_startN {A : Around} {outer : List PySem.Env} {E : XK} {scope : Scope} {f c' : Addr} {h₁ : Heap} {tk : Nat} (I : Inv X pins σ H s) (L : LamS X.env.scope scope) (e0 : Env0 X.prog X.w X.K X.mg X.base A outer s1 HZ) (hd : A.handled = none)
    (un : Un (frs X.stack) [] H HZ s.heap s1.heap) (hns : h₁.Ns s1.heap.objs.size fun y => ([] : List (Str × Value)).reverse.lookup y) (kp : ∀ b o, s1.heap.get? b = some o → h₁.get? b = some o) :
    Inv (lamCxN X A outer s1 HZ E scope f c') [] σ HZ { s1 with heap := h₁, toks := tk } := by
  have J := lam_start2 (E := E) (f := f) (c' := c') (tk := tk) I L e0 hd un hns kp
  obtain ⟨ok, a1, a2, a3, a4, a5, a6, a7, a8, a9, a10⟩ := J
  obtain ⟨b1, b2, b3, b4, b5, b6, b7, b8, b9, b10, b11, b12, b13, b14, b15, b16, b17, b18⟩ := ok
  exact ⟨⟨b1, b2, b3, b4, b5, b6, b7, b8, b9, b10, b11, b12, b13, b14, b15, b16, b17, b18⟩, a1, a2, a3, a4, a5, a6, a7, a8, a9, a10⟩
/-- x(), in the def that got the lambda: Z is that def's context, entered at s -/
theorem pe_actN {CXg : CXT} {Eg : XK} {Ng : List Str} {qg : Str} {sg : Scope} {g f c' : Addr} {cdg pm ctv : Value} {params : Arguments} {body : Expr} {scope : Scope} {k i : Nat} {a : Str} {pn : List (Addr × Obj)} {xe : Value → Shared → Prop} {W : WX} {E : XK} {tb : TE} {p1 p2 : Pos}
    (I : Inv X pins σ H s) (L : LamS X.env.scope scope) (hf : s.heap.get? f = some (PySem.W.kla_obj "<lambda>" (X.env.qual ++ "<lambda>") params body scope (cloFrom X.env.cells scope.names []) pm c' ctv)) (hfn : H f = none) (hfr : f ∉ frs X.stack)
    (hbind : bindArgs (PySem.W.kla_fn "<lambda>" (X.env.qual ++ "<lambda>") params body scope (cloFrom X.env.cells scope.names []) pm (.ref c') ctv) ⟨[], []⟩ = pure [])
    (tk : L2N.Takes ((cxOf CXg X.prog X.w X.K X.mg X.base Ng qg sg g cdg X.A X.stack s H Eg).tr pn xe) W) (hW : ∀ cls d σ' H', E cls d H' → W cls d σ' H') (hr : Room (k + 1) (X.A.deeper (envOfC qg sg s.heap.objs.size g cdg)))
    (hbody : ∀ (A : Around) (outer : List PySem.Env) (s : Shared) (H : Hp), Room k (A.deeper (lamEnv X scope s.heap.objs.size f c')) → PE (lamCxN X A outer s H E scope f c') body tb)
    (hN : Ng[i]? = some a) (hv : Vis sg a) (hd : (a == ("__debug__" : Str)) = false := by decide) (hcd : (a == ("__classdict__" : Str)) = false := by decide) :
    PE ((cxOf CXg X.prog X.w X.K X.mg X.base Ng qg sg g cdg X.A X.stack s H Eg).tr pn xe) (.Call (.Name a p1) [] [] p2)
      (fun σZ HZ Q => σZ[i]? = some (some (.ref f)) ∧ HZ c' = some (CodeO c' (X.env.qual ++ "<lambda>")) ∧ tb σ HZ Q) := by
  refine ⟨fun pinsZ sZ σZ HZ Q IZ h => ?_⟩
  obtain ⟨hs, hc, ht⟩ := h
  refine wpAny_Call_Name_kw (thn ((pe_var (pos := p1) (i := i) hN hv hd hcd).run pinsZ sZ σZ HZ (fun v H1 => v = .ref f ∧ H1 = HZ) IZ ⟨.ref f, hs, rfl, rfl⟩) fun u s1 ⟨v, H1, I1, r1, q1⟩ => ?_)
  obtain ⟨ev, eH⟩ := q1
  subst ev
  rw [eH] at I1
  obtain rfl : u = Value.ref f := r1
  have of1 : s1.heap.get? f = some (PySem.W.kla_obj "<lambda>" (X.env.qual ++ "<lambda>") params body scope (cloFrom X.env.cells scope.names []) pm c' ctv) := I1.base.keep f _ hf hfn hfr (fun z => nomatch (show f ∈ ([] : List Addr) from z))
  refine PySem.W.callWith_F0 ⟨_, _, _, _, of1⟩ ?_
  have un : Un (frs X.stack) [] H HZ s.heap s1.heap := I1.base
  obtain ⟨⟨oc, vs, t, hoc, hdc, hvc⟩, _, _⟩ := I1.hok c' _ hc
  have rc : codeAny (model X.prog X.w) (X.A.deeper (envOfC qg sg s.heap.objs.size g cdg)) (.call (.ref f) ⟨[], []⟩) (CR (L2N.CX X.prog X.w) (envOfC qg sg s.heap.objs.size g cdg :: X.stack) X.prog X.w HZ s1 Q E) s1 := by
    refine PySem.W.kla_callFunE hr.depth of1 rfl L.co L.gen rfl ⟨c', oc, vs, t, rfl, hoc, hdc, hvc⟩ ?_
    rw [hbind]
    refine wpAny_pure (wpAny_newFunctionEnv (fun y hy => (L.own y hy).2) (fun y hy => absurd hy (by simp)) (fun h₁ hns hsb => ⟨I1.nolimit.fresh _ hsb, ?_⟩) L.kind)
    show codeAny _ _ (.expr body (lamEnv X scope s1.heap.objs.size f c')) _ _
    have kp : ∀ b o, s1.heap.get? b = some o → h₁.get? b = some o := fun b o e => hsb.extBut b o (Nat.ne_of_lt (Heap.lt_size e)) (Heap.get?_push_of_some _ e)
    have J : Inv (lamCxN X (X.A.deeper (envOfC qg sg s.heap.objs.size g cdg)) (envOfC qg sg s.heap.objs.size g cdg :: X.stack) s1 HZ E scope f c') [] σ HZ { s1 with heap := h₁, toks := s1.toks + ([] : List (Str × Value)).length } :=
      lam_startN I L I1.env0 hr.hd un hns kp
    refine PySem.W.kla_codeExpr (wpAny_mono ((hbody _ _ s1 HZ (hr.deeper _)).run [] _ _ HZ Q J ht) (fun v s' hq => ?_) fun e s' hq => hq)
    obtain ⟨w', H', J', rv, q⟩ := hq
    exact ⟨w', H', J'.os, J'.bare, J'.base, J'.hok, rv, q⟩
  have hx : Passes (L2N.CX X.prog X.w) ((cxOf CXg X.prog X.w X.K X.mg X.base Ng qg sg g cdg X.A X.stack s H Eg).tr pn xe) E := L2N.passes_call tk hW
  refine wpAny_call (codeAny_mono rc fun r s' hq => ?_)
  cases r with
  | error e => exact hx pinsZ σZ HZ s1 e s' I1 hq
  | ok fl =>
    cases fl with
    | ret u => exact I1.after hq
    | next => exact False.elim hq
    | brk => exact False.elim hq
    | cont => exact False.elim hq
end
/-- the def that calls what it got: a calls it; TT: what it makes of the lambda's reading -/
def GivesN (X : Cx) (Ng : List Str) (x : Str) (sg : Scope) (g : Addr) (cdg : Value) (bg : List Stmt) (a : Str) (q : Str) (TT : (XK → Hp → VK → Prop) → Hp → VK → Prop) : Prop :=
  ∀ (f c' : Addr) (s : Shared) (H : Hp) (Q : VK) (tl : XK → Hp → VK → Prop),
    (∀ (W : WX) (pn : List (Addr × Obj)) (xe : Value → Shared → Prop) (E : XK) (p1 p2 : Pos), L2N.Takes ((cxOf C8.CX0 X.prog X.w X.K X.mg X.base Ng x sg g cdg X.A X.stack s H C8.E0).tr pn xe) W → (∀ cls d σ' H', E cls d H' → W cls d σ' H') →
      PE ((cxOf C8.CX0 X.prog X.w X.K X.mg X.base Ng x sg g cdg X.A X.stack s H C8.E0).tr pn xe) (.Call (.Name a p1) [] [] p2) (fun σZ HZ Q => σZ[0]? = some (some (.ref f)) ∧ HZ c' = some (CodeO c' q) ∧ tl E HZ Q)) →
    H c' = some (CodeO c' q) → TT tl H Q →
    ∃ t, PSs (cxOf C8.CX0 X.prog X.w X.K X.mg X.base Ng x sg g cdg X.A X.stack s H C8.E0).nox bg t ∧ t { nx := fun _ H' => Q .non H', rt := Q } (L2.start Ng [.ref f]) H
section
variable {X : Cx}
/-- the lambda is made: its code object is new, or found in the table -/
theorem lam_makeN {T : List (Addr × Str)} {c P : Addr} {params : Arguments} {body : Expr} {scope : Scope} {pos : Pos} {E : Value → Shared → Prop} {Q : Value → Shared → Prop} (I : Inv X pins σ H s) (TB : TabB X.base X.mg c P) (hcode : X.env.code = .ref c)
    (hm : (P, X.env.qual ++ "<lambda>") ∈ T) (hu : ∀ p ∈ T, p.1 = P → p.2 = X.env.qual ++ "<lambda>") (hT : Tabs T H) (hdef : defaultsOf params X.env = ([], [])) (hfree : ∀ y ∈ scope.names, y.2 = .free → ∃ c, X.env.cells.lookup y.1 = some c)
    (h : ∀ (f c' : Addr) (pm ctv : Value) (H1 : Hp) (s' : Shared), Inv X pins σ H1 s' → ExtT H H1 → Tabs T H1 →
      s'.heap.get? f = some (PySem.W.kla_obj "<lambda>" (X.env.qual ++ "<lambda>") params body scope (cloFrom X.env.cells scope.names []) pm c' ctv) → H1 f = none → f ∉ frs X.stack → H1 c' = some (CodeO c' (X.env.qual ++ "<lambda>")) → Q (.ref f) s') :
    wpAny (model X.prog X.w) X.A (eval (.Lambda params body scope pos) X.env) Q E s := by
  obtain ⟨ps, hP, ht, ha⟩ := hT _ hm
  refine PySem.W.kla_eval hdef ?_
  have bP : s.heap.BuiltinsAt X.mg P := TB.bm.keeps I.bk
  have hP' : s.heap.get? P = some { cls := .none, data := .fields ps } := I.hok P _ hP
  have nofr : ∀ f, s.heap.objs.size ≤ f → f ∉ frs X.stack := fun f hf z => by
    rcases List.mem_cons.mp (I.stkSub _ z) with e | e
    · have h1 := I.lt
      rw [← e] at h1
      exact Nat.lt_irrefl _ (Nat.lt_of_lt_of_le h1 hf)
    · exact I.nofs hf e
  cases hc : codeAmong pos ps.toList with
  | none =>
    refine PySem.W.kla_makeFunction (mg := X.mg) (c := c) (P := P) (ps := ps) (closure_ok hfree) I.ok.glob (I.mod.glob.keeps I.bk) hcode (TB.code.keeps I.bk) hP' ht hc TB.gP bP fun c' ctv h' tk hx hge hlt hrec htb => ?_
    obtain ⟨c2, oc, vs, t, e2, hoc, hd, hv⟩ := hrec
    cases e2
    have hsz : s.heap.objs.size ≤ h'.objs.size := Nat.le_trans hge (Nat.le_of_lt hlt)
    have nC : H c' = none := I.hok.fresh hge
    have I1 := inv_table (t' := tk) (more := #[rawInt pos.line, rawInt pos.col, .ref c']) (h' := h'.push (PySem.W.kla_obj "<lambda>" (X.env.qual ++ "<lambda>") params body scope (cloFrom X.env.cells scope.names []) ((X.mg "__name__").getD .none) c' ctv)) I hP
      (fun b o hb e => Heap.get?_push_of_some _ (hx b o hb e)) (Heap.get?_push_of_some _ htb) hge ⟨oc, vs, t, Heap.get?_push_of_some _ hoc, hd, hv⟩
    have hE : ExtN H (upd (upd H P (.tbl (ps ++ #[rawInt pos.line, rawInt pos.col, .ref c']))) c' (CodeO c' (X.env.qual ++ "<lambda>"))) := fun b o e n => by
      rw [upd_ne (ne_of_none e nC), upd_ne (fun z => n ps (Option.some.inj (e.symm.trans (by rw [z]; exact hP))))]
      exact e
    have eL : (ps ++ #[rawInt pos.line, rawInt pos.col, .ref c']).toList = ps.toList ++ [rawInt pos.line, rawInt pos.col, .ref c'] := by simp
    have hE2 : ExtT H (upd (upd H P (.tbl (ps ++ #[rawInt pos.line, rawInt pos.col, .ref c']))) c' (CodeO c' (X.env.qual ++ "<lambda>"))) := ⟨hE, fun b qs e => by
      rw [upd_ne (ne_of_none e nC)]
      by_cases hb : b = P
      · subst hb
        exact ⟨_, upd_same⟩
      · exact ⟨qs, by rw [upd_ne hb]; exact e⟩⟩
    refine h h'.objs.size c' ((X.mg "__name__").getD .none) ctv _ _ I1 hE2 (fun p hp => ?_) (Heap.get?_push_size _ rfl) ?_ (nofr _ hsz) upd_same
    · by_cases hb : p.1 = P
      · rw [hu p hp hb, hb]
        refine ⟨_, by rw [upd_ne (ne_of_none hP nC), upd_same], by rw [eL]; exact PySem.TriplesOk_snoc _ _ _ _ ht, fun p' cv hcv => ?_⟩
        rw [eL] at hcv
        rcases among_app _ ht hcv with z | z
        · obtain ⟨c0, e1, e2⟩ := ha p' cv z
          exact ⟨c0, e1, hE _ _ e2 codeO_ne⟩
        · exact ⟨c', z, upd_same⟩
      · obtain ⟨ps', a1, a2, a3⟩ := hT p hp
        refine ⟨ps', by rw [upd_ne (ne_of_none a1 nC), upd_ne hb]; exact a1, a2, fun p' cv hcv => ?_⟩
        obtain ⟨c0, e1, e2⟩ := a3 p' cv hcv
        exact ⟨c0, e1, hE _ _ e2 codeO_ne⟩
    · have n1 : h'.objs.size ≠ c' := Nat.ne_of_gt hlt
      have n2 : h'.objs.size ≠ P := Nat.ne_of_gt (Nat.lt_of_lt_of_le (Heap.lt_size hP') hsz)
      rw [upd_ne n1, upd_ne n2]
      exact I.hok.fresh hsz
  | some cv =>
    obtain ⟨c', e, hco⟩ := ha pos cv hc
    subst e
    refine PySem.W.kla_makeFunctionHit (mg := X.mg) (c := c) (P := P) (ps := ps) (closure_ok hfree) I.ok.glob (I.mod.glob.keeps I.bk) hcode (TB.code.keeps I.bk) hP' ht hc bP fun ctv h' tk hx hsz => ?_
    have I1 : Inv X pins σ H { s with heap := h'.push (PySem.W.kla_obj "<lambda>" (X.env.qual ++ "<lambda>") params body scope (cloFrom X.env.cells scope.names []) ((X.mg "__name__").getD .none) c' ctv), toks := tk } := I.kept fun b o e => Heap.get?_push_of_some _ (hx b o e)
    exact h h'.objs.size c' ((X.mg "__name__").getD .none) ctv H _ I1 (ExtT.refl H) hT (Heap.get?_push_size _ rfl) (I.hok.fresh hsz) (nofr _ hsz) hco
/-- x(lambda: body) -/
theorem pe_lamcallN {T : List (Addr × Str)} {TT : (XK → Hp → VK → Prop) → Hp → VK → Prop} {x a : Str} {g c P : Addr} {k : Nat} {pg : Arguments} {bg : List Stmt} {sg : Scope} {dV kV doc pm cdv ct oc : Value} {an od : Option Addr} {osl : Array (Option Value)} {Ng : List Str}
    {params : Arguments} {body : Expr} {scope : Scope} {t : XK → TE} {p lpos pos : Pos} (hg : Gl X x) (hm : X.mg x = some (.ref g)) (hk : PySem.W.keepIn X.K (.ref g) = true)
    (lk : X.K.lookup g = some ⟨oc, od, .func (PySem.W.fnOf x x pg bg sg dV kV doc pm an cdv ct), osl⟩) (hcg : PySem.W.codeIn X.K cdv x = true) (hb : L2.Binds X.K (PySem.W.fnOf x x pg bg sg dV kV doc pm an cdv ct) [a] []) (Sg : FnScope Ng [a] sg) (hNg : Ng[0]? = some a) (hva : Vis sg a)
    (hG : GivesN X Ng x sg g cdv bg a (X.env.qual ++ "<lambda>") TT)
    (TB : TabB X.base X.mg c P) (hcode : X.env.code = .ref c) (hmT : (P, X.env.qual ++ "<lambda>") ∈ T) (hu : ∀ p ∈ T, p.1 = P → p.2 = X.env.qual ++ "<lambda>") (hr : Room (k + 2) X.A) (L : LamS X.env.scope scope) (hdef : defaultsOf params X.env = ([], []))
    (hbind : ∀ (q : Str) (cl : List (Str × Addr)) (pm cv ctv : Value), bindArgs (PySem.W.kla_fn "<lambda>" q params body scope cl pm cv ctv) ⟨[], []⟩ = pure [])
    (hbody : ∀ (A : Around) (outer : List PySem.Env) (s : Shared) (H : Hp) (E : XK) (f c' : Addr), Room k (A.deeper (lamEnv X scope s.heap.objs.size f c')) → PE (lamCxN X A outer s H E scope f c') body (t E))
    (hdb : (x == ("__debug__" : Str)) = false := by decide) (hd : (a == ("__debug__" : Str)) = false := by decide) (hcd : (a == ("__classdict__" : Str)) = false := by decide) :
    PE X (.Call (.Name x p) [.Lambda params body scope lpos] [] pos) (tLamN T TT t) := by
  refine ⟨fun pins s σ H Q I h => ?_⟩
  obtain ⟨hT, h⟩ := h
  refine wpAny_Call_Name_kw (ld_glob I hg hm ?_ hdb)
  refine PySem.W.callWith_K (h₀ := X.base) I.ok.mod.kin hk ?_ (by rfl) (by rfl)
  show wpAny _ _ (spliced ((false, eval (.Lambda params body scope lpos) X.env) :: backTo pos (starEach [] X.env))) _ _ s
  refine Calls.spliced_cons (lam_makeN I TB hcode hmT hu hT hdef (L.has I.ok) fun f c' pm' ctv H1 s' I1 eN T1 hf hfn hfr hco => ?_)
  refine Calls.spliced_nil ⟨I1.kIn, ?_⟩
  have rc : codeAny (model X.prog X.w) X.A (.call (.ref g) ⟨[.ref f], []⟩) (CR C8.CX0 X.stack X.prog X.w H1 s' Q C8.E0) s' := by
    refine run_ofS (N := Ng) (ps := [a]) (us := [.ref f]) (vs := [.ref f]) lk hcg Sg hr I1.env0 (hb s' [.ref f] I1.kIn rfl) (.cons rfl .nil) rfl fun hr' => ?_
    obtain ⟨t', ht', hq'⟩ := hG f c' s' H1 Q (fun E H' Q' => t E σ H' Q') (fun W pn xe E p1 p2 tk hW => pe_actN (i := 0) I1 L hf hfn hfr (hbind _ _ _ _ _) tk hW hr' (fun A outer s H hr2 => hbody A outer s H E f c' hr2) hNg hva hd hcd) hco (h H1 eN T1)
    exact ⟨t', ht'.nox, hq'⟩
  refine wpAny_call (codeAny_mono rc fun r s2 hq => ?_)
  cases r with
  | error e => exact (show False from hq).elim
  | ok fl =>
    cases fl with
    | ret u => exact I1.after hq
    | next => exact False.elim hq
    | brk => exact False.elim hq
    | cont => exact False.elim hq
end
end EW

/-! EW, part 5: a checker: is the small text what the program's text says? -/
namespace EW
open PySem PySem.Spec PyProof.Rows L2

/-- what is known of names: the slots, the scope, the module's values, its defs -/
structure Ct where
  N : List Str
  sc : List (Str × NameKind)
  G : List (Str × D)
  F : List (Str × Nat)
  /-- within an except suite -/
  hot : Bool
  /-- the defs that call what they got and tell the word of the error -/
  wd : List (Str × D × List (Nat × D))
  /-- classes of errors: which errors are theirs -/
  iso : List (Str × List (Nat × Bool))
/-- a block's names -/
def Ct.inner (C : Ct) (sc : List (Str × NameKind)) : Ct := { C with sc := sc, iso := [] }
/-- a lambda's names -/
def Ct.lam (C : Ct) (sc : List (Str × NameKind)) : Ct := { C with sc := sc, hot := false, wd := [], iso := [] }

mutual
def sameD : D → D → Bool
  | .non, .non => true
  | .bl a, .bl b => a == b
  | .int i, .int j => decide (i = j)
  | .str l, .str m => eqL l m
  | .tup l, .tup m => sameDs l m
  | .cls n, .cls m => Nat.beq n m
  | .fn n, .fn m => Nat.beq n m
  | _, _ => false
def sameDs : List D → List D → Bool
  | [], [] => true
  | a :: r, b :: s => sameD a b && sameDs r s
  | _, _ => false
end
theorem eqL_eq {l m : List Nat} (h : eqL l m = true) : l = m := by rw [eqL_iff] at h; simpa using h
mutual
theorem sameD_eq : ∀ (d e : D), sameD d e = true → d = e
  | .non, e, h => by cases e <;> simp_all [sameD]
  | .bl _, e, h => by cases e <;> simp_all [sameD]
  | .int _, e, h => by cases e <;> simp_all [sameD]
  | .str _, e, h => by
    cases e <;> simp only [sameD] at h <;> try (cases h; done)
    rw [eqL_eq h]
  | .tup l, e, h => by
    cases e <;> simp only [sameD] at h <;> try (cases h; done)
    rw [sameDs_eq _ _ h]
  | .lst _, e, h => by cases e <;> simp_all [sameD]
  | .scr _, e, h => by cases e <;> simp_all [sameD]
  | .cell _, e, h => by cases e <;> simp_all [sameD]
  | .fn _, e, h => by
    cases e <;> simp only [sameD] at h <;> try (cases h; done)
    rw [Nat.eq_of_beq_eq_true h]
  | .cls _, e, h => by
    cases e <;> simp only [sameD] at h <;> try (cases h; done)
    rw [Nat.eq_of_beq_eq_true h]
theorem sameDs_eq : ∀ (d e : List D), sameDs d e = true → d = e
  | [], [], _ => rfl
  | [], _ :: _, h => by simp [sameDs] at h
  | _ :: _, [], h => by simp [sameDs] at h
  | a :: r, b :: s, h => by
    simp only [sameDs, Bool.and_eq_true] at h
    rw [sameD_eq a b h.1, sameDs_eq r s h.2]
end

def okS (l : List Nat) : Bool := fitL l.length && l.all fun c => Nat.blt c 1114112

def Ct.vis (C : Ct) (x : Str) (i : Nat) : Bool :=
  decide (C.N[i]? = some x) && (match C.sc.lookup x with
    | some .local => true
    | some .cell => true
    | some .free => true
    | _ => false) && !(x == ("__debug__" : Str)) && !(x == ("__classdict__" : Str))
def Ct.glb (C : Ct) (x : Str) : Bool := (match C.sc.lookup x with
    | some .globalImplicit => true
    | _ => false) && !(x == ("__debug__" : Str)) && !(x == ("__name__" : Str))
def Ct.val (C : Ct) (x : Str) (d : D) : Bool := match C.G.lookup x with
  | some e => sameD e d
  | none => false
def Ct.dfn (C : Ct) (x : Str) (i : Nat) : Bool := match C.F.lookup x with
  | some j => Nat.beq j i
  | none => false

def sameTb : List (Nat × D) → List (Nat × D) → Bool
  | [], [] => true
  | (i, d) :: r, (j, e) :: s => Nat.beq i j && sameD d e && sameTb r s
  | _, _ => false
theorem sameTb_eq : ∀ {l m : List (Nat × D)}, sameTb l m = true → l = m
  | [], [], _ => rfl
  | [], _ :: _, h => by simp [sameTb] at h
  | _ :: _, [], h => by simp [sameTb] at h
  | (i, d) :: r, (j, e) :: s, h => by
    simp only [sameTb, Bool.and_eq_true] at h
    rw [Nat.eq_of_beq_eq_true h.1.1, sameD_eq _ _ h.1.2, sameTb_eq h.2]
def Ct.wdOk (C : Ct) (x : Str) (d0 : D) (tb : List (Nat × D)) : Bool := match C.wd.lookup x with
  | some (e, t) => sameD e d0 && sameTb t tb
  | none => false
def Ct.isoOk (C : Ct) (x : Str) (tb : List (Nat × Bool)) : Bool := match C.iso.lookup x with
  | some t => decide (t = tb)
  | none => false
/-- a lambda's scope -/
def lamC (sc : List (Str × NameKind)) (scope : Scope) : Bool := LamX.lamSB ⟨.function, sc, false, false, []⟩ scope
/-- built-ins that raise nothing within -/
def biHot : Bi → Bool
  | .len => true
  | .abs => true
  | .int => true
  | .tuple => true
  | _ => false
def isZip : I → Bool
  | .zip _ _ => true
  | _ => false
def opIs : Operator → Op → Bool
  | .Add, .add => true | .Sub, .sub => true | .Mult, .mul => true | .FloorDiv, .fdiv => true | .Mod, .mod => true | .Pow, .pow => true
  | .LShift, .shl => true | .RShift, .shr => true
  | _, _ => false
def cpIs : CmpOp → Cp → Bool
  | .Eq, .eq => true | .NotEq, .ne => true | .Lt, .lt => true | .LtE, .le => true | .Gt, .gt => true | .GtE, .ge => true | .Is, .is => true | .IsNot, .isnt => true | .In, .isin => true | .NotIn, .notin => true
  | _, _ => false
/-- the built-ins' names: functions, types -/
def biFn : Bi → Option (String × Nat)
  | .len => some ("len", 1) | .abs => some ("abs", 1) | .sum => some ("sum", 1) | .all => some ("all", 1) | .any => some ("any", 1)
  | .min => some ("min", 1) | .max => some ("max", 1) | .min2 => some ("min", 2) | .max2 => some ("max", 2)
  | .sorted => some ("sorted", 1)
  | _ => none
def biTy : Bi → Option (String × Nat)
  | .int => some ("int", 1) | .tuple => some ("tuple", 1) | .list => some ("list", 1) | .str => some ("str", 1)
  | _ => none
def bltNames : List Str := ["len", "abs", "sum", "all", "any", "min", "max", "int", "tuple", "list", "str", "bool", "dict", "isinstance", "range", "enumerate", "zip", "sorted", "set", "reversed"]

/-- an index that is no slice (a name, a constant, an operation ..) -/
def ixOk : Expr → Bool
  | .Slice .. => false
  | .Starred .. => false
  | .Tuple .. => false
  | _ => true

def chkT (n : Nat) (C : Ct) (own : List Nat) (e : Expr) (t : T) : Bool := match n with
  | 0 => false
  | n + 1 => match e, t with
    | .Name x _, .nm i => decide (C.N[i]? = some x) && (match C.sc.lookup x with
        | some .local => true
        | some .cell => true
        | _ => false) && own.contains i
    | .Tuple es _ _, .tup ts => go (chkT n C own) es ts
    | _, _ => false
where go (f : Expr → T → Bool) : List Expr → List T → Bool
  | [], [] => true
  | e :: es, t :: ts => f e t && go f es ts
  | _, _ => false

def relN (names sc : List (Str × NameKind)) : List (Str × NameKind) :=
  names.map fun (n, k) => if (k == .free && sc.lookup n == some .cell) then (n, .cell) else (n, k)

def chks (f : Expr → E → Bool) : List Expr → List E → Bool
  | [], [] => true
  | e :: es, c :: cs => f e c && chks f es cs
  | _, _ => false
def chkO (f : Expr → E → Bool) : Option Expr → Option E → Bool
  | none, none => true
  | some e, some c => f e c
  | _, _ => false

def noSet : Expr → Bool
  | .Set .. => false
  | _ => true
def chkI (f : Expr → E → Bool) (C : Ct) (tg e : Expr) (it : I) : Bool := match it with
  | .rng1 ca => match e with
    | .Call (.Name x _) [a] [] _ => decide (x = "range") && C.glb x && f a ca
    | _ => false
  | .rng2 ca cb => match e with
    | .Call (.Name x _) [a, b] [] _ => decide (x = "range") && C.glb x && f a ca && f b cb
    | _ => false
  | .seq c => f e c && noSet e
  | .enum c => match tg, e with
    | .Tuple _ _ _, .Call (.Name x _) [a] [] _ => decide (x = "enumerate") && C.glb x && chks f [a] [c]
    | _, _ => false
  | .zip ca cb => match tg, e with
    | .Tuple _ _ _, .Call (.Name x _) [a, b] [] _ => decide (x = "zip") && C.glb x && chks f [a, b] [ca, cb]
    | _, _ => false
  | .zip3 ca cb cc => match tg, e with
    | .Tuple _ _ _, .Call (.Name x _) [a, b, c] [] _ => decide (x = "zip") && C.glb x && chks f [a, b, c] [ca, cb, cc]
    | _, _ => false
/-- the methods' names, how many values they take -/
def mtN : Mt → List (String × Nat)
  | .append => [("append", 1)]
  | .pop => [("pop", 0), ("pop", 1)]
  | _ => []
/-- an object that is no call -/
def baseOk : Expr → Bool
  | .Call .. => false
  | _ => true
def chkM (name : Str) (k : Nat) (m : Mt) : Bool := (mtN m).any fun p => decide (name = PySem.Str.ofString p.1) && Nat.beq k p.2

def chkE (n : Nat) (C : Ct) (e : Expr) (c : E) : Bool := match n with
  | 0 => false
  | n + 1 => match e, c with
    | .Constant .none _ _, .non => true
    | .Constant (.bool b) _ _, .bl b' => b == b'
    | .Constant (.int i) _ _, .int j => decide (i = j)
    | .Constant (.str x) _ _, .str l => decide (x = ⟨l.toArray⟩) && okS l
    | .Name x _, .var i => C.vis x i
    | .Name x _, .glo d => C.glb x && C.val x d
    | .BinOp a op b _, .bin o ca cb => opIs op o && chkE n C a ca && chkE n C b cb
    | .UnaryOp .USub a _, .neg ca => chkE n C a ca
    | .UnaryOp .Not a _, .not ca => chkE n C a ca
    | .Compare a [op] [b] _, .cmp o ca cb => cpIs op o && chkE n C a ca && chkE n C b cb
    | .Compare a [op, op'] [b, d] _, .chain o o' ca cb cd => cpIs op o && cpIs op' o' && chkE n C a ca && chkE n C b cb && chkE n C d cd
    | .BoolOp .And [a, b] _, .and ca cb => chkE n C a ca && chkE n C b cb
    | .BoolOp .And (a :: b :: d :: r) p, .and ca cb => chkE n C a ca && chkE n C (.BoolOp .And (b :: d :: r) p) cb
    | .BoolOp .Or [a, b] _, .or ca cb => chkE n C a ca && chkE n C b cb
    | .BoolOp .Or (a :: b :: d :: r) p, .or ca cb => chkE n C a ca && chkE n C (.BoolOp .Or (b :: d :: r) p) cb
    | .IfExp t a b _, .ite ct ca cb => chkE n C t ct && chkE n C a ca && chkE n C b cb
    | .Tuple es _ _, .tup cs => Nat.ble es.length 1000 && chks (chkE n C) es cs
    | .List es _, .lst cs => Nat.ble es.length 1000 && chks (chkE n C) es cs
    | .List es _, .mlst cs => Nat.ble es.length 1000 && chks (chkE n C) es cs
    | .Subscript a (.Slice lo hi none _) _, .slc ca clo chi => chkE n C a ca && chkO (chkE n C) lo clo && chkO (chkE n C) hi chi
    | .Subscript a i _, .idx ca ci => ixOk i && chkE n C a ca && chkE n C i ci
    | .Call (.Name x _) [a, .Name y _] [] _, .isi ca t => decide (x = "isinstance") && C.glb x && decide (y = (PySem.Str.ofString (tyN t))) && C.glb y && bltNames.contains y && (match t with
        | .cls _ => false
        | _ => true) && chkE n C a ca
    | .Call (.Name x _) (e :: es) [] _, .call f cs => C.glb x && (C.dfn x f && !C.hot) && chks (chkE n C) (e :: es) cs
    | .Call (.Name x _) (e :: es) [] _, .bi b cs => (C.glb x && (!C.hot || biHot b)) && (match biFn b with
        | some (m, k) => decide (x = PySem.Str.ofString m) && Nat.beq (e :: es).length k
        | none => match biTy b with
          | some (m, k) => decide (x = PySem.Str.ofString m) && Nat.beq (e :: es).length k
          | none => false) && chks (chkE n C) (e :: es) cs
    | .Call (.Attribute o name ap) es [] cp, .mth m co cs => chkM name es.length m && baseOk o && (ap.endLine == cp.line) && chkE n C o co && chks (chkE n C) es cs
    | .ListComp elt [⟨tg, iter, ifs, 0⟩] scope _, .comp own t it c ce =>
      let own' := own.filterMap fun i => (C.N[i]?).map fun x => (x, i)
      let C' : Ct := C.inner (relN scope.names C.sc)
      (!C.hot || isZip it) && decide (own'.map (·.2) = own) && blkC C.N ⟨.function, C.sc, false, false, []⟩ scope own' && chkI (chkE n C) C tg iter it && chkT 8 { C with sc := scope.names } own tg t && (match ifs, c with
        | [], none => true
        | [i], some ci => chkE n C' i ci
        | _, _ => false) && chkE n C' elt ce
    | .Dict [] [] _, .mdic t => !t
    | .Call (.Attribute o name ap) [e] [] cp, .get co [c] => decide (name = "get") && baseOk o && (ap.endLine == cp.line) && chkE n C o co && chkE n C e c
    | .Call (.Attribute o name ap) [e, f] [] cp, .get co [c, cf] => decide (name = "get") && baseOk o && (ap.endLine == cp.line) && chkE n C o co && chkE n C e c && chkE n C f cf
    | .Call (.Name x _) [.Lambda ⟨[], [], none, [], [], none, []⟩ body scope _] [] _, .word d0 tb ce => !C.hot && C.glb x && C.wdOk x d0 tb && lamC C.sc scope && chkE n (C.lam scope.names) body ce
    | .Call (.Name x _) [.Name en _, .Name y _] [] _, .isx i tb => decide (x = "isinstance") && C.glb x && C.vis en i && C.glb y && C.isoOk y tb
    | .Call (.Attribute o name ap) [e] [] cp, .join co ce => decide (name = "join") && baseOk o && (ap.endLine == cp.line) && chkE n C o co && chkE n C e ce
    | .Call (.Name x _) (e :: es) [] _, .callv i fl cs => C.vis x i && !C.hot && (fl.all fun f => C.F.any fun p => C.dfn p.1 f) && chks (chkE n C) (e :: es) cs
    | .Call (.Attribute o name ap) [e] [] cp, .spl co ce => decide (name = "split") && baseOk o && (ap.endLine == cp.line) && chkE n C o co && chkE n C e ce
    | .Call (.Attribute o name ap) [e] [] cp, .sidx co ce => decide (name = "index") && baseOk o && (ap.endLine == cp.line) && chkE n C o co && chkE n C e ce
    | .Subscript a (.Slice none none (some (.UnaryOp .USub (.Constant (.int 1) _ _) _)) _) _, .rev ca => chkE n C a ca
    | .Call (.Name x _) [.Call (.Name y _) [a, b] [] _] [] _, .lrng ca cb => decide (x = "list") && decide (y = "range") && C.glb x && C.glb y && !C.hot && chkE n C a ca && chkE n C b cb
    | .Call (.Name x _) [] [] _, .call f [] => C.glb x && (C.dfn x f && !C.hot)
    | .Call (.Name x _) [.Call (.Name y _) [a, b] [] _] [] _, .lzip ca cb => decide (x = "list") && decide (y = "zip") && C.glb x && C.glb y && !C.hot && chkE n C a ca && chkE n C b cb
    | .ListComp elt [⟨tg, iter, ifs, 0⟩] scope _, .mcomp own t it c ce =>
      let own' := own.filterMap fun i => (C.N[i]?).map fun x => (x, i)
      let C' : Ct := C.inner (relN scope.names C.sc)
      (!C.hot || isZip it) && decide (own'.map (·.2) = own) && blkC C.N ⟨.function, C.sc, false, false, []⟩ scope own' && chkI (chkE n C) C tg iter it && chkT 8 { C with sc := scope.names } own tg t && (match ifs, c with
        | [], none => true
        | [i], some ci => chkE n C' i ci
        | _, _ => false) && chkE n C' elt ce
    | _, _ => false
end EW

/-! EW, part 6: what the interpreter says of an expression is what the expression does. -/
namespace EW
open PySem PySem.Spec PyProof.Rows L2

/-- a def's promise: it does what Φ says of it -/
def spF (W : Wd) (Φ : Ph) (i np : Nat) : Sp := fun vs H Q E => vs.length = np ∧ ∃ ds S μ ν, HR W μ ν S H ∧ Rps W μ ν H vs ds ∧ Fin W μ ν H (RelD W ν) (Φ i ds S) Q E

structure FnIn (W : Wd) (Φ : Ph) (P : Program) (w : World) (K : PySem.W.Frag) (mg : Str → Option Value) (base : Heap) (k : Nat) (x : Str) (i : Nat) : Prop where
  at_ : mg x = some (.ref (W.fa i))
  kp : PySem.W.keepIn K (.ref (W.fa i)) = true
  fn : ∃ fd ps, FnOk P w K mg base (L2N.CX P w) k (W.fa i) fd ps (spF W Φ i ps.length) ∧ Binds K fd ps [] ∧ ∀ ds S, Φ i ds S ≠ .bad → ds.length = ps.length

/-- the same def's context, in a block of it -/
structure Like (X X' : Cx) : Prop where
  prog : X'.prog = X.prog
  w : X'.w = X.w
  K : X'.K = X.K
  mg : X'.mg = X.mg
  base : X'.base = X.base
  A : X'.A = X.A
  stack : X'.stack = X.stack
  N : X'.N = X.N
  code : X'.env.code = X.env.code
  qual : X'.env.qual = X.env.qual
theorem Like.refl (X : Cx) : Like X X := ⟨rfl, rfl, rfl, rfl, rfl, rfl, rfl, rfl, rfl, rfl⟩
/-- what a context must say -/
structure Gd (W : Wd) (Φ : Ph) (C : Ct) (k : Nat) (Wx : WX) (X : Cx) : Prop where
  hK : W.K = X.K
  N : X.N = C.N
  nd : X.N.Nodup
  kind : X.env.scope.kind = .function
  sc : X.env.scope.names = C.sc
  calm : C.hot = false → X.calm = true
  hx : C.hot = true → ∃ x1, HX X x1
  room : C.hot = false → Room k X.A
  hu : X.A.units + 64 < cLine
  tk : L2N.Takes X Wx
  fns : ∀ x i, C.dfn x i = true → FnIn W Φ X.prog X.w X.K X.mg X.base k x i
  val : ∀ x d, C.val x d = true → ∃ u v, X.mg x = some u ∧ RelV v u ∧ ∀ μ ν H, Rp W μ ν H v d
  bl : ∀ x ∈ bltNames, X.mg x = none
  wrd : ∀ X' : Cx, Like X X' → ∀ x d0 tb, C.wdOk x d0 tb = true → ∀ (n : Nat) (body : Expr) (scope : Scope) (p lpos pos : Pos) (ce : E) (sc : List (Str × NameKind)) (Wx' : WX), X'.env.scope.names = sc → Gl X' x → (x == ("__debug__" : Str)) = false → lamC sc scope = true → chkE n (C.lam scope.names) body ce = true →
    PE X' (.Call (.Name x p) [.Lambda ⟨[], [], none, [], [], none, []⟩ body scope lpos] [] pos) (tR W Wx' fun ρ S => wordR d0 tb (Φ.l ce ρ S))
  iso : ∀ y tb, C.isoOk y tb = true → ∃ (v : V) (cv : Value), (X.mg y = some cv ∨ (X.mg y = none ∧ bootBuiltins y = some cv)) ∧ RelV v cv ∧ (∀ u, RelV v u → u = cv) ∧
    ∀ a c b, W.xa = some (a, c) → tb.lookup c = some b → PySem.W.kitOne X.K (.ref (W.ca c)) cv = some b ∧ CallR X (.builtin "isinstance") (rIsE X.K (W.ca c) a)

section
variable {W : Wd} {Φ : Ph} {C : Ct} {k : Nat} {Wx : WX} {X : Cx}
theorem Gd.cm (g : Gd W Φ C k Wx X) : X.calm = true ∨ ∃ x1, HX X x1 := by
  cases h : C.hot with
  | true => exact .inr (g.hx h)
  | false => exact .inl (g.calm h)
theorem Gd.vis (g : Gd W Φ C k Wx X) {x : Str} {i : Nat} (h : C.vis x i = true) : X.N[i]? = some x ∧ Vis X.env.scope x ∧ (x == ("__debug__" : Str)) = false ∧ (x == ("__classdict__" : Str)) = false := by
  unfold Ct.vis at h
  simp only [Bool.and_eq_true, decide_eq_true_eq, Bool.not_eq_true'] at h
  obtain ⟨⟨⟨h1, h2⟩, h3⟩, h4⟩ := h
  refine ⟨by rw [g.N]; exact h1, ?_, h3, h4⟩
  unfold Vis
  rw [g.sc]
  split at h2 <;> first | (rename_i q; rw [q]; simp; done) | cases h2
theorem Gd.glb (g : Gd W Φ C k Wx X) {x : Str} (h : C.glb x = true) : Gl X x ∧ (x == ("__debug__" : Str)) = false ∧ x ≠ "__name__" := by
  unfold Ct.glb at h
  simp only [Bool.and_eq_true, Bool.not_eq_true'] at h
  obtain ⟨⟨h1, h2⟩, h3⟩ := h
  refine ⟨?_, h2, by simpa using h3⟩
  unfold Gl Env.kindOf
  rw [g.sc]
  split at h1
  · rename_i q; exact q
  · cases h1

/-! ### lists of expressions -/
def isStar : Expr → Bool
  | .Starred .. => true
  | _ => false
theorem star_cons {e : Expr} {es : List Expr} {env : PySem.Env} (h : isStar e = false) : starEach (e :: es) env = (false, eval e env) :: starEach es env := by
  cases e <;> first | rfl | cases h
theorem chk_star {n : Nat} {C : Ct} {e : Expr} {c : E} (h : chkE n C e c = true) : isStar e = false := by
  cases n with
  | zero => cases h
  | succ n => cases e <;> first | rfl | (unfold chkE at h; simp at h)
theorem star_any {f : Expr → E → Bool} (hf : ∀ e c, f e c = true → isStar e = false) {pos : Pos} {env : PySem.Env} : ∀ {es : List Expr} {cs : List E}, chks f es cs = true → (backTo pos (starEach es env)).any (·.1) = false
  | [], _, _ => rfl
  | e :: es, [], h => by simp [chks] at h
  | e :: es, c :: cs, h => by
    simp only [chks, Bool.and_eq_true] at h
    rw [star_cons (hf e c h.1)]
    show (false || (backTo pos (starEach es env)).any (·.1)) = false
    rw [star_any hf h.2]; rfl

theorem Fin.bad {α β : Type} {W : Wd} {μ ν : List Addr} {H : Hp} {Rel : List Addr → Hp → β → α → Prop} {Q : β → Hp → Prop} {E : XK} (h : Fin W μ ν H Rel (.bad : R α) Q E) : False := h
theorem Fin.ok {α β : Type} {W : Wd} {μ ν : List Addr} {S : Hs} {H : Hp} {Rel : List Addr → Hp → β → α → Prop} {Q : β → Hp → Prop} {E : XK} {a : α} {b : β} (h : Fin W μ ν H Rel (.ok a S) Q E) (hr : HR W μ ν S H) (r : Rel μ H b a) : Q b H := h b μ H .refl hr r
theorem Fin.of {W : Wd} {μ ν : List Addr} {S : Hs} {H : Hp} {o : Option D} {Q : VK} {E : XK} (h : Fin W μ ν H (RelD W ν) (R.of S o) Q E) : ∃ d, o = some d ∧ Aft W μ ν S H d Q := by
  cases o with
  | none => exact h.elim
  | some d => exact ⟨d, rfl, h⟩
theorem Fin.ofB {W : Wd} {μ ν : List Addr} {S : Hs} {H : Hp} {o : Option Bool} {Q : VK} {E : XK} (h : Fin W μ ν H (RelD W ν) (R.of S (o.map .bl)) Q E) (hr : HR W μ ν S H) : ∃ b, o = some b ∧ Q (.bl b) H := by
  cases o with
  | none => exact h.elim
  | some b => exact ⟨b, rfl, h.ok hr (.bl b)⟩

/-- two expressions, then an operation -/
theorem two {ra rb : Env → Hs → R D} {f : D → D → Hs → R D} {r : R2} (i : ∀ x y H Q E S μ ν dx dy, HR W μ ν S H → Rp W μ ν H x dx → Rp W μ ν H y dy → Fin W μ ν H (RelD W ν) (f dx dy S) Q E → r x y H Q) :
    ∀ σ H Q, tR W Wx (fun ρ S => (ra ρ S).bind fun x S => (rb ρ S).bind fun y S => f x y S) σ H Q → tOp r (tR W Wx ra) (tR W Wx rb) σ H Q := fun σ H Q h => by
  have h1 := tG_bind (Rel := RelD W) h
  obtain ⟨ρ, S, μ, ν, hr, en, h2⟩ := h1
  refine ⟨ρ, S, μ, ν, hr, en, h2.imp fun x H1 ⟨ρ1, dx, S1, μ1, ν1, hr1, en1, rx, h3⟩ => ?_⟩
  exact ⟨ρ1, S1, μ1, ν1, hr1, en1, (Fin.bind (Rel := RelD W ν1) h3).imp fun y H2 ⟨dy, S2, μ2, m2, hr2, ry, h4⟩ => i x y H2 Q _ S2 μ2 ν1 dx dy hr2 (rx.mo m2) ry h4⟩

/-! ### one construct after another -/
theorem pe_no {e : Expr} : PE X e (fun _ _ _ => False) := ⟨fun _ _ _ _ _ _ q => q.elim⟩
theorem pt_no {e : Expr} : PT X e (fun _ _ _ => False) := ⟨fun _ _ _ _ _ _ q => q.elim⟩
theorem pe_zero {e : Expr} {c : E} : PE X e (tR W Wx (ev Φ 0 c)) := PE.imp pe_no fun σ H Q ⟨ρ, S, μ, ν, hr, en, h⟩ => h
theorem pt_zero {e : Expr} {c : E} : PT X e (tRb W Wx (evT (ev Φ 0) c)) := PT.imp pt_no fun σ H Q ⟨ρ, S, μ, ν, hr, en, h⟩ => h

theorem opR_of (hK : W.K = X.K) {op : Operator} {o : Op} (h : opIs op o = true) : OpR X (binaryOp op) (rD W (binD o)) := by
  cases op <;> cases o <;> first | (cases h; done) | skip
  · exact op_addD hK
  · exact op_subD
  · exact op_mulD hK
  · exact op_modD
  · exact op_powD
  · exact op_shlD
  · exact op_shrD
  · exact op_fdivD
theorem cpR_of (hK : W.K = X.K) (hu : X.A.units + 64 < cLine) {op : CmpOp} {o : Cp} (h : cpIs op o = true) : OpR X (compareOp op) (rC W (cmpD o)) := by
  cases op <;> cases o <;> first | (cases h; done) | skip
  · exact op_eqC hK hu
  · exact op_neC hK hu
  · exact op_ltC
  · exact op_leC
  · exact op_gtC
  · exact op_geC
  · exact op_isC
  · exact op_isntC
  · exact op_inC hK hu
  · exact op_ninC hK hu
theorem chk_noset {n : Nat} {C : Ct} {e : Expr} {c : E} (h : chkE n C e c = true) : noSet e = true := by
  cases n with
  | zero => cases h
  | succ n => cases e <;> first | rfl | (unfold chkE at h; simp at h)
theorem cp_mark {op : CmpOp} {b : Expr} (hb : noSet b = true) : behindInMarks op b = false := by
  cases b <;> first | rfl | cases hb
theorem cp_last {op op' : CmpOp} {b c : Expr} (hc : noSet c = true) : lastMarks [op, op'] [b, c] = false := cp_mark hc

theorem two_bin {ra rb : Env → Hs → R D} {f : D → D → Hs → Option D} : ∀ σ H Q, tR W Wx (fun ρ S => (ra ρ S).bind fun x S => (rb ρ S).bind fun y S => .of S (f x y S)) σ H Q → tOp (rD W f) (tR W Wx ra) (tR W Wx rb) σ H Q :=
  two fun x y H Q E S μ ν dx dy hr rx ry h => let ⟨d, e, q⟩ := h.of; ⟨S, μ, ν, dx, dy, d, hr, rx, ry, e, q⟩
theorem two_cmp {ra rb : Env → Hs → R D} {f : D → D → Hs → Option Bool} : ∀ σ H Q, tR W Wx (fun ρ S => (ra ρ S).bind fun x S => (rb ρ S).bind fun y S => .of S ((f x y S).map .bl)) σ H Q → tOp (rC W f) (tR W Wx ra) (tR W Wx rb) σ H Q :=
  two fun x y H Q E S μ ν dx dy hr rx ry h => let ⟨b, e, q⟩ := h.ofB hr; ⟨S, μ, ν, dx, dy, b, hr, rx, ry, e, q⟩

/-- a value's truth behind it -/
theorem tru_bind (hK : W.K = X.K) {ra : Env → Hs → R D} {β γ : Type} {Rel : List Addr → List Addr → Hp → β → γ → Prop} {f : Env → D → Bool → Hs → R γ} {σ : L2.St} {H : Hp} {Q : β → Hp → Prop}
    (h : tG W Wx Rel (fun ρ S => (ra ρ S).bind fun x S => match tru x S with | some b => f ρ x b S | none => .bad) σ H Q) :
    tR W Wx ra σ H fun x H1 => ∃ b, TruV X.K x H1 b ∧ ∃ ρ d S μ ν, HR W μ ν S H1 ∧ En W μ ν H1 σ ρ ∧ Rp W μ ν H1 x d ∧ Fin W μ ν H1 (Rel ν) (f ρ d b S) Q (WE Wx σ) := by
  obtain ⟨ρ, S, μ, ν, hr, en, h2⟩ := tG_bind (Rel := RelD W) h
  refine ⟨ρ, S, μ, ν, hr, en, h2.imp fun x H1 ⟨ρ1, dx, S1, μ1, ν1, hr1, en1, rx, h3⟩ => ?_⟩
  simp only at h3
  split at h3
  · rename_i b e
    exact ⟨b, tru_of hK hr1 rx e, ρ1, dx, S1, μ1, ν1, hr1, en1, rx, h3⟩
  · exact h3.elim

/-- a test by its value's truth -/
theorem pt_gen (hK : W.K = X.K) {e : Expr} {r : Env → Hs → R D} (he : PE X e (tR W Wx r)) (hp : ∀ whole, isTrue e X.env whole = (do let v ← whole; standAt e.pos; holding [v] (truthy v))) :
    PT X e (tRb W Wx fun ρ S => (r ρ S).bind fun d S => .of S (tru d S)) := PT.imp (pt_truth he hp) fun σ H Q h => by
  have h' : tG W Wx (fun _ => RelB) (fun ρ S => (r ρ S).bind fun x S => match tru x S with | some b => R.ok b S | none => .bad) σ H Q := by
    have e : (fun ρ S => (r ρ S).bind fun x S => match tru x S with | some b => R.ok b S | none => .bad) = (fun (ρ : Env) (S : Hs) => (r ρ S).bind fun d S => R.of S (tru d S)) := by
      funext ρ S
      congr 1
      funext x S'
      cases tru x S' <;> rfl
    rw [e]; exact h
  obtain ⟨ρ, S, μ, ν, hr, en, h2⟩ := tru_bind hK h'
  exact ⟨ρ, S, μ, ν, hr, en, h2.imp fun x H1 ⟨b, tv, ρ1, dx, S1, μ1, ν1, hr1, en1, rx, h3⟩ => ⟨b, tv, h3.ok hr1 rfl⟩⟩

def plainT : Expr → Bool
  | .UnaryOp .Not _ _ => false
  | .BoolOp .. => false
  | .IfExp .. => false
  | .Compare .. => false
  | _ => true
theorem isTrue_gen {e : Expr} {env : PySem.Env} (h : plainT e = true) : ∀ whole, isTrue e env whole = (do let v ← whole; standAt e.pos; holding [v] (truthy v)) := by
  intro whole
  cases e <;> first | rfl | (cases h; done) | skip
  rename_i op a p
  cases op <;> first | rfl | cases h

/-! ### args -/
theorem rps_cons {es : List Expr} {e : Expr} {r : Env → Hs → R D} {rs : Env → Hs → R (List D)} (h1 : PE X e (tR W Wx r)) (h2 : PA X es (tRs W Wx rs)) (hs : isStar e = false) :
    PA X (e :: es) (tRs W Wx fun ρ S => (r ρ S).bind fun d S => (rs ρ S).bind fun ds S => .ok (d :: ds) S) := PA.imp (pa_cons h1 h2 (star_cons hs)) fun σ H Q h => by
  obtain ⟨ρ, S, μ, ν, hr, en, h2⟩ := tG_bind (Rel := RelD W) h
  refine ⟨ρ, S, μ, ν, hr, en, h2.imp fun x H1 ⟨ρ1, dx, S1, μ1, ν1, hr1, en1, rx, h3⟩ => ?_⟩
  exact ⟨ρ1, S1, μ1, ν1, hr1, en1, (Fin.bind (Rel := RelDs W ν1) h3).imp fun xs H2 ⟨ds, S2, μ2, m2, hr2, rxs, h4⟩ => h4.ok hr2 (.cons (rx.mo m2) rxs)⟩
theorem rps_nil : PA X [] (tRs W Wx fun _ S => .ok [] S) := PA.imp pa_nil fun σ H Q ⟨ρ, S, μ, ν, hr, en, h⟩ => h.ok hr .nil
theorem pa_of {n m : Nat} (ih : ∀ e c, chkE n C e c = true → PE X e (tR W Wx (ev Φ m c))) : ∀ (es : List Expr) (cs : List E), chks (chkE n C) es cs = true → PA X es (tRs W Wx (evs (ev Φ m) cs))
  | [], [], _ => rps_nil
  | [], _ :: _, h => by simp [chks] at h
  | _ :: _, [], h => by simp [chks] at h
  | e :: es, c :: cs, h => by
    simp only [chks, Bool.and_eq_true] at h
    exact rps_cons (ih e c h.1) (pa_of ih es cs h.2) (chk_star h.1)
theorem pa_gen {f : Expr → E → Bool} {m : Nat} (ih : ∀ e c, f e c = true → PE X e (tR W Wx (ev Φ m c))) (st : ∀ e c, f e c = true → isStar e = false) : ∀ (es : List Expr) (cs : List E), chks f es cs = true → PA X es (tRs W Wx (evs (ev Φ m) cs))
  | [], [], _ => rps_nil
  | [], _ :: _, h => by simp [chks] at h
  | _ :: _, [], h => by simp [chks] at h
  | e :: es, c :: cs, h => by
    simp only [chks, Bool.and_eq_true] at h
    exact rps_cons (ih e c h.1) (pa_gen ih st es cs h.2) (st e c h.1)
theorem chks_len {f : Expr → E → Bool} : ∀ {es : List Expr} {cs : List E}, chks f es cs = true → es.length = cs.length
  | [], [], _ => rfl
  | [], _ :: _, h => by simp [chks] at h
  | _ :: _, [], h => by simp [chks] at h
  | e :: es, c :: cs, h => by
    simp only [chks, Bool.and_eq_true] at h
    rw [List.length_cons, List.length_cons, chks_len h.2]
theorem evs_len {rec : E → Env → Hs → R D} : ∀ {cs : List E} {ρ : Env} {S S' : Hs} {ds : List D}, evs rec cs ρ S = .ok ds S' → ds.length = cs.length
  | [], _, _, _, _, h => by simp only [evs, R.ok.injEq] at h; rw [← h.1]; rfl
  | c :: cs, ρ, S, S', ds, h => by
    simp only [evs] at h
    cases h1 : rec c ρ S with
    | bad => rw [h1] at h; cases h
    | exc _ _ => rw [h1] at h; cases h
    | ok d S1 =>
      rw [h1] at h
      simp only [R.bind] at h
      cases h2 : evs rec cs ρ S1 with
      | bad => rw [h2] at h; cases h
      | exc _ _ => rw [h2] at h; cases h
      | ok ds1 S2 =>
        rw [h2] at h
        simp only [R.bind, R.ok.injEq] at h
        rw [← h.1, List.length_cons, evs_len h2]; rfl

/-! ### and, or, not, if -/
theorem se_and (hK : W.K = X.K) {a b : Expr} {rest : List Expr} {pos : Pos} {ra rb : Env → Hs → R D} (ha : PE X a (tR W Wx ra)) (hb : PE X (.BoolOp .And (b :: rest) pos) (tR W Wx rb)) :
    PE X (.BoolOp .And (a :: b :: rest) pos) (tR W Wx fun ρ S => (ra ρ S).bind fun x S => match tru x S with | some true => rb ρ S | some false => .ok x S | none => .bad) := PE.imp (pe_andT ha hb) fun σ H Q h => by
  have h' : tR W Wx (fun ρ S => (ra ρ S).bind fun x S => match tru x S with | some b => (if b then rb ρ S else R.ok x S) | none => .bad) σ H Q := by
    have e : (fun (ρ : Env) (S : Hs) => (ra ρ S).bind fun x S => match tru x S with | some b => (if b then rb ρ S else R.ok x S) | none => .bad) = (fun (ρ : Env) (S : Hs) => (ra ρ S).bind fun x S => match tru x S with | some true => rb ρ S | some false => R.ok x S | none => .bad) := by
      funext ρ S
      congr 1
      funext x S'
      cases tru x S' with
      | none => rfl
      | some b => cases b <;> rfl
    rw [tR, e]; exact h
  obtain ⟨ρ, S, μ, ν, hr, en, h2⟩ := tru_bind hK h'
  refine ⟨ρ, S, μ, ν, hr, en, h2.imp fun x H1 ⟨b, tv, ρ1, dx, S1, μ1, ν1, hr1, en1, rx, h3⟩ => ⟨b, tv, ?_⟩⟩
  cases b with
  | true => rw [if_pos rfl]; exact ⟨ρ1, S1, μ1, ν1, hr1, en1, h3⟩
  | false => rw [if_neg Bool.false_ne_true]; exact Fin.ok (W := W) (Rel := RelD W ν1) h3 hr1 rx
theorem se_or (hK : W.K = X.K) {a b : Expr} {rest : List Expr} {pos : Pos} {ra rb : Env → Hs → R D} (ha : PE X a (tR W Wx ra)) (hb : PE X (.BoolOp .Or (b :: rest) pos) (tR W Wx rb)) :
    PE X (.BoolOp .Or (a :: b :: rest) pos) (tR W Wx fun ρ S => (ra ρ S).bind fun x S => match tru x S with | some true => .ok x S | some false => rb ρ S | none => .bad) := PE.imp (pe_orT ha hb) fun σ H Q h => by
  have h' : tR W Wx (fun ρ S => (ra ρ S).bind fun x S => match tru x S with | some b => (if b then R.ok x S else rb ρ S) | none => .bad) σ H Q := by
    have e : (fun (ρ : Env) (S : Hs) => (ra ρ S).bind fun x S => match tru x S with | some b => (if b then R.ok x S else rb ρ S) | none => .bad) = (fun (ρ : Env) (S : Hs) => (ra ρ S).bind fun x S => match tru x S with | some true => R.ok x S | some false => rb ρ S | none => .bad) := by
      funext ρ S
      congr 1
      funext x S'
      cases tru x S' with
      | none => rfl
      | some b => cases b <;> rfl
    rw [tR, e]; exact h
  obtain ⟨ρ, S, μ, ν, hr, en, h2⟩ := tru_bind hK h'
  refine ⟨ρ, S, μ, ν, hr, en, h2.imp fun x H1 ⟨b, tv, ρ1, dx, S1, μ1, ν1, hr1, en1, rx, h3⟩ => ⟨b, tv, ?_⟩⟩
  cases b with
  | true => rw [if_pos rfl]; exact Fin.ok (W := W) (Rel := RelD W ν1) h3 hr1 rx
  | false => rw [if_neg Bool.false_ne_true]; exact ⟨ρ1, S1, μ1, ν1, hr1, en1, h3⟩
theorem rTru (r : R D) : (r.bind fun d S => R.of S (tru d S)) = r.bind fun x S => match tru x S with | some b => R.ok b S | none => .bad := by
  congr 1
  funext x S'
  cases tru x S' <;> rfl
theorem se_not (hK : W.K = X.K) {a : Expr} {pos : Pos} {ra : Env → Hs → R D} (ha : PE X a (tR W Wx ra)) :
    PE X (.UnaryOp .Not a pos) (tR W Wx fun ρ S => ((ra ρ S).bind fun d S => R.of S (tru d S)).bind fun k S => .ok (.bl (!k)) S) := PE.imp (pe_notT ha) fun σ H Q h => by
  have h' : tR W Wx (fun ρ S => (ra ρ S).bind fun x S => match tru x S with | some b => R.ok (D.bl (!b)) S | none => .bad) σ H Q := by
    have e : (fun (ρ : Env) (S : Hs) => (ra ρ S).bind fun x S => match tru x S with | some b => R.ok (D.bl (!b)) S | none => .bad) = (fun (ρ : Env) (S : Hs) => ((ra ρ S).bind fun d S => R.of S (tru d S)).bind fun k S => R.ok (.bl (!k)) S) := by
      funext ρ S
      cases ra ρ S with
      | ok d S' =>
        show (match tru d S' with | some b => R.ok (D.bl (!b)) S' | none => .bad) = (R.of S' (tru d S')).bind fun k S => R.ok (.bl (!k)) S
        cases tru d S' <;> rfl
      | exc x S' => rfl
      | bad => rfl
    rw [tR, e]; exact h
  obtain ⟨ρ, S, μ, ν, hr, en, h2⟩ := tru_bind hK h'
  exact ⟨ρ, S, μ, ν, hr, en, h2.imp fun x H1 ⟨b, tv, ρ1, dx, S1, μ1, ν1, hr1, en1, rx, h3⟩ => ⟨b, tv, Fin.ok (W := W) (Rel := RelD W ν1) h3 hr1 (.bl _)⟩⟩
theorem se_ite {c a b : Expr} {pos : Pos} {rc : Env → Hs → R Bool} {ra rb : Env → Hs → R D} (hc : PT X c (tRb W Wx rc)) (ha : PE X a (tR W Wx ra)) (hb : PE X b (tR W Wx rb)) :
    PE X (.IfExp c a b pos) (tR W Wx fun ρ S => (rc ρ S).bind fun k S => if k then ra ρ S else rb ρ S) := PE.imp (pe_ifExp hc ha hb) fun σ H Q h => by
  obtain ⟨ρ, S, μ, ν, hr, en, h2⟩ := tG_bind (Rel := fun _ => RelB) h
  refine ⟨ρ, S, μ, ν, hr, en, h2.imp fun x H1 ⟨ρ1, dx, S1, μ1, ν1, hr1, en1, rx, h3⟩ => ?_⟩
  cases rx
  cases x with
  | true => rw [if_pos rfl]; exact ⟨ρ1, S1, μ1, ν1, hr1, en1, h3⟩
  | false => rw [if_neg Bool.false_ne_true]; exact ⟨ρ1, S1, μ1, ν1, hr1, en1, h3⟩
/-- tests -/
theorem st_not {a : Expr} {pos : Pos} {ra : Env → Hs → R Bool} {r' : Env → Hs → R Bool} (ha : PT X a (tRb W Wx ra)) (e : ∀ ρ S, r' ρ S = (ra ρ S).bind fun k S => .ok (!k) S) : PT X (.UnaryOp .Not a pos) (tRb W Wx r') := PT.imp (pt_not ha) fun σ H Q h => by
  have h' : tRb W Wx (fun ρ S => (ra ρ S).bind fun k S => .ok (!k) S) σ H Q := by
    rw [tRb, ← funext fun ρ => funext fun S => e ρ S]; exact h
  obtain ⟨ρ, S, μ, ν, hr, en, h2⟩ := tG_bind (Rel := fun _ => RelB) h'
  refine ⟨ρ, S, μ, ν, hr, en, h2.imp fun x H1 ⟨ρ1, dx, S1, μ1, ν1, hr1, en1, rx, h3⟩ => ?_⟩
  cases rx
  exact Fin.ok (W := W) (Rel := RelB) h3 hr1 rfl
theorem st_if {c a b : Expr} {pos : Pos} {rc ra rb r' : Env → Hs → R Bool} (hc : PT X c (tRb W Wx rc)) (ha : PT X a (tRb W Wx ra)) (hb : PT X b (tRb W Wx rb)) (e : ∀ ρ S, r' ρ S = (rc ρ S).bind fun k S => if k then ra ρ S else rb ρ S) : PT X (.IfExp c a b pos) (tRb W Wx r') := by
  refine ⟨fun pins s σ H Q I h => ?_⟩
  have h' : tRb W Wx (fun ρ S => (rc ρ S).bind fun k S => if k then ra ρ S else rb ρ S) σ H Q := by
    rw [tRb, ← funext fun ρ => funext fun S => e ρ S]; exact h
  show wpAny _ _ (do if ← PySem.isTrue c X.env (eval c X.env) then PySem.isTrue a X.env (eval a X.env) else PySem.isTrue b X.env (eval b X.env)) _ _ _
  refine wpAny_bind (thn (hc.run pins s σ H (fun k H1 => if k = true then tRb W Wx ra σ H1 Q else tRb W Wx rb σ H1 Q) I ?_) fun k s1 ⟨H1, I1, q1⟩ => ?_)
  · obtain ⟨ρ, S, μ, ν, hr, en, h2⟩ := tG_bind (Rel := fun _ => RelB) h'
    refine ⟨ρ, S, μ, ν, hr, en, h2.imp fun x H1 ⟨ρ1, dx, S1, μ1, ν1, hr1, en1, rx, h3⟩ => ?_⟩
    cases rx
    cases x with
    | true => rw [if_pos rfl]; exact ⟨ρ1, S1, μ1, ν1, hr1, en1, h3⟩
    | false => rw [if_neg Bool.false_ne_true]; exact ⟨ρ1, S1, μ1, ν1, hr1, en1, h3⟩
  · cases k with
    | true => rw [if_pos rfl] at q1 ⊢; exact ha.run pins s1 σ H1 Q I1 q1
    | false => rw [if_neg Bool.false_ne_true] at q1 ⊢; exact hb.run pins s1 σ H1 Q I1 q1
theorem st_and {a b : Expr} {rest : List Expr} {pos : Pos} {ra rb r' : Env → Hs → R Bool} (ha : PT X a (tRb W Wx ra)) (hb : PW X (.BoolOp .And (b :: rest) pos) (tRb W Wx rb)) (e : ∀ ρ S, r' ρ S = (ra ρ S).bind fun k S => if k then rb ρ S else .ok false S) :
    PW X (.BoolOp .And (a :: b :: rest) pos) (tRb W Wx r') := by
  have h0 := pw_and ha hb
  refine ⟨fun whole pins s σ H Q I h => h0.run whole pins s σ H Q I ?_⟩
  have h' : tRb W Wx (fun ρ S => (ra ρ S).bind fun k S => if k then rb ρ S else .ok false S) σ H Q := by
    rw [tRb, ← funext fun ρ => funext fun S => e ρ S]; exact h
  obtain ⟨ρ, S, μ, ν, hr, en, h2⟩ := tG_bind (Rel := fun _ => RelB) h'
  refine ⟨ρ, S, μ, ν, hr, en, h2.imp fun x H1 ⟨ρ1, dx, S1, μ1, ν1, hr1, en1, rx, h3⟩ => ?_⟩
  cases rx
  cases x with
  | true => rw [if_pos rfl]; exact ⟨ρ1, S1, μ1, ν1, hr1, en1, h3⟩
  | false => rw [if_neg Bool.false_ne_true]; exact Fin.ok (W := W) (Rel := RelB) h3 hr1 rfl
theorem st_or {a b : Expr} {rest : List Expr} {pos : Pos} {ra rb r' : Env → Hs → R Bool} (ha : PT X a (tRb W Wx ra)) (hb : PW X (.BoolOp .Or (b :: rest) pos) (tRb W Wx rb)) (e : ∀ ρ S, r' ρ S = (ra ρ S).bind fun k S => if k then .ok true S else rb ρ S) :
    PW X (.BoolOp .Or (a :: b :: rest) pos) (tRb W Wx r') := by
  have h0 := pw_or ha hb
  refine ⟨fun whole pins s σ H Q I h => h0.run whole pins s σ H Q I ?_⟩
  have h' : tRb W Wx (fun ρ S => (ra ρ S).bind fun k S => if k then .ok true S else rb ρ S) σ H Q := by
    rw [tRb, ← funext fun ρ => funext fun S => e ρ S]; exact h
  obtain ⟨ρ, S, μ, ν, hr, en, h2⟩ := tG_bind (Rel := fun _ => RelB) h'
  refine ⟨ρ, S, μ, ν, hr, en, h2.imp fun x H1 ⟨ρ1, dx, S1, μ1, ν1, hr1, en1, rx, h3⟩ => ?_⟩
  cases rx
  cases x with
  | true => rw [if_pos rfl]; exact Fin.ok (W := W) (Rel := RelB) h3 hr1 rfl
  | false => rw [if_neg Bool.false_ne_true]; exact ⟨ρ1, S1, μ1, ν1, hr1, en1, h3⟩
end
end EW

/-! EW, part 7: calls, displays, subscripts, comprehensions. -/
namespace EW
open PySem PySem.Spec PyProof.Rows L2
section
variable {W : Wd} {Φ : Ph} {C : Ct} {k : Nat} {Wx : WX} {X : Cx}

theorem se_call (g : Gd W Φ C k Wx X) {x : Str} {i : Nat} {e : Expr} {es : List Expr} {p pos : Pos} {rs : Env → Hs → R (List D)} (hx : C.glb x = true) (hf : (C.dfn x i && !C.hot) = true) (ha : PA X (e :: es) (tRs W Wx rs))
    (hs : isStar e = false) (hpl : (backTo pos (starEach es X.env)).any (·.1) = false) :
    PE X (.Call (.Name x p) (e :: es) [] pos) (tR W Wx fun ρ S => (rs ρ S).bind fun ds S => Φ i ds S) := by
  obtain ⟨hg, hd, _⟩ := g.glb hx
  rw [Bool.and_eq_true, Bool.not_eq_true'] at hf
  obtain ⟨at_, kp, fd, ps, F, hb, hl⟩ := g.fns x i hf.1
  refine PE.imp (pe_callS (E := WE Wx) F (g.room hf.2) hg at_ kp hb (fun σ => L2N.passAt g.tk σ) ha hd (star_cons hs) hpl) fun σ H Q h => ?_
  obtain ⟨ρ, S, μ, ν, hr, en, h2⟩ := tG_bind (Rel := RelDs W) h
  refine ⟨ρ, S, μ, ν, hr, en, h2.imp fun vs H1 ⟨ρ1, ds, S1, μ1, ν1, hr1, en1, rx, h3⟩ => ⟨?_, ds, S1, μ1, ν1, hr1, rx, h3⟩⟩
  rw [rx.length]
  refine hl ds S1 fun z => ?_
  have h3 : Fin W μ1 ν1 H1 (RelD W ν1) (Φ i ds S1) Q (WE Wx σ) := h3
  rw [z] at h3
  exact h3

theorem numL_ok (n : Nat) : ∀ c ∈ TL.numL n, c < 1114112 := fun c hc => by
  unfold TL.numL at hc
  obtain ⟨ch, _, rfl⟩ := List.mem_map.mp hc
  have := ch.valid
  unfold Char.toNat
  have h := ch.toNat_val
  have : ch.val.toNat < 1114112 := by
    rcases this with z | ⟨_, z⟩
    · exact Nat.lt_trans z (by decide)
    · exact z
  exact this
theorem numL_len {i : Int} (h0 : 0 ≤ i) (h : i.natAbs < 10000000000) : (TL.numL i.natAbs).length ≤ lim := by
  have := PySem.W.KXf.digits_le h0 (by omega : i < 10 ^ 10)
  unfold TL.numL
  rw [List.length_map]
  exact Nat.le_trans this (by decide)
theorem bi_str {X : Cx} {W : Wd} : CallR X (.type "str") (rBi W .str) := by
  refine CallR.imp (CallR.or call_str_int SkE.call_str_str) fun xs H Q hq => ?_
  obtain ⟨S, μ, ν, ds, d, h, rs, e, q⟩ := hq
  unfold biD at e
  simp only at e
  split at e <;> try (cases e; done)
  · obtain ⟨x, rfl, rx⟩ := rps1 rs
    split at e
    case isFalse => cases e
    rename_i i hd
    cases e
    rw [Bool.and_eq_true, decide_eq_true_eq, Nat.blt_eq] at hd
    cases rx
    have hz : i.natAbs.log2 < 1920 := by
      rcases Nat.eq_zero_or_pos i.natAbs with z | z
      · rw [z]; decide
      · have : i.natAbs.log2 < 40 := (Nat.log2_lt (by omega)).2 (by omega)
        omega
    refine .inl ⟨_, rfl, hz, ?_⟩
    have e1 : ((i.natAbs : Nat) : Int) = i := by omega
    have e2 : (Str.ofString (toString i) : Str) = SX.S (TL.numL i.natAbs) := by rw [← SX.num_S, e1]
    have q' := q (.str (SX.S (TL.numL i.natAbs))) μ H .refl h (.str _ (numL_len hd.1 hd.2) (numL_ok _))
    rw [← e2] at q'
    exact q'
  · obtain ⟨x, rfl, rx⟩ := rps1 rs
    cases e
    cases rx with
    | str _ h1 h2 => exact .inr ⟨_, rfl, q.val h (.str _ h1 h2)⟩
theorem fnR_of (g : Gd W Φ C k Wx X) {b : Bi} {m : String} {j : Nat} (hh : (!C.hot || biHot b) = true) (h : biFn b = some (m, j)) : CallR X (.builtin m) (rBi W b) ∧ bootBuiltins (PySem.Str.ofString m) = some (.builtin m) ∧ PySem.Str.ofString m ∈ bltNames := by
  cases b <;> first | (cases h; done) | (cases h; refine ⟨?_, by decide +kernel, by decide +kernel⟩)
  · exact bi_len g.hK
  · exact bi_abs
  · exact bi_sum g.hK (g.calm (by simpa [biHot] using hh))
  · exact bi_all (g.calm (by simpa [biHot] using hh))
  · exact bi_any (g.calm (by simpa [biHot] using hh))
  · exact bi_min g.hK (g.calm (by simpa [biHot] using hh)) g.hu
  · exact bi_max g.hK (g.calm (by simpa [biHot] using hh)) g.hu
  · exact bi_min2 (g.calm (by simpa [biHot] using hh))
  · exact bi_max2 (g.calm (by simpa [biHot] using hh))
  · exact bi_sorted g.hK (g.calm (by simpa [biHot] using hh))
theorem tyR_of (g : Gd W Φ C k Wx X) {b : Bi} {m : String} {j : Nat} (hh : (!C.hot || biHot b) = true) (h : biTy b = some (m, j)) : CallR X (.type m) (rBi W b) ∧ bootBuiltins (PySem.Str.ofString m) = some (.type m) ∧ PySem.Str.ofString m ∈ bltNames := by
  cases b <;> first | (cases h; done) | (cases h; refine ⟨?_, by decide +kernel, by decide +kernel⟩)
  · exact bi_int
  · exact bi_str
  · exact bi_tuple g.hK
  · exact bi_list g.hK (g.calm (by simpa [biHot] using hh))
theorem bi_args {b : Bi} {rs : Env → Hs → R (List D)} : ∀ σ H Q, tR W Wx (fun ρ S => (rs ρ S).bind fun ds S => .of S (biD b ds S)) σ H Q → tCB (rBi W b) (tRs W Wx rs) σ H Q := fun σ H Q h => by
  obtain ⟨ρ, S, μ, ν, hr, en, h2⟩ := tG_bind (Rel := RelDs W) h
  refine ⟨ρ, S, μ, ν, hr, en, h2.imp fun vs H1 ⟨ρ1, ds, S1, μ1, ν1, hr1, en1, rx, h3⟩ => ?_⟩
  obtain ⟨d, e, q⟩ := Fin.of h3
  exact ⟨S1, μ1, ν1, ds, d, hr1, rx, e, q⟩
theorem se_fn (g : Gd W Φ C k Wx X) {x : Str} {b : Bi} {m : String} {j : Nat} {e : Expr} {es : List Expr} {p pos : Pos} {rs : Env → Hs → R (List D)} (hx : (C.glb x && (!C.hot || biHot b)) = true) (hb : biFn b = some (m, j)) (hm : x = PySem.Str.ofString m) (ha : PA X (e :: es) (tRs W Wx rs))
    (hs : isStar e = false) (hpl : (backTo pos (starEach es X.env)).any (·.1) = false) :
    PE X (.Call (.Name x p) (e :: es) [] pos) (tR W Wx fun ρ S => (rs ρ S).bind fun ds S => .of S (biD b ds S)) := by
  rw [Bool.and_eq_true] at hx
  obtain ⟨hg, hd, hn⟩ := g.glb hx.1
  obtain ⟨c, hv, hm'⟩ := fnR_of g hx.2 hb
  subst hm
  exact PE.imp (pe_callB c hg (g.bl _ hm') hv ha hn hd (star_cons hs) hpl) bi_args
theorem se_ty (g : Gd W Φ C k Wx X) {x : Str} {b : Bi} {m : String} {j : Nat} {e : Expr} {es : List Expr} {p pos : Pos} {rs : Env → Hs → R (List D)} (hx : (C.glb x && (!C.hot || biHot b)) = true) (hb : biTy b = some (m, j)) (hm : x = PySem.Str.ofString m) (ha : PA X (e :: es) (tRs W Wx rs))
    (hs : isStar e = false) (hpl : (backTo pos (starEach es X.env)).any (·.1) = false) :
    PE X (.Call (.Name x p) (e :: es) [] pos) (tR W Wx fun ρ S => (rs ρ S).bind fun ds S => .of S (biD b ds S)) := by
  rw [Bool.and_eq_true] at hx
  obtain ⟨hg, hd, hn⟩ := g.glb hx.1
  obtain ⟨c, hv, hm'⟩ := tyR_of g hx.2 hb
  subst hm
  exact PE.imp (pe_callTy c hg (g.bl _ hm') hv ha hn hd (star_cons hs) hpl) bi_args

theorem se_isi (g : Gd W Φ C k Wx X) {x y : Str} {t : Ty} {a : Expr} {p p2 pos : Pos} {r : Env → Hs → R D} (hx : C.glb x = true) (hx2 : x = "isinstance") (hy : C.glb y = true) (hy2 : y = PySem.Str.ofString (tyN t)) (hy3 : y ∈ bltNames) (ht : ∀ n, t ≠ .cls n)
    (ha : PE X a (tR W Wx r)) (hs : isStar a = false) :
    PE X (.Call (.Name x p) [a, .Name y p2] [] pos) (tR W Wx fun ρ S => (r ρ S).bind fun d S => .of S ((isiD d t S).map .bl)) := by
  obtain ⟨hg, hd, hn⟩ := g.glb hx
  obtain ⟨hg2, hd2, hn2⟩ := g.glb hy
  have hty : PE X (.Name y p2) (tC (.ty (tyN t))) := by
    refine pe_bltn (u := .type (tyN t)) hg2 (g.bl y hy3) ?_ rfl hn2 hd2
    subst hy2
    cases t <;> first | decide +kernel | exact (ht _ rfl).elim
  have hi : X.mg x = none := g.bl x (by subst hx2; decide +kernel)
  have hv : bootBuiltins x = some (.builtin "isinstance") := by subst hx2; decide +kernel
  refine PE.imp (pe_callB (bi_isi (W := W) g.hK t) hg hi hv (pa_cons ha (pa_cons hty pa_nil) (star_cons hs)) hn hd (star_cons hs) rfl) fun σ H Q h => ?_
  obtain ⟨ρ, S, μ, ν, hr, en, h2⟩ := tG_bind (Rel := RelD W) h
  refine ⟨ρ, S, μ, ν, hr, en, h2.imp fun v H1 ⟨ρ1, d, S1, μ1, ν1, hr1, en1, rx, h3⟩ => ?_⟩
  obtain ⟨b, e, q⟩ := Fin.ofB h3 hr1
  exact ⟨S1, μ1, ν1, v, d, b, hr1, rfl, rx, e, q⟩

/-- isinstance(error, c) within a suite -/
theorem se_isx (g : Gd W Φ C k Wx X) {x en y : Str} {i : Nat} {tb : List (Nat × Bool)} {p p1 p2 pos : Pos} (hx2 : x = "isinstance") (hx : C.glb x = true) (hv : C.vis en i = true) (hy : C.glb y = true) (hi : C.isoOk y tb = true) :
    PE X (.Call (.Name x p) [.Name en p1, .Name y p2] [] pos) (tR W Wx fun ρ S => match ρ[i]? with
      | some (some (.exn c)) => match tb.lookup c with
        | some b => .ok (.bl b) S
        | none => .bad
      | _ => .bad) := by
  obtain ⟨hg, hd, hn⟩ := g.glb hx
  obtain ⟨hg2, hd2, hn2⟩ := g.glb hy
  obtain ⟨h1, h2, h3, h4⟩ := g.vis hv
  obtain ⟨v, cv, hcv, rv, uq, hk⟩ := g.iso y tb hi
  have hty : PE X (.Name y p2) (tC v) := by
    rcases hcv with hcv | ⟨hcv, hb⟩
    · exact pe_glob hg2 hcv rv hd2
    · exact pe_bltn hg2 hcv hb rv hn2 hd2
  have hm : X.mg x = none := g.bl x (by subst hx2; decide +kernel)
  have hb : bootBuiltins x = some (.builtin "isinstance") := by subst hx2; decide +kernel
  cases hxa : W.xa with
  | none =>
    refine PE.imp pe_no fun σ H Q ⟨ρ, S, μ, ν, hr, en, h⟩ => ?_
    dsimp only at h
    split at h
    · rename_i c q
      obtain ⟨v, e1, rp⟩ := en.get _ _ q
      cases rp with
      | exn h => rw [hxa] at h; cases h
    · exact h.elim
  | some ac =>
    obtain ⟨a, c⟩ := ac
    cases hl : tb.lookup c with
    | none =>
      refine PE.imp pe_no fun σ H Q ⟨ρ, S, μ, ν, hr, en, h⟩ => ?_
      dsimp only at h
      split at h
      · rename_i c' q
        obtain ⟨v, e1, rp⟩ := en.get _ _ q
        cases rp with
        | exn h' =>
          rw [hxa] at h'; cases h'
          rw [hl] at h; exact h.elim
      · exact h.elim
    | some b =>
      obtain ⟨k1, k2⟩ := hk a c b hxa hl
      refine PE.imp (pe_callB k2 hg hm hb (pa_cons (pe_var h1 h2 h3 h4) (pa_cons hty pa_nil)) hn hd) fun σ H Q ⟨ρ, S, μ, ν, hr, en, h⟩ => ?_
      dsimp only at h
      split at h
      · rename_i c' q
        obtain ⟨v', e1, rp⟩ := en.get _ _ q
        cases rp with
        | exn h' =>
          rw [hxa] at h'; cases h'
          rw [hl] at h
          exact ⟨_, e1, v, cv, b, rfl, uq, k1, Fin.ok (Rel := RelD W ν) h hr (.bl b)⟩
      · exact h.elim

/-! ### displays -/
theorem se_tup {es : List Expr} {j : Nat} {pos : Pos} {rs : Env → Hs → R (List D)} (ha : PA X es (tRs W Wx rs)) (hl : ∀ ρ S ds S', rs ρ S = .ok ds S' → ds.length ≤ sizeLine) :
    PE X (.Tuple es j pos) (tR W Wx fun ρ S => (rs ρ S).bind fun ds S => .ok (.tup ds) S) := PE.imp (pe_tup ha) fun σ H Q ⟨ρ, S, μ, ν, hr, en, h⟩ => by
  dsimp only at h
  refine ⟨ρ, S, μ, ν, hr, en, ?_⟩
  cases q : rs ρ S with
  | bad => rw [q] at h; exact h
  | exc x S' => rw [q] at h; exact h
  | ok ds S' =>
    rw [q] at h
    intro vs μ' H' m hr' rv
    refine ⟨by rw [rv.length]; exact hl _ _ _ _ q, fun p hp => ?_⟩
    obtain ⟨m2, hr2, r2⟩ := new_tup hr' hp rv
    exact h _ _ _ (m.trans m2) hr2 r2
theorem se_lst {es : List Expr} {pos : Pos} {rs : Env → Hs → R (List D)} (ha : PA X es (tRs W Wx rs)) (hl : ∀ ρ S ds S', rs ρ S = .ok ds S' → ds.length ≤ sizeLine) :
    PE X (.List es pos) (tR W Wx fun ρ S => (rs ρ S).bind fun ds S => .ok (.lst ds) S) := PE.imp (pe_lst ha) fun σ H Q ⟨ρ, S, μ, ν, hr, en, h⟩ => by
  dsimp only at h
  refine ⟨ρ, S, μ, ν, hr, en, ?_⟩
  cases q : rs ρ S with
  | bad => rw [q] at h; exact h
  | exc x S' => rw [q] at h; exact h
  | ok ds S' =>
    rw [q] at h
    intro vs μ' H' m hr' rv
    refine ⟨by rw [rv.length]; exact hl _ _ _ _ q, fun p hp => ?_⟩
    obtain ⟨m2, hr2, r2⟩ := new_lst hr' hp rv
    exact h _ _ _ (m.trans m2) hr2 r2
theorem se_mlst {es : List Expr} {pos : Pos} {rs : Env → Hs → R (List D)} (ha : PA X es (tRs W Wx rs)) (hl : ∀ ρ S ds S', rs ρ S = .ok ds S' → ds.length ≤ sizeLine) :
    PE X (.List es pos) (tR W Wx fun ρ S => (rs ρ S).bind fun ds S => if D.flats ds then .ok (.cell S.length) (S ++ [.lst ds]) else .bad) := PE.imp (pe_lst ha) fun σ H Q ⟨ρ, S, μ, ν, hr, en, h⟩ => by
  dsimp only at h
  refine ⟨ρ, S, μ, ν, hr, en, ?_⟩
  cases q : rs ρ S with
  | bad => rw [q] at h; exact h
  | exc x S' => rw [q] at h; exact h
  | ok ds S' =>
    rw [q] at h
    intro vs μ' H' m hr' rv
    refine ⟨by rw [rv.length]; exact hl _ _ _ _ q, fun p hp => ?_⟩
    have h : Fin W μ ν H (RelD W ν) (if D.flats ds = true then R.ok (D.cell S'.length) (S' ++ [.lst ds]) else .bad) Q (WE Wx σ) := h
    split at h
    · rename_i f
      obtain ⟨m2, hr2⟩ := hr'.new hp rv f
      refine h _ _ _ (m.trans m2) hr2 (.cell ?_)
      rw [← hr'.len, List.getElem?_append_right (Nat.le_refl _), Nat.sub_self]; rfl
    · exact h.elim

/-! ### subscripts -/
theorem ix_plain {i : Expr} (h : ixOk i = true) : PlainIx i := fun o v => by
  cases i <;> first | rfl | cases h
theorem se_idx (hK : W.K = X.K) (hu : X.A.units + 64 < cLine) {a i : Expr} {pos : Pos} {ra ri : Env → Hs → R D} (ha : PE X a (tR W Wx ra)) (hi : PE X i (tR W Wx ri)) (hp : ixOk i = true) :
    PE X (.Subscript a i pos) (tR W Wx fun ρ S => (ra ρ S).bind fun x S => (ri ρ S).bind fun y S => .of S (idxD x y S)) := PE.imp (pe_ix (ix_D hK hu) ha hi (ix_plain hp)) two_bin
theorem po_of {o : Option Expr} {c : Option E} {n m : Nat} (ih : ∀ e c, chkE n C e c = true → PE X e (tR W Wx (ev Φ m c))) (h : chkO (chkE n C) o c = true) :
    PO X o (tG W Wx (fun _ _ _ (x y : Option Int) => x = y) (evO (ev Φ m) c)) := by
  cases o with
  | none => cases c with
    | none => exact ⟨fun pins s σ H Q I hq => po_none.run pins s σ H Q I (by obtain ⟨ρ, S, μ, ν, hr, en, h⟩ := hq; exact Fin.ok (W := W) (Rel := fun _ _ (x y : Option Int) => x = y) h hr rfl)⟩
    | some c => cases h
  | some e => cases c with
    | none => cases h
    | some c =>
      refine ⟨fun pins s σ H Q I hq => (po_some (ih e c h)).run pins s σ H Q I ?_⟩
      obtain ⟨ρ, S, μ, ν, hr, en, h2⟩ := tG_bind (Rel := RelD W) hq
      refine ⟨ρ, S, μ, ν, hr, en, h2.imp fun v H1 ⟨ρ1, d, S1, μ1, ν1, hr1, en1, rx, h3⟩ => ?_⟩
      cases rx <;> first | exact ⟨_, rfl, Fin.ok (W := W) (Rel := fun _ _ (x y : Option Int) => x = y) h3 hr1 rfl⟩ | exact (Fin.bad h3).elim
theorem se_slc (hK : W.K = X.K) {a : Expr} {lo hi : Option Expr} {pos p2 : Pos} {ra : Env → Hs → R D} {rl rh : Env → Hs → R (Option Int)} (ha : PE X a (tR W Wx ra))
    (hl : PO X lo (tG W Wx (fun _ _ _ (x y : Option Int) => x = y) rl)) (hh : PO X hi (tG W Wx (fun _ _ _ (x y : Option Int) => x = y) rh)) :
    PE X (.Subscript a (.Slice lo hi none p2) pos) (tR W Wx fun ρ S => (ra ρ S).bind fun x S => (rl ρ S).bind fun l S => (rh ρ S).bind fun h S => .of S (slcD x l h S)) := PE.imp (pe_slice (sl_D hK) ha hl hh) fun σ H Q h => by
  obtain ⟨ρ, S, μ, ν, hr, en, h2⟩ := tG_bind (Rel := RelD W) h
  refine ⟨ρ, S, μ, ν, hr, en, h2.imp fun x H1 ⟨ρ1, dx, S1, μ1, ν1, hr1, en1, rx, h3⟩ => ?_⟩
  refine ⟨ρ1, S1, μ1, ν1, hr1, en1, (Fin.bind (Rel := fun _ _ (x y : Option Int) => x = y) h3).imp fun l H2 ⟨dl, S2, μ2, m2, hr2, rl, h4⟩ => ?_⟩
  cases rl
  refine ⟨ρ1, S2, μ2, ν1, hr2, en1.mo m2, (Fin.bind (Rel := fun _ _ (x y : Option Int) => x = y) h4).imp fun u H3 ⟨du, S3, μ3, m3, hr3, ru, h5⟩ => ?_⟩
  cases ru
  obtain ⟨d, e, q⟩ := Fin.of h5
  exact ⟨S3, μ3, ν1, dx, d, hr3, (rx.mo m2).mo m3, e, q⟩
end
end EW

/-! EW: enumerate of a text; a text, a tuple, a list backwards. -/
namespace EW
open PySem PySem.Spec PyProof.Rows L2

def ItEs (x : Str) : It :=
  ⟨fun i _ => i < x.cps.size, fun i H v H' => ∃ T c, v = .ref T ∧ H T = none ∧ H' = upd H T (.tup [.int (i : Nat), .str ⟨#[c]⟩]) ∧ x.cps[i]? = some c, fun i _ => x.cps.size = i⟩
theorem strit_obj {h : Heap} {it : Addr} {ty : String} {x : Str} {t : Tok} {i : Nat} (e : h.IsStrIter it ty x t i) : ∃ o, h.get? it = some o ∧ ∀ v, o.data ≠ .cell v := by
  obtain ⟨o, ho, _, d⟩ := e
  exact ⟨o, ho, fun v q => by rw [d] at q; cases q⟩
theorem strit_at {h h' : Heap} {it : Addr} {ty : String} {x : Str} {t : Tok} {i : Nat} (e : h.IsStrIter it ty x t i) (q : ∀ o, h.get? it = some o → h'.get? it = some o) : h'.IsStrIter it ty x t i := by
  obtain ⟨o, ho, r⟩ := e
  exact ⟨o, q o ho, r⟩
theorem turn_enumT {P : Program} {w : World} {K : PySem.W.Frag} {elts : List Expr} {kk : Nat} {tpos : Pos} {e it : Addr} {x : Str} {t : Tok} (hne : e ≠ it) :
    Turn P w K (.Tuple elts kk tpos) (ItEs x) [e, it] e (fun i h => (∃ old, IsEnum h e it ((i : Nat) : Int) old) ∧ h.IsStrIter it (strIterType x) x t i) where
  mem := by simp
  obj := fun i h st b hb => by
    obtain ⟨⟨old, he⟩, hi⟩ := st
    have e' : b = e ∨ b = it := by simpa using hb
    rcases e' with z | z
    · rw [z]; exact ⟨_, he, fun v q => nomatch q⟩
    · rw [z]; exact strit_obj hi
  keep := fun i h h' st k => let ⟨⟨old, he⟩, hi⟩ := st; ⟨⟨old, k e (by simp) _ he⟩, strit_at hi fun o q => k it (by simp) o q⟩
  item := by
    intro X hP hw hK hc i pins s σ H E I hf st hg
    subst hP hw hK
    obtain ⟨⟨old, he⟩, hit⟩ := st
    have hlt1 : i < x.cps.size := hg
    have hh := I.ok.hd hc
    have hel : e < s.heap.objs.size := Heap.lt_size he
    have hil : it < s.heap.objs.size := by obtain ⟨_, q, _⟩ := strit_obj hit; exact Heap.lt_size q
    refine wpAny_pyNext_enum_itemD (Draws.text (A := X.A.in1) hh it x t) he hit hlt1 hne (by simp [hne]) fun x1 h' tk y1 ho st1 hT hsz hk => ?_
    obtain ⟨c, u, hc1, rfl⟩ := y1
    refine ⟨_, rfl, wpAny_letOwnedTupleGo_enum (s := { s with heap := h', toks := tk + 1 }) ho fun h'' he' sb => ?_⟩
    have hT2 : h''.get? s.heap.objs.size = some { cls := .type "tuple", data := .seq #[.int i tk, .str ⟨#[c]⟩ u] } := (sb.2 _ (Nat.ne_of_gt hel)).trans hT
    have new : ObjOk X.prog X.w (upd H s.heap.objs.size (.tup [.int (i : Nat), .str ⟨#[c]⟩])) h'' s.heap.objs.size (.tup [.int (i : Nat), .str ⟨#[c]⟩]) :=
      ⟨by show 2 ≤ sizeLine; decide, [.int i tk, .str ⟨#[c]⟩ u], .cons ⟨_, rfl⟩ (.cons ⟨_, rfl⟩ .nil), ⟨_, hT2, rfl, _, rfl⟩⟩
    have I1 : Inv X pins σ (upd H s.heap.objs.size (.tup [.int (i : Nat), .str ⟨#[c]⟩])) { s with heap := h'', toks := tk + 1 } :=
      I.turnedNew (t' := tk + 1) (ch := [e, it]) (fun b ob hb q => (sb.2 b (fun z => hb (by simp [z]))).trans (hk b ob (fun z => hb (by simp [z])) (fun z => hb (by simp [z])) q)) hf (Nat.le_refl _) new
    refine ⟨.ref s.heap.objs.size, _, I1, rfl, ⟨_, c, rfl, I.hok.fresh (Nat.le_refl _), rfl, hc1⟩, ⟨⟨.str ⟨#[c]⟩ u, ?_⟩, strit_at st1 fun o q => (sb.2 it (Ne.symm hne)).trans q⟩, fun b hb => ?_⟩
    · have e1 : ((i + 1 : Nat) : Int) = (i : Int) + 1 := by omega
      rw [e1]; exact he'
    · have hb' : b < s.heap.objs.size := by
        have e' : b = e ∨ b = it := by simpa using hb
        rcases e' with z | z
        · rw [z]; exact hel
        · rw [z]; exact hil
      rw [upd_ne (Nat.ne_of_lt hb')]
      exact (hf b hb).1
  done := by
    intro X hP hw hK hc i pins s σ H E I hf st hg
    subst hP hw hK
    obtain ⟨⟨old, he⟩, hit⟩ := st
    have hi : x.cps.size = i := hg
    subst hi
    obtain ⟨f0, f1, f2, f3, f4, f5⟩ := hf it (by simp)
    exact wpAny_pyNext_enum_endD (Draws.text (A := X.A.in1) (I.ok.hd hc) it x t) he hit fun h' eb => ⟨rfl, I.turned (t' := s.toks) (fun b o hb q => eb b o hb q) f0 f1 f3 f4 f5⟩
  self := fun A i s Q E st h => let ⟨⟨_, he⟩, _⟩ := st; wpAny_pyIter_enum he h
def iEnumT (ta : TA) : TI := fun σ H R => ta σ H fun vs H1 => ∃ x, vs = [.str x] ∧ R (ItEs x) H1
theorem pi_enumT {X : Cx} {e : Expr} {ta : TA} {p pos tpos : Pos} {elts : List Expr} {kk : Nat} (hg : Gl X "enumerate") (hm : X.mg "enumerate" = none) (ha : PA X [e] ta) (hs : starEach [e] X.env = [(false, eval e X.env)] := by rfl) :
    PI X (.Tuple elts kk tpos) (.Call (.Name "enumerate" p) [e] [] pos) (iEnumT ta) := by
  refine ⟨fun pins s σ H R I h => ?_⟩
  refine Call_ (ld_blt I hg hm boot_enumerate (PyProof.Rows.callWith_type1 (thn (ha.run pos pins s σ H _ I h) fun us s1 ⟨vs, H1, I1, r1, q1⟩ => ?_) hs rfl))
  obtain ⟨x, ex, q⟩ := q1
  subst ex
  cases r1 with
  | cons r rr =>
    cases rr
    obtain ⟨t, rfl⟩ := r
    refine enum_begins1 (begins_text x t) trivial fun h' he g1 hsz hk => wpAny_pyIter_enum he ?_
    have I2 : Inv X pins σ H1 { s1 with heap := h' } := I1.kept (t' := s1.toks) hk
    refine ⟨s1.heap.objs.size + 1, [s1.heap.objs.size + 1, s1.heap.objs.size], _, _, H1, rfl, I2, turn_enumT (t := t) (Nat.succ_ne_self _), ⟨⟨.none, he⟩, ⟨_, g1, rfl, rfl⟩⟩, fun b hb => ?_, q⟩
    have e' : b = s1.heap.objs.size + 1 ∨ b = s1.heap.objs.size := by simpa using hb
    have hle : s1.heap.objs.size ≤ b := by
      rcases e' with z | z
      · rw [z]; exact Nat.le_succ _
      · rw [z]; exact Nat.le_refl _
    exact I1.fpOk hle (I1.hok.fresh hle)
end EW

/-! EW: methods of lists. -/
namespace EW
open PySem PySem.Spec PyProof.Rows L2
section
variable {W : Wd} {Φ : Ph} {C : Ct} {k : Nat} {Wx : WX} {X : Cx}
/-- a method of a list cell does what the interpreter says -/
def rM (W : Wd) (m : Mt) : V → List V → Hp → VK → Prop := fun x vs H Q => ∃ S μ ν n ds d S', HR W μ ν S H ∧ Rp W μ ν H x (.cell n) ∧ Rps W μ ν H vs ds ∧ mthD m n ds S = .ok d S' ∧ ∀ v μ' H', Mo μ H μ' H' → HR W μ' ν S' H' → Rp W μ' ν H' v d → Q v H'
theorem MtR.imp {id : String} {r r' : V → List V → Hp → VK → Prop} (h : MtR X id r) (i : ∀ x vs H Q, r' x vs H Q → r x vs H Q) : MtR X id r' := fun pins s σ H x xs v us Q I rx rv q => h pins s σ H x xs v us Q I rx rv (i x xs H Q q)
theorem flats_app : ∀ {l m : List D}, D.flats l = true → D.flats m = true → D.flats (l ++ m) = true
  | [], _, _, h => h
  | d :: r, m, h, h2 => by
    simp only [D.flats, Bool.and_eq_true] at h
    simp only [List.cons_append, D.flats, Bool.and_eq_true]
    exact ⟨h.1, flats_app h.2 h2⟩
theorem flats_drop : ∀ {l : List D}, D.flats l = true → D.flats l.dropLast = true
  | [], h => h
  | [d], _ => rfl
  | d :: e :: r, h => by
    simp only [D.flats, Bool.and_eq_true] at h
    rw [List.dropLast_cons₂]
    simp only [D.flats, Bool.and_eq_true]
    exact ⟨h.1, flats_drop (l := e :: r) (by simp only [D.flats, Bool.and_eq_true]; exact h.2)⟩
theorem flats_erase : ∀ {l : List D} (j : Nat), D.flats l = true → D.flats (l.eraseIdx j) = true
  | [], _, h => h
  | d :: r, 0, h => by
    simp only [D.flats, Bool.and_eq_true] at h
    exact h.2
  | d :: r, j + 1, h => by
    simp only [D.flats, Bool.and_eq_true] at h
    rw [List.eraseIdx_cons_succ]
    simp only [D.flats, Bool.and_eq_true]
    exact ⟨h.1, flats_erase j h.2⟩
theorem flat_get : ∀ {l : List D} {j : Nat} {d : D}, D.flats l = true → l[j]? = some d → d.flat = true
  | [], _, _, _, h => by simp at h
  | a :: r, 0, d, h, e => by
    simp only [D.flats, Bool.and_eq_true] at h
    simp at e; subst e; exact h.1
  | a :: r, j + 1, d, h, e => by
    simp only [D.flats, Bool.and_eq_true] at h
    exact flat_get h.2 (by simpa using e)
theorem Rps.dropLast {μ ν : List Addr} {H : Hp} : ∀ {vs : List V} {ds : List D}, Rps W μ ν H vs ds → Rps W μ ν H vs.dropLast ds.dropLast
  | _, _, .nil => .nil
  | _, _, .cons h .nil => .nil
  | _, _, .cons h (.cons h2 r) => by
    rw [List.dropLast_cons₂, List.dropLast_cons₂]
    exact .cons h (Rps.dropLast (.cons h2 r))
theorem Rps.erase {μ ν : List Addr} {H : Hp} : ∀ {vs : List V} {ds : List D} (j : Nat), Rps W μ ν H vs ds → Rps W μ ν H (vs.eraseIdx j) (ds.eraseIdx j)
  | _, _, _, .nil => .nil
  | _, _, 0, .cons h r => r
  | _, _, j + 1, .cons h r => by
    rw [List.eraseIdx_cons_succ, List.eraseIdx_cons_succ]
    exact .cons h (Rps.erase j r)
theorem mt_appC : MtR X "list.append" (rM W .append) := MtR.imp (r := rAppend) mt_append fun x vs H Q hq => by
  obtain ⟨S, μ, ν, n, ds, d, S', hr, rx, rs, e, q⟩ := hq
  simp only [mthD] at e
  split at e
  · rename_i d1
    split at e
    · rename_i S1 he
      cases e
      unfold appC at he
      split at he
      · rename_i l hl
        split at he
        · rename_i hc
          rw [Bool.and_eq_true] at hc
          cases he
          cases rx with
          | cell hn =>
            cases rs with
            | cons r1 rs => cases rs with
              | nil =>
                obtain ⟨f, us, hv, rv⟩ := hr.read hn hl
                obtain ⟨m, hr2⟩ := hr.put hn (rv.append (.cons r1 .nil)) (flats_app f (by simp [D.flats, hc.1]))
                refine ⟨_, us, _, rfl, rfl, hv, ?_, q _ _ _ m hr2 .non⟩
                rw [rv.length]
                have := Nat.le_of_ble_eq_true hc.2
                rw [← lim_eq]; exact this
        · cases he
      · cases he
    · cases e
  · cases e
theorem mt_popC : MtR X "list.pop" (rM W .pop) := MtR.imp (MtR.or (r := rPop) (r' := rPopAt) mt_pop mt_popAt) fun x vs H Q hq => by
  obtain ⟨S, μ, ν, n, ds, d, S', hr, rx, rs, e, q⟩ := hq
  simp only [mthD] at e
  split at e
  · split at e
    · rename_i d1 S1 he
      cases e
      unfold popC at he
      split at he
      · rename_i l hl
        rw [Option.map_eq_some_iff] at he
        obtain ⟨d2, hd, he⟩ := he
        cases he
        cases rx with
        | cell hn =>
          cases rs with
          | nil =>
            obtain ⟨f, us, hv, rv⟩ := hr.read hn hl
            obtain ⟨m, hr2⟩ := hr.put hn rv.dropLast (flats_drop f)
            obtain ⟨u, hu, ru⟩ := rv.get hd
            exact .inl ⟨_, us, u, rfl, rfl, hv, by rw [rv.length]; exact hu, q _ _ _ m hr2 (ru.mo m)⟩
      · cases he
    · cases e
  · rename_i i
    split at e
    · rename_i d1 S1 he
      cases e
      unfold popA at he
      split at he
      · rename_i l hl
        split at he
        · rename_i hb
          rw [Option.bind_eq_some_iff] at he
          obtain ⟨j, hj, he⟩ := he
          rw [Option.map_eq_some_iff] at he
          obtain ⟨d2, hd, he⟩ := he
          cases he
          cases rx with
          | cell hn =>
            cases rs with
            | cons r1 rs => cases rs with
              | nil =>
                cases r1 with
                | int _ =>
                  obtain ⟨f, us, hv, rv⟩ := hr.read hn hl
                  obtain ⟨m, hr2⟩ := hr.put hn (rv.erase j) (flats_erase j f)
                  obtain ⟨u, hu, ru⟩ := rv.get hd
                  have hb' := Nat.le_of_ble_eq_true hb
                  obtain ⟨h1, _, _, _⟩ := ixN_seq hj
                  exact .inr ⟨_, us, i, j, u, rfl, rfl, hv, by omega, by omega, by rw [rv.length]; exact h1, hu, q _ _ _ m hr2 (ru.mo m)⟩
        · cases he
      · cases he
    · cases e
  · cases e
theorem base_ok {o : Expr} {name : Str} {env : PySem.Env} {w : Sem Value} (h : baseOk o = true) : attributeBase o name env w = w := by
  cases o <;> first | rfl | cases h
theorem mthD_ok {m : Mt} {n : Nat} {ds : List D} {S : Hs} : mthD m n ds S = .bad ∨ ∃ d S', mthD m n ds S = .ok d S' := by
  cases hm : mthD m n ds S with
  | bad => exact .inl rfl
  | ok d S' => exact .inr ⟨d, S', rfl⟩
  | exc x S' =>
    exfalso
    unfold mthD at hm
    split at hm
    · split at hm
      · split at hm <;> cases hm
      · cases hm
    · split at hm
      · split at hm <;> cases hm
      · split at hm <;> cases hm
      · cases hm
    · cases hm
/-- the reading of a method's call -/
def mthR (m : Mt) (ro : Env → Hs → R D) (rs : Env → Hs → R (List D)) : Env → Hs → R D := fun ρ S => (ro ρ S).bind fun x S => match x with
    | .cell n => match S[n]? with
      | some (.lst _) => (rs ρ S).bind fun ds S => mthD m n ds S
      | _ => .bad
    | _ => .bad
theorem mth_imp {m : Mt} {ro : Env → Hs → R D} {rs : Env → Hs → R (List D)} (hK : W.K = X.K) : ∀ σ H Q, tR W Wx (mthR m ro rs) σ H Q → tR W Wx ro σ H fun x H1 => tyV X.K "list" x H1 ∧ tRs W Wx rs σ H1 fun xs H2 => rM W m x xs H2 Q := fun σ H Q h => by
  obtain ⟨ρ, S, μ, ν, hr, en, h2⟩ := tG_bind (Rel := RelD W) h
  refine ⟨ρ, S, μ, ν, hr, en, h2.imp fun x H1 ⟨ρ1, dx, S1, μ1, ν1, hr1, en1, rx, h3⟩ => ?_⟩
  dsimp only at h3
  split at h3
  case h_2 => exact h3.elim
  rename_i n
  split at h3
  case h_2 => exact h3.elim
  rename_i l hl
  cases rx with
  | cell hn =>
    obtain ⟨f, us, hv, rv⟩ := hr1.cell n _ _ hn hl
    refine ⟨.inl ⟨rfl, us, .inl (.inl hv)⟩, ρ1, S1, μ1, ν1, hr1, en1, (Fin.bind (Rel := RelDs W ν1) h3).imp fun xs H2 ⟨ds, S2, μ2, m2, hr2, rxs, h4⟩ => ?_⟩
    rcases mthD_ok (m := m) (n := n) (ds := ds) (S := S2) with q | ⟨d, S', q⟩
    · rw [q] at h4; exact h4.elim
    · rw [q] at h4
      exact ⟨S2, μ2, ν1, n, ds, d, S', hr2, .cell (pre_get m2.pre hn), rxs, q, h4⟩
theorem mth_nil {ro : Env → Hs → R D} {m : Mt} (hK : W.K = X.K) {rec : E → Env → Hs → R D} : ∀ σ H Q, tR W Wx (mthR m ro (evs rec [])) σ H Q → tR W Wx ro σ H fun x H1 => tyV X.K "list" x H1 ∧ rM W m x [] H1 Q := fun σ H Q h => by
  obtain ⟨ρ, S, μ, ν, hr, en, h2⟩ := mth_imp hK σ H Q h
  refine ⟨ρ, S, μ, ν, hr, en, h2.imp fun x H1 ⟨a, ρ1, S1, μ1, ν1, hr1, en1, h3⟩ => ⟨a, ?_⟩⟩
  exact Fin.ok (Rel := RelDs W ν1) h3 hr1 .nil
theorem se_mth (g : Gd W Φ C k Wx X) {n m : Nat} {o : Expr} {name : Str} {es : List Expr} {ap cp : Pos} {mt : Mt} {co : E} {cs : List E} (hc : chkM name es.length mt = true) (hb : baseOk o = true) (hl : (ap.endLine == cp.line) = true)
    (ho : PE X o (tR W Wx (ev Φ m co))) (hh : chks (chkE n C) es cs = true) (ha : PA X es (tRs W Wx (evs (ev Φ m) cs))) :
    PE X (.Call (.Attribute o name ap) es [] cp) (tR W Wx (mthR mt (ev Φ m co) (evs (ev Φ m) cs))) := by
  have hst : ∀ e r c cr, es = e :: r → cs = c :: cr → isStar e = false ∧ (backTo cp (starEach r X.env)).any (·.1) = false := fun e r c cr h1 h2 => by
    subst h1 h2
    simp only [chks, Bool.and_eq_true] at hh
    exact ⟨chk_star hh.1, star_any (fun _ _ => chk_star) hh.2⟩
  unfold chkM at hc
  cases mt <;> simp only [mtN, List.any_nil, List.any_cons, Bool.or_false, Bool.false_eq_true, Bool.and_eq_true, Bool.or_eq_true, decide_eq_true_eq] at hc
  · obtain ⟨rfl, h2⟩ := hc
    have h2 := Nat.eq_of_beq_eq_true h2
    match es, cs, h2, hh, ha, hst with
    | [e], [c], _, hh, ha, hst =>
      obtain ⟨s1, s2⟩ := hst e [] c [] rfl rfl
      exact PE.imp (pe_bm F.plainAttrs_list F.slot_list_append F.type_list_append (mt_appC (W := W)) ho ha (base_ok hb) (by rw [star_cons s1]; rfl) hl (star_cons s1) s2) (mth_imp g.hK)
    | [e], [], _, hh, _, _ => simp [chks] at hh
    | [e], _ :: _ :: _, _, hh, _, _ => simp [chks] at hh
  · rcases hc with ⟨rfl, h2⟩ | ⟨rfl, h2⟩
    · have h2 := Nat.eq_of_beq_eq_true h2
      match es, cs, h2, hh with
      | [], [], _, _ => exact PE.imp (pe_bm0 F.plainAttrs_list F.slot_list_pop F.type_list_pop (mt_popC (W := W)) ho (base_ok hb) hl) (mth_nil g.hK)
      | [], _ :: _, _, hh => simp [chks] at hh
    · have h2 := Nat.eq_of_beq_eq_true h2
      match es, cs, h2, hh, ha, hst with
      | [e], [c], _, hh, ha, hst =>
        obtain ⟨s1, s2⟩ := hst e [] c [] rfl rfl
        exact PE.imp (pe_bm F.plainAttrs_list F.slot_list_pop F.type_list_pop (mt_popC (W := W)) ho ha (base_ok hb) (by rw [star_cons s1]; rfl) hl (star_cons s1) s2) (mth_imp g.hK)
      | [e], [], _, hh, _, _ => simp [chks] at hh
      | [e], _ :: _ :: _, _, hh, _, _ => simp [chks] at hh
/-- a value stored at a key -/
theorem any_ok {k : Key} {d : D} (hk : KR k d) : ∀ {kvs : List (Key × V)} {ks : List D}, Ks (kvs.map Prod.fst) ks → (kvs.any fun kv => decide (kv.1 = k)) = ks.any fun x => eqD x d
  | [], [], _ => rfl
  | [], _ :: _, h => by cases h
  | _ :: _, [], h => by cases h
  | p :: r, x :: ks, .cons a b => by
    rw [List.any_cons, List.any_cons, kr_eq a hk, any_ok hk b]
theorem repl_ok {W : Wd} {μ ν : List Addr} {H : Hp} {k : Key} {d x : D} {v : V} (hk : KR k d) (rx : Rp W μ ν H v x) : ∀ {kvs : List (Key × V)} {ks vs : List D}, Ks (kvs.map Prod.fst) ks → Rps W μ ν H (kvs.map Prod.snd) vs →
    Ks ((kvs.map fun kv => if kv.1 = k then (kv.1, v) else kv).map Prod.fst) ks ∧ Rps W μ ν H ((kvs.map fun kv => if kv.1 = k then (kv.1, v) else kv).map Prod.snd) (replD ks vs d x)
  | [], [], [], _, _ => ⟨.nil, .nil⟩
  | [], [], _ :: _, _, h => by cases h
  | [], _ :: _, _, h, _ => by cases h
  | _ :: _, [], _, h, _ => by cases h
  | _ :: _, _ :: _, [], _, h => by cases h
  | p :: r, k1 :: ks, v1 :: vs, .cons a b, .cons c e => by
    obtain ⟨h1, h2⟩ := repl_ok hk rx b e
    unfold replD
    rw [kr_eq a hk]
    by_cases h : p.1 = k
    · simp only [List.map_cons, h, if_true, decide_true]
      exact ⟨.cons (h ▸ a) h1, .cons rx h2⟩
    · simp only [List.map_cons, h, if_false, decide_false]
      exact ⟨.cons a h1, .cons c h2⟩
theorem Ks.append : ∀ {k k' : List Key} {d d' : List D}, Ks k d → Ks k' d' → Ks (k ++ k') (d ++ d')
  | _, _, _, _, .nil, h => h
  | _, _, _, _, .cons a b, h => .cons a (Ks.append b h)
theorem store_ok {W : Wd} {μ ν : List Addr} {H : Hp} {k : Key} {d x : D} {v : V} (hk : KR k d) (rx : Rp W μ ν H v x) {kvs : List (Key × V)} {ks vs : List D} (h1 : Ks (kvs.map Prod.fst) ks) (h2 : Rps W μ ν H (kvs.map Prod.snd) vs) :
    Ks ((putK kvs k v).map Prod.fst) (storeD ks vs d x).1 ∧ Rps W μ ν H ((putK kvs k v).map Prod.snd) (storeD ks vs d x).2 := by
  unfold putK storeD
  rw [any_ok hk h1]
  split
  · exact repl_ok hk rx h1 h2
  · rw [List.map_append, List.map_append]
    exact ⟨h1.append (.cons hk .nil), h2.append (.cons rx .nil)⟩
theorem flats_repl {d x : D} (hx : x.flat = true) : ∀ {ks vs : List D}, D.flats vs = true → D.flats (replD ks vs d x) = true
  | [], _, h => h
  | _ :: _, [], h => h
  | k :: ks, v :: vs, h => by
    simp only [D.flats, Bool.and_eq_true] at h
    unfold replD
    simp only [D.flats, Bool.and_eq_true]
    refine ⟨?_, flats_repl hx h.2⟩
    split
    · exact hx
    · exact h.1
theorem flats_store {d x : D} (hx : x.flat = true) {ks vs : List D} (h : D.flats vs = true) : D.flats (storeD ks vs d x).2 = true := by
  unfold storeD
  split
  · exact flats_repl hx h
  · exact flats_app h (by simp only [D.flats, hx, Bool.and_self])
/-! ### dicts -/
def getR (ro : Env → Hs → R D) (rs : Env → Hs → R (List D)) (ρ : Env) (S : Hs) : R D := (ro ρ S).bind fun x S => match dicP x S with
    | some (false, _, _) => (rs ρ S).bind fun ds S => .of S (getM x ds S)
    | _ => .bad
theorem getM_of {μ ν : List Addr} {S : Hs} {H : Hp} (h : HR W μ ν S H) {x y : V} {dx dy d : D} {dflt : D} {vd : V} (rx : Rp W μ ν H x dx) (ry : Rp W μ ν H y dy) (rd : Rp W μ ν H vd dflt) {t : Bool} {ks vs : List D} (e : dicP dx S = some (t, ks, vs)) (g : (getK t ks vs dy).map (fun o => o.getD dflt) = some d) :
    ∃ a r, x = .ref a ∧ DGet H a y r ∧ Rp W μ ν H (r.getD vd) d := by
  rw [Option.map_eq_some_iff] at g
  obtain ⟨o, ho, rfl⟩ := g
  obtain ⟨a, r, rfl, dg, _, f1, f2⟩ := dget_of h rx ry e ho
  refine ⟨a, r, rfl, dg, ?_⟩
  cases o with
  | none => rw [f2 rfl]; exact rd
  | some z => obtain ⟨v, hv, rv⟩ := f1 z rfl; rw [hv]; exact rv
theorem se_get1 (g : Gd W Φ C k Wx X) {m : Nat} {o e : Expr} {ap cp : Pos} {ro : Env → Hs → R D} {c : E} (hb : baseOk o = true) (hl : (ap.endLine == cp.line) = true) (ho : PE X o (tR W Wx ro)) (he : PE X e (tR W Wx (ev Φ m c))) (hs : isStar e = false) :
    PE X (.Call (.Attribute o "get" ap) [e] [] cp) (tR W Wx (getR ro (evs (ev Φ m) [c]))) := by
  have hu := g.hu
  refine PE.imp (pe_dget1 (by omega) ho he ⟨base_ok hb, by rw [star_cons hs]; rfl, hl, by rw [star_cons hs]; rfl⟩) fun σ H Q h => ?_
  obtain ⟨ρ, S, μ, ν, hr, en, h2⟩ := tG_bind (Rel := RelD W) h
  refine ⟨ρ, S, μ, ν, hr, en, h2.imp fun x H1 ⟨ρ1, dx, S1, μ1, ν1, hr1, en1, rx, h3⟩ => ?_⟩
  dsimp only at h3
  split at h3
  case h_2 => exact h3.elim
  rename_i ks vs hd
  obtain ⟨a, kvs, rfl, rd, _, _⟩ := dic_at hr1 rx hd
  refine ⟨a, rfl, .inl ⟨kvs, rd⟩, ρ1, S1, μ1, ν1, hr1, en1, ?_⟩
  unfold evs at h3
  cases q : ev Φ m c ρ1 S1 with
  | bad => rw [q] at h3; exact h3.elim
  | exc xx S' => rw [q] at h3; exact h3
  | ok dy S2 =>
    rw [q] at h3
    intro y μ2 H2 m2 hr2 ry
    have h3 : Fin W μ1 ν1 H1 (RelD W ν1) (R.of S2 (getM dx [dy] S2)) Q (WE Wx σ) := h3
    unfold getM at h3
    cases hd2 : dicP dx S2 with
    | none => rw [hd2] at h3; exact h3.elim
    | some p =>
      obtain ⟨t, ks2, vs2⟩ := p
      rw [hd2] at h3
      cases hg : (getK t ks2 vs2 dy).map (fun o => o.getD .non) with
      | none => dsimp only at h3; rw [hg] at h3; exact h3.elim
      | some d =>
        dsimp only at h3
        rw [hg] at h3
        obtain ⟨a', r, e1, dg, rv⟩ := getM_of hr2 (rx.mo m2) ry .non hd2 hg
        cases e1
        exact ⟨r, dg, h3 _ μ2 H2 m2 hr2 rv⟩
theorem se_get2 (g : Gd W Φ C k Wx X) {m : Nat} {o e f : Expr} {ap cp : Pos} {ro : Env → Hs → R D} {c cf : E} (hb : baseOk o = true) (hl : (ap.endLine == cp.line) = true) (ho : PE X o (tR W Wx ro)) (he : PE X e (tR W Wx (ev Φ m c))) (hf : PE X f (tR W Wx (ev Φ m cf))) (hs : isStar e = false) (hs2 : isStar f = false) :
    PE X (.Call (.Attribute o "get" ap) [e, f] [] cp) (tR W Wx (getR ro (evs (ev Φ m) [c, cf]))) := by
  have hu := g.hu
  refine PE.imp (pe_dget2 (by omega) ho he hf ⟨base_ok hb, by rw [star_cons hs, star_cons hs2]; rfl, hl, by rw [star_cons hs, star_cons hs2]; rfl⟩) fun σ H Q h => ?_
  obtain ⟨ρ, S, μ, ν, hr, en, h2⟩ := tG_bind (Rel := RelD W) h
  refine ⟨ρ, S, μ, ν, hr, en, h2.imp fun x H1 ⟨ρ1, dx, S1, μ1, ν1, hr1, en1, rx, h3⟩ => ?_⟩
  dsimp only at h3
  split at h3
  case h_2 => exact h3.elim
  rename_i ks vs hd
  obtain ⟨a, kvs, rfl, rd, _, _⟩ := dic_at hr1 rx hd
  refine ⟨a, rfl, .inl ⟨kvs, rd⟩, ρ1, S1, μ1, ν1, hr1, en1, ?_⟩
  unfold evs at h3
  cases q : ev Φ m c ρ1 S1 with
  | bad => rw [q] at h3; exact h3.elim
  | exc xx S' => rw [q] at h3; exact h3
  | ok dy S2 =>
    rw [q] at h3
    intro y μ2 H2 m2 hr2 ry
    refine ⟨ρ1, S2, μ2, ν1, hr2, en1.mo m2, ?_⟩
    unfold evs at h3
    cases q2 : ev Φ m cf ρ1 S2 with
    | bad => dsimp only [R.bind] at h3; rw [q2] at h3; exact h3.elim
    | exc xx S' => dsimp only [R.bind] at h3; rw [q2] at h3; exact Fin.from (Rel := RelD W ν1) (r := R.exc xx S') h3 m2
    | ok dz S3 =>
      dsimp only [R.bind] at h3
      rw [q2] at h3
      intro z μ3 H3 m3 hr3 rz
      have h3 : Fin W μ1 ν1 H1 (RelD W ν1) (R.of S3 (getM dx [dy, dz] S3)) Q (WE Wx σ) := h3
      unfold getM at h3
      cases hd2 : dicP dx S3 with
      | none => rw [hd2] at h3; exact h3.elim
      | some p =>
        obtain ⟨t, ks2, vs2⟩ := p
        rw [hd2] at h3
        cases hg : (getK t ks2 vs2 dy).map (fun o => o.getD dz) with
        | none => dsimp only at h3; rw [hg] at h3; exact h3.elim
        | some d =>
          dsimp only at h3
          rw [hg] at h3
          obtain ⟨a', r, e1, dg, rv⟩ := getM_of hr3 ((rx.mo m2).mo m3) (ry.mo m3) rz hd2 hg
          cases e1
          exact ⟨r, dg, h3 _ μ3 H3 (m2.trans m3) hr3 rv⟩
theorem se_mdic {pos : Pos} : PE X (.Dict [] [] pos) (tR W Wx fun _ S => .ok (.cell S.length) (S ++ [.dic false [] []])) := PE.imp pe_dnewK fun σ H Q ⟨ρ, S, μ, ν, hr, en, h⟩ => fun p hp => by
  obtain ⟨m2, hr2⟩ := hr.newC (u := .dK []) (c := .dic false [] []) hp fun m => ⟨rfl, [], upd_same, .nil, .nil⟩
  exact h (.ref p) _ _ m2 hr2 (.cell (by rw [← hr.len]; simp))
/-! ### d.update(e) -/
def rUpd : V → List V → Hp → VK → Prop := fun x xs H Q => ∃ (d o : Addr) (kvs more : List (Key × V)), x = .ref d ∧ xs = [.ref o] ∧ d ≠ o ∧ H d = some (.dK kvs) ∧ Rd H o (.dK more) ∧ kvs.length + more.length ≤ sizeLine ∧ Q .non (upd H d (.dK (mergeK kvs more)))
theorem mt_update {X : Cx} : MtR X "dict.update" rUpd := by
  intro pins s σ H x xs v us Q I rx rs h
  obtain ⟨d, o, kvs, more, rfl, rfl, hdo, hd, ho, hz, q⟩ := h
  obtain rfl : v = Value.ref d := rx
  rw [Vals.ref1 rs]
  obtain ⟨z, hs1, vs, rel, dd⟩ := dk_of I.hok hd
  obtain ⟨z2, hs2, ws, rel2, dd2⟩ := dk_rd I.hok ho
  refine call_meetsIn PySem.F.slot_dict_update dd.typeIs PySem.F.entry_dict_update (PySem.F.args_dict_update_2 _ _) (meets_dict_update (mixKind X.prog X.w) d o hdo hs2) ⟨vs, ws, dd, dd2, by rw [← rel.length, ← rel2.length]; exact hz, fun h' dd' _ hs => ?_⟩
  have he : ∃ q, h'.get? d = some q := let ⟨q, _, _, hq, _⟩ := dd'; ⟨q, hq⟩
  refine ⟨.non, upd H d (.dK (mergeK kvs more)), ?_, rfl, q⟩
  exact d_write (t' := s.toks) I (by rw [hd]; exact True.intro) hs he (dk_new (Nat.le_trans (length_mergeK more kvs) hz) hs1 (rel2.merge rel) dd')
theorem merge_ok {W : Wd} {μ ν : List Addr} {H : Hp} : ∀ {more kvs : List (Key × V)} {ks vs ms ws : List D}, Ks (kvs.map Prod.fst) ks → Rps W μ ν H (kvs.map Prod.snd) vs → Ks (more.map Prod.fst) ms → Rps W μ ν H (more.map Prod.snd) ws →
    Ks ((mergeK kvs more).map Prod.fst) (mergeD ks vs ms ws).1 ∧ Rps W μ ν H ((mergeK kvs more).map Prod.snd) (mergeD ks vs ms ws).2
  | [], _, _, _, [], [], h1, h2, _, _ => ⟨h1, h2⟩
  | [], _, _, _, [], _ :: _, _, _, _, h => by cases h
  | [], _, _, _, _ :: _, _, _, _, h, _ => by cases h
  | _ :: _, _, _, _, [], _, _, _, h, _ => by cases h
  | _ :: _, _, _, _, _ :: _, [], _, _, _, h => by cases h
  | p :: r, kvs, ks, vs, m :: ms, w :: ws, h1, h2, .cons a b, .cons c e => by
    obtain ⟨s1, s2⟩ := store_ok a c h1 h2
    exact merge_ok (more := r) (kvs := putK kvs p.1 p.2) (ks := (storeD ks vs m w).1) (vs := (storeD ks vs m w).2) s1 s2 b e
theorem flats_merge : ∀ {ms ws ks vs : List D}, D.flats ws = true → D.flats vs = true → D.flats (mergeD ks vs ms ws).2 = true
  | [], _, _, _, _, h => h
  | _ :: _, [], _, _, _, h => h
  | m :: ms, w :: ws, ks, vs, hw, h => by
    simp only [D.flats, Bool.and_eq_true] at hw
    exact flats_merge (ms := ms) hw.2 (flats_store hw.1 h)
def updR (ro re : Env → Hs → R D) (rs : Env → Hs → R (List D)) (ρ : Env) (S : Hs) : R D := (ro ρ S).bind fun x S => match x with
    | .cell n => match cellD S n with
      | some (false, _, _) => (rs ρ S).bind fun ds S => match ds with
        | [.dic false ms ws] => match cellD S n with
          | some (false, ks, vs) => if D.flats ws && fitL (ks.length + ms.length) then .ok .non (S.set n (.dic false (mergeD ks vs ms ws).1 (mergeD ks vs ms ws).2)) else .bad
          | _ => .bad
        | _ => .bad
      | _ => .bad
    | _ => .bad
theorem se_dupd (g : Gd W Φ C k Wx X) {m : Nat} {o e : Expr} {ap cp : Pos} {ro : Env → Hs → R D} {c : E} (hb : baseOk o = true) (hl : (ap.endLine == cp.line) = true) (ho : PE X o (tR W Wx ro)) (ha : PA X [e] (tRs W Wx (evs (ev Φ m) [c]))) (hs : isStar e = false) :
    PE X (.Call (.Attribute o "update" ap) [e] [] cp) (tR W Wx (updR ro ro (evs (ev Φ m) [c]))) := by
  refine PE.imp (pe_bm F.plainAttrs_dict F.slot_dict_update F.type_dict_update mt_update ho ha (base_ok hb) (by rw [star_cons hs]; rfl) hl (star_cons hs) rfl) fun σ H Q h => ?_
  obtain ⟨ρ, S, μ, ν, hr, en, h2⟩ := tG_bind (Rel := RelD W) h
  refine ⟨ρ, S, μ, ν, hr, en, h2.imp fun x H1 ⟨ρ1, dx, S1, μ1, ν1, hr1, en1, rx, h3⟩ => ?_⟩
  dsimp only at h3
  rcases rx with _ | _ | _ | _ | _ | _ | _ | @⟨a, n, hn⟩ | _ | _ | _ | _ <;> first | exact h3.elim | skip
  dsimp only at h3
  split at h3
  case h_2 => exact h3.elim
  rename_i ks0 vs0 hc
  obtain ⟨_, kvs0, e0, rd0, _, _⟩ := dic_at hr1 (.cell hn) (show dicP (.cell n) S1 = some (false, ks0, vs0) from hc)
  cases e0
  have hc0 := hc
  unfold cellD at hc
  split at hc
  case h_2 => cases hc
  rename_i t' ks' vs' hs'
  cases hc
  obtain ⟨_, kvs1, hv1, _, _⟩ := hr1.cell n a _ hn hs'
  refine ⟨.inr (.inr (.inl ⟨rfl, .inl ⟨kvs1, hv1⟩⟩)), ρ1, S1, μ1, ν1, hr1, en1, ?_⟩
  cases q : evs (ev Φ m) [c] ρ1 S1 with
  | bad => rw [q] at h3; exact h3.elim
  | exc xx S' => rw [q] at h3; exact h3
  | ok ds S2 =>
    rw [q] at h3
    intro xs μ2 H2 m2 hr2 rxs
    have h3 := Fin.from (Rel := RelD W ν1) h3 m2
    dsimp only [R.bind] at h3
    split at h3
    case h_2 => exact h3.elim
    rename_i ms ws hx
    obtain ⟨y, rfl, ry⟩ := rps1 rxs
    split at h3
    case h_2 => exact h3.elim
    rename_i ks vs hc2
    split at h3
    case isFalse => exact h3.elim
    rename_i hf
    rw [Bool.and_eq_true] at hf
    unfold cellD at hc2
    split at hc2
    case h_2 => cases hc2
    rename_i t2 ks2 vs2 hs2
    cases hc2
    have hn2 := pre_get m2.pre hn
    obtain ⟨ff, kvs, hv, k1, r1⟩ := hr2.cell n a _ hn2 hs2
    cases ry with
    | dicK h0 h1 h2 kk rr =>
      rename_i o2 more
      have hl1 := k1.length
      have hl2 := kk.length
      rw [List.length_map] at hl1 hl2
      have hz := Nat.le_of_ble_eq_true hf.2
      have hne : a ≠ o2 := fun z => h1 (z ▸ List.mem_of_getElem? hn2)
      obtain ⟨m3, hr3⟩ := hr2.putC (u := .dK (mergeK kvs more)) (c0 := .dic false (mergeD ks vs ms ws).1 (mergeD ks vs ms ws).2) hn2 fun m3 => by
        obtain ⟨s1, s2⟩ := merge_ok k1 (r1.mo m3) kk (rr.mo m3)
        exact ⟨flats_merge hf.1 ff, mergeK kvs more, upd_same, s1, s2⟩
      exact ⟨a, o2, kvs, more, rfl, rfl, hne, hv, h0, by rw [← lim_eq, hl1, hl2]; exact hz, h3 .non μ2 _ m3 hr3 .non⟩
end
end EW

/-! EW: texts joined. -/
namespace EW
open PySem PySem.Spec PyProof.Rows L2
theorem joinL_TL (a : List Nat) : ∀ l : List (List Nat), joinL a l = TL.joinL a l
  | [] => rfl
  | [_] => rfl
  | x :: y :: r => by
    have ih := joinL_TL a (y :: r)
    show x ++ a ++ joinL a (y :: r) = x ++ (a ++ TL.joinL a (y :: r))
    rw [ih, List.append_assoc]
theorem joinL_len (a : List Nat) : ∀ l : List (List Nat), (joinL a l).length ≤ (l.map (·.length)).sum + l.length * a.length
  | [] => Nat.zero_le _
  | [x] => by simp [joinL]
  | x :: y :: r => by
    have ih := joinL_len a (y :: r)
    show (x ++ a ++ joinL a (y :: r)).length ≤ _
    simp only [List.length_append, List.map_cons, List.sum_cons, List.length_cons, Nat.succ_mul, Nat.add_mul] at ih ⊢
    omega
theorem joinL_all {P : Nat → Prop} (a : List Nat) (ha : ∀ c ∈ a, P c) : ∀ l : List (List Nat), (∀ x ∈ l, ∀ c ∈ x, P c) → ∀ c ∈ joinL a l, P c
  | [], _ => fun c h => by cases h
  | [x], h => h x (by simp)
  | x :: y :: r, h => fun c hc => by
    have ih := joinL_all a ha (y :: r) (fun z hz => h z (List.mem_cons_of_mem _ hz))
    have hc : c ∈ x ++ a ++ joinL a (y :: r) := hc
    rw [List.mem_append, List.mem_append] at hc
    rcases hc with (hc | hc) | hc
    · exact h x (by simp) c hc
    · exact ha c hc
    · exact ih c hc
section
variable {W : Wd} {Φ : Ph} {C : Ct} {k : Nat} {Wx : WX} {X : Cx}
theorem se_join (g : Gd W Φ C k Wx X) {o e : Expr} {ap cp : Pos} {ro re : Env → Hs → R D} (hb : baseOk o = true) (hl : (ap.endLine == cp.line) = true) (ho : PE X o (tR W Wx ro)) (he : PE X e (tR W Wx re)) (hs : isStar e = false) :
    PE X (.Call (.Attribute o "join" ap) [e] [] cp) (tR W Wx fun ρ S => (ro ρ S).bind fun x S => match x with
      | .str _ => (re ρ S).bind fun y S => .of S (joinD x y S)
      | _ => .bad) := by
  refine PE.imp (pe_join ho he (by rw [star_cons hs]; rfl) (base_ok hb) hl) fun σ H Q h => ?_
  obtain ⟨ρ, S, μ, ν, hr, en, h2⟩ := tG_bind (Rel := RelD W) h
  refine ⟨ρ, S, μ, ν, hr, en, h2.imp fun x H1 ⟨ρ1, dx, S1, μ1, ν1, hr1, en1, rx, h3⟩ => ?_⟩
  dsimp only at h3
  split at h3
  case h_2 => exact h3.elim
  rename_i s
  cases rx with
  | str _ hs1 hs2 =>
  refine ⟨⟨_, rfl⟩, ρ1, S1, μ1, ν1, hr1, en1, (Fin.bind (Rel := RelD W ν1) h3).imp fun y H2 ⟨dy, S2, μ2, m2, hr2, ry, h4⟩ => ?_⟩
  obtain ⟨d, e1, q⟩ := Fin.of h4
  unfold joinD at e1
  dsimp only at e1
  split at e1
  case h_2 => cases e1
  rename_i ss hss
  split at e1
  case isFalse => cases e1
  rename_i hf
  cases e1
  rw [Option.bind_eq_some_iff] at hss
  obtain ⟨l, hl1, hl2⟩ := hss
  have hf := Nat.le_of_ble_eq_true hf
  have fin : ∀ (p : Addr) (vs : List V), Rps W μ2 ν1 H2 vs l → y = .ref p → (SqL X.K H2 p vs ∨ SqT X.K H2 p vs) → ∃ a p, ∃ ys : List Str, (V.str ⟨s.toArray⟩) = .str a ∧ [y] = [.ref p] ∧ (SqL X.K H2 p (ys.map V.str) ∨ SqT X.K H2 p (ys.map V.str)) ∧ (ys.map (·.length)).sum + ys.length * a.length ≤ 16777216 ∧ Q (.str (Txt.join a ys)) H2 := by
    intro p vs rv ey hq
    obtain ⟨ev, hall⟩ := allStr_of rv hl2
    have e2 : vs = (ss.map SX.S).map V.str := by rw [ev, List.map_map]; rfl
    have e3 : ((ss.map SX.S).map (·.length)) = ss.map (·.length) := by rw [List.map_map]; congr 1
    refine ⟨_, p, ss.map SX.S, rfl, by rw [ey], by rw [← e2]; exact hq, ?_, ?_⟩
    · rw [e3, List.length_map]
      exact hf
    · rw [show (⟨s.toArray⟩ : Str) = SX.S s from rfl, SX.join_S, ← joinL_TL]
      exact q _ _ _ .refl hr2 (.str _ (Nat.le_trans (joinL_len s ss) hf) (joinL_all s hs2 ss fun x hx => (hall x hx).2))
  cases ry with
  | tup ht rr =>
    cases hl1
    exact fin _ _ rr rfl (.inr (g.hK ▸ ht.seq))
  | lst h0 h1 h2 rr =>
    cases hl1
    exact fin _ _ rr rfl (.inl (.inl (.inl h0)))
  | cell hm =>
    dsimp only [listD] at hl1
    obtain ⟨_, vs, hv, rr⟩ := hr2.read hm hl1
    exact fin _ vs rr rfl (.inl (.inl (.inl hv)))
  | _ => dsimp only [listD] at hl1; cases hl1
end
end EW

/-! EW, part 8: targets, what is walked, comprehensions; the checker's theorem for expressions. -/
namespace EW
open PySem PySem.Spec PyProof.Rows L2

/-! ### targets -/
/-- a tuple's or a list's items stored -/
def gTL (K : PySem.W.Frag) (n : Nat) (t : TGs) : TG := fun v σ H Q => gTup K n t v σ H Q ∨ gUnl K n t v σ H Q
theorem pg_tl {X : Cx} {es : List Expr} {k : Nat} {pos : Pos} {t : TGs} {n : Nat} (hc : X.calm = true ∨ ∃ x1, HX X x1) (h : PGs X es t)
    (hn : (assignEach es X.env).length = n) (hst : (assignEach es X.env).findIdx? (·.1) = none) : PG X (.Tuple es k pos) (gTL X.K n t) :=
  ⟨fun pins s σ H v u Q I r hw => hw.elim (fun hw => hc.elim (fun hc => (pg_tup hc h hn hst).run pins s σ H v u Q I r hw) fun ⟨_, hx⟩ => (pg_tupX hx h hn hst).run pins s σ H v u Q I r hw) fun hw => hc.elim (fun hc => (pg_unl hc h hn hst).run pins s σ H v u Q I r hw) fun ⟨_, hx⟩ => (pg_unlX hx h hn hst).run pins s σ H v u Q I r hw⟩
mutual
def gT (K : PySem.W.Frag) : T → TG
  | .nm i => gName i
  | .tup ts => gTL K ts.length (gTs K ts)
  | .sub _ _ => fun _ _ _ _ => False
def gTs (K : PySem.W.Frag) : List T → TGs
  | [] => gNil
  | t :: ts => gCons (gT K t) (gTs K ts)
end
/-- slots outside own stand as they stood -/
def Out (own : List Nat) (σ σ' : L2.St) : Prop := σ'.length = σ.length ∧ ∀ j, j ∉ own → σ'[j]? = σ[j]?
theorem Out.refl {own : List Nat} {σ : L2.St} : Out own σ σ := ⟨rfl, fun _ _ => rfl⟩
theorem Out.trans {own : List Nat} {σ σ1 σ2 : L2.St} (a : Out own σ σ1) (b : Out own σ1 σ2) : Out own σ σ2 := ⟨b.1.trans a.1, fun j h => (b.2 j h).trans (a.2 j h)⟩
theorem Out.set {own : List Nat} {σ : L2.St} {i : Nat} {v : Option V} (h : i ∈ own) : Out own σ (σ.set i v) := ⟨by simp, fun j hj => by rw [List.getElem?_set_ne (show i ≠ j from fun e => hj (by rw [← e]; exact h))]⟩

section
variable {W : Wd} {Φ : Ph} {C : Ct} {k : Nat} {Wx : WX} {X : Cx}
theorem chkT_go_len {f : Expr → T → Bool} : ∀ {es : List Expr} {ts : List T}, chkT.go f es ts = true → es.length = ts.length
  | [], [], _ => rfl
  | [], _ :: _, h => by simp [chkT.go] at h
  | _ :: _, [], h => by simp [chkT.go] at h
  | e :: es, t :: ts, h => by
    simp only [chkT.go, Bool.and_eq_true] at h
    rw [List.length_cons, List.length_cons, chkT_go_len h.2]
theorem asg_cons {e : Expr} {es : List Expr} {env : PySem.Env} (h : isStar e = false) : assignEach (e :: es) env = (false, assign e env) :: assignEach es env := by
  cases e <;> first | rfl | cases h
theorem chkT_star {n : Nat} {own : List Nat} {e : Expr} {t : T} (h : chkT n C own e t = true) : isStar e = false := by
  cases n with
  | zero => cases h
  | succ n => cases e <;> first | rfl | (unfold chkT at h; simp at h)
theorem asg_len {n : Nat} {own : List Nat} {env : PySem.Env} : ∀ {es : List Expr} {ts : List T}, chkT.go (chkT n C own) es ts = true → (assignEach es env).length = es.length ∧ (assignEach es env).findIdx? (·.1) = none
  | [], _, _ => ⟨rfl, rfl⟩
  | e :: es, [], h => by simp [chkT.go] at h
  | e :: es, t :: ts, h => by
    simp only [chkT.go, Bool.and_eq_true] at h
    rw [asg_cons (chkT_star h.1)]
    obtain ⟨h1, h2⟩ := asg_len (env := env) h.2
    refine ⟨by rw [List.length_cons, List.length_cons, h1], ?_⟩
    rw [List.findIdx?_cons]
    simp [h2]
mutual
theorem pg_of (nd : X.N.Nodup) (hN : X.N = C.N) (hsc : ∀ x, (C.sc.lookup x = some .local → X.env.scope.names.lookup x = some .local) ∧ (C.sc.lookup x = some .cell → X.env.scope.names.lookup x = some .cell ∧ X.fn x = true)) (calm : X.calm = true ∨ ∃ x1, HX X x1) {own : List Nat} : ∀ (n : Nat) (t : T) (e : Expr), chkT n C own e t = true → PG X e (gT X.K t)
  | 0, _, _, h => by cases h
  | n + 1, .nm i, e, h => by
    cases e <;> first | (unfold chkT at h; simp at h; done) | skip
    rename_i x p
    unfold chkT at h
    simp only [Bool.and_eq_true, decide_eq_true_eq] at h
    obtain ⟨⟨h1, h2⟩, h3⟩ := h
    have hx : L2.Loc X.env.scope x ∧ (X.fn x = true ∨ X.env.scope.names.lookup x = some .local) := by
      unfold L2.Loc
      split at h2
      · rename_i q; exact ⟨.inl ((hsc x).1 q), .inr ((hsc x).1 q)⟩
      · rename_i q; exact ⟨.inr ((hsc x).2 q).1, .inl ((hsc x).2 q).2⟩
      · cases h2
    exact pg_name nd (by rw [hN]; exact h1) hx.1 hx.2
  | n + 1, .tup ts, e, h => by
    cases e <;> first | (unfold chkT at h; simp at h; done) | skip
    rename_i es j p
    unfold chkT at h
    obtain ⟨h1, h2⟩ := asg_len (env := X.env) h
    exact pg_tl calm (pgs_of nd hN hsc calm n ts es h) (h1.trans (chkT_go_len h)) h2
  | n + 1, .sub _ _, e, h => by cases e <;> (unfold chkT at h; simp at h)
theorem pgs_of (nd : X.N.Nodup) (hN : X.N = C.N) (hsc : ∀ x, (C.sc.lookup x = some .local → X.env.scope.names.lookup x = some .local) ∧ (C.sc.lookup x = some .cell → X.env.scope.names.lookup x = some .cell ∧ X.fn x = true)) (calm : X.calm = true ∨ ∃ x1, HX X x1) {own : List Nat} : ∀ (n : Nat) (ts : List T) (es : List Expr), chkT.go (chkT n C own) es ts = true → PGs X es (gTs X.K ts)
  | _, [], [], _ => pgs_nil
  | _, [], _ :: _, h => by simp [chkT.go] at h
  | _, _ :: _, [], h => by simp [chkT.go] at h
  | n, t :: ts, e :: es, h => by
    simp only [chkT.go, Bool.and_eq_true] at h
    exact pgs_cons (pg_of nd hN hsc calm n t e h.1) (pgs_of nd hN hsc calm n ts es h.2) (by rw [asg_cons (chkT_star h.1)]; rfl)
end

mutual
/-- a value stored at names: as the interpreter stores it -/
theorem gT_ok {own : List Nat} {μ ν : List Addr} {H : Hp} : ∀ (n m : Nat) (t : T) (e : Expr) (d : D) (v : V) (σ : L2.St) (ρ ρ' : Env) (Q : L2.St → Hp → Prop), chkT n C own e t = true → setN m t d ρ = some ρ' → Rp W μ ν H v d → En W μ ν H σ ρ →
    (∀ σ', En W μ ν H σ' ρ' → Out own σ σ' → Q σ' H) → gT W.K t v σ H Q
  | 0, _, _, _, _, _, _, _, _, _, h, _, _, _, _ => by cases h
  | _, 0, _, _, _, _, _, _, _, _, _, h, _, _, _ => by cases h
  | n + 1, m + 1, .nm i, e, d, v, σ, ρ, ρ', Q, h, hs, rv, en, q => by
    cases e <;> first | (unfold chkT at h; simp at h; done) | skip
    unfold chkT at h
    simp only [Bool.and_eq_true, decide_eq_true_eq] at h
    simp only [setN] at hs
    split at hs
    · cases hs
      exact q _ (en.set rv) (Out.set (by simpa using h.2))
    · cases hs
  | n + 1, m + 1, .tup ts, e, d, v, σ, ρ, ρ', Q, h, hs, rv, en, q => by
    cases e <;> first | (unfold chkT at h; simp at h; done) | skip
    unfold chkT at h
    cases rv <;> simp only [setN] at hs <;> try (cases hs; done)
    · rename_i ht rs
      exact .inl ⟨_, _, rfl, ht.seq, by rw [rs.length]; exact (setNs_len hs).symm, gTs_ok n m ts _ _ _ σ ρ ρ' Q h hs rs en q⟩
    · rename_i h0 h1 h2 rs
      exact .inr ⟨_, _, rfl, .inl (.inl h0), by rw [rs.length]; exact (setNs_len hs).symm, gTs_ok n m ts _ _ _ σ ρ ρ' Q h hs rs en q⟩
  | n + 1, m + 1, .sub _ _, _, _, _, _, _, _, _, _, hs, _, _, _ => by simp [setN] at hs
theorem gTs_ok {own : List Nat} {μ ν : List Addr} {H : Hp} : ∀ (n m : Nat) (ts : List T) (es : List Expr) (ds : List D) (vs : List V) (σ : L2.St) (ρ ρ' : Env) (Q : L2.St → Hp → Prop), chkT.go (chkT n C own) es ts = true → setN.setNs (setN m) ts ds ρ = some ρ' → Rps W μ ν H vs ds → En W μ ν H σ ρ →
    (∀ σ', En W μ ν H σ' ρ' → Out own σ σ' → Q σ' H) → gTs W.K ts vs σ H Q
  | _, _, [], [], [], _, σ, ρ, ρ', Q, _, hs, .nil, en, q => by
    simp only [setN.setNs, Option.some.injEq] at hs
    subst hs
    exact ⟨rfl, q σ en .refl⟩
  | _, _, [], [], _ :: _, _, _, _, _, _, _, hs, _, _, _ => by simp [setN.setNs] at hs
  | _, _, [], _ :: _, _, _, _, _, _, _, h, _, _, _, _ => by simp [chkT.go] at h
  | _, _, _ :: _, [], _, _, _, _, _, _, h, _, _, _, _ => by simp [chkT.go] at h
  | _, _, _ :: _, _ :: _, [], _, _, _, _, _, _, hs, _, _, _ => by simp [setN.setNs] at hs
  | n, m, t :: ts, e :: es, d :: ds, _, σ, ρ, ρ', Q, h, hs, .cons rv rs, en, q => by
    simp only [chkT.go, Bool.and_eq_true] at h
    simp only [setN.setNs, Option.bind_eq_some_iff] at hs
    obtain ⟨ρ1, h1, h2⟩ := hs
    exact ⟨_, _, rfl, gT_ok n m t e d _ σ ρ ρ1 _ h.1 h1 rv en fun σ1 en1 o1 => gTs_ok n m ts es ds _ σ1 ρ1 ρ' Q h.2 h2 rs en1 fun σ2 en2 o2 => q σ2 en2 (o1.trans o2)⟩
theorem setNs_len {m : Nat} : ∀ {ts : List T} {ds : List D} {ρ ρ' : Env}, setN.setNs (setN m) ts ds ρ = some ρ' → ts.length = ds.length
  | [], [], _, _, _ => rfl
  | [], _ :: _, _, _, h => by simp [setN.setNs] at h
  | _ :: _, [], _, _, h => by simp [setN.setNs] at h
  | t :: ts, d :: ds, ρ, ρ', h => by
    simp only [setN.setNs, Option.bind_eq_some_iff] at h
    obtain ⟨ρ1, _, h2⟩ := h
    rw [List.length_cons, List.length_cons, setNs_len h2]
end
end
end EW

/-! EW, part 9: what is walked. -/
namespace EW
open PySem PySem.Spec PyProof.Rows L2

/-- ν' adds to ν nothing that stood at H -/
def Nu (ν : List Addr) (H : Hp) (ν' : List Addr) : Prop := ∀ a ∈ ν', a ∈ ν ∨ H a = none
theorem Nu.refl {ν : List Addr} {H : Hp} : Nu ν H ν := fun _ h => .inl h
theorem STup.nu {K : PySem.W.Frag} {μ ν ν' : List Addr} {H : Hp} {a : Addr} {vs : List V} (n : Nu ν H ν') (h : STup K μ ν H a vs) : STup K μ ν' H a vs := by
  rcases h with ⟨h, h1, h2⟩ | h
  · refine .inl ⟨h, h1, fun z => ?_⟩
    rcases n a z with q | q
    · exact h2 q
    · rw [h] at q; cases q
  · exact .inr h
mutual
theorem Rp.nu {W : Wd} {μ ν ν' : List Addr} {H : Hp} (n : Nu ν H ν') : ∀ {v : V} {d : D}, Rp W μ ν H v d → Rp W μ ν' H v d
  | _, _, .non => .non
  | _, _, .bl b => .bl b
  | _, _, .int i => .int i
  | _, _, .str l h h2 => .str l h h2
  | _, _, .tup h r => .tup (h.nu n) (Rps.nu n r)
  | _, _, .lst h h1 h2 r => .lst h h1 (fun z => (n _ z).elim h2 fun q => by rw [h] at q; cases q) (Rps.nu n r)
  | _, _, .scr h => .scr (by
    rcases h with h | ⟨h, h1, h2⟩ | h
    · exact .inl h
    · exact .inr (.inl ⟨h, h1, fun z => (n _ z).elim h2 fun q => by rw [h] at q; cases q⟩)
    · exact .inr (.inr h))
  | _, _, .cell h => .cell h
  | _, _, .fn n => .fn n
  | _, _, .cls n => .cls n
  | _, _, .exn h => .exn h
  | _, _, .dicK h h1 h2 k r => .dicK h h1 (fun z => (n _ z).elim h2 fun q => by rcases h with h | ⟨o, h⟩ <;> (rw [h] at q; cases q)) k (Rps.nu n r)
  | _, _, .dicT h h1 h2 k r => .dicT h h1 (fun z => (n _ z).elim h2 fun q => by rcases h with h | ⟨o, h⟩ <;> (rw [h] at q; cases q)) k (Rps.nu n r)
theorem Rps.nu {W : Wd} {μ ν ν' : List Addr} {H : Hp} (n : Nu ν H ν') : ∀ {vs : List V} {ds : List D}, Rps W μ ν H vs ds → Rps W μ ν' H vs ds
  | _, _, .nil => .nil
  | _, _, .cons h r => .cons (Rp.nu n h) (Rps.nu n r)
end

theorem notin_app {μ ν : List Addr} {a b : Addr} (h1 : a ∉ μ) (h2 : a ∉ b :: ν) : a ∉ μ ++ [b] := fun z => by
  rcases List.mem_append.mp z with z | z
  · exact h1 z
  · rw [List.mem_singleton] at z
    exact h2 (by rw [z]; exact List.mem_cons_self)
mutual
/-- a filled place becomes a cell -/
theorem Rp.turn {W : Wd} {μ ν : List Addr} {H : Hp} {b : Addr} {vs0 : List V} (hb : H b = some (.lst vs0)) : ∀ {v : V} {d : D}, Rp W μ (b :: ν) H v d → Rp W (μ ++ [b]) ν H v d
  | _, _, .non => .non
  | _, _, .bl b => .bl b
  | _, _, .int i => .int i
  | _, _, .str l h h2 => .str l h h2
  | _, _, .tup (.inl ⟨h, h1, h2⟩) r => .tup (.inl ⟨h, notin_app h1 h2, fun z => h2 (List.mem_cons_of_mem _ z)⟩) (Rps.turn hb r)
  | _, _, .tup (.inr h) r => .tup (.inr h) (Rps.turn hb r)
  | _, _, .lst h h1 h2 r => .lst h (notin_app h1 h2) (fun z => h2 (List.mem_cons_of_mem _ z)) (Rps.turn hb r)
  | _, _, .scr (.inl ⟨⟨o, h⟩, h1⟩) => .scr (.inl ⟨⟨o, h⟩, fun z => by
    rcases List.mem_append.mp z with z | z
    · exact h1 z
    · rw [List.mem_singleton] at z
      rw [z, hb] at h
      cases h⟩)
  | _, _, .scr (.inr (.inl ⟨h, h1, h2⟩)) => .scr (.inr (.inl ⟨h, notin_app h1 h2, fun z => h2 (List.mem_cons_of_mem _ z)⟩))
  | _, _, .scr (.inr (.inr h)) => .scr (.inr (.inr h))
  | _, _, .cell h => .cell (by rw [List.getElem?_append_left (List.getElem?_eq_some_iff.mp h).1]; exact h)
  | _, _, .fn n => .fn n
  | _, _, .cls n => .cls n
  | _, _, .exn h => .exn h
  | _, _, .dicK h h1 h2 kk r => .dicK h (notin_app h1 h2) (fun z => h2 (List.mem_cons_of_mem _ z)) kk (Rps.turn hb r)
  | _, _, .dicT h h1 h2 kk r => .dicT h (notin_app h1 h2) (fun z => h2 (List.mem_cons_of_mem _ z)) kk (Rps.turn hb r)
theorem Rps.turn {W : Wd} {μ ν : List Addr} {H : Hp} {b : Addr} {vs0 : List V} (hb : H b = some (.lst vs0)) : ∀ {vs : List V} {ds : List D}, Rps W μ (b :: ν) H vs ds → Rps W (μ ++ [b]) ν H vs ds
  | _, _, .nil => .nil
  | _, _, .cons h r => .cons (Rp.turn hb h) (Rps.turn hb r)
end
theorem CellR.turn {W : Wd} {μ ν : List Addr} {H : Hp} {a b : Addr} {c : Cell} {vs0 : List V} (hb : H b = some (.lst vs0)) (h : CellR W μ (b :: ν) H a c) : CellR W (μ ++ [b]) ν H a c := by
  cases c with
  | lst ds => obtain ⟨f, vs, hv, r⟩ := h; exact ⟨f, vs, hv, Rps.turn hb r⟩
  | dic t ks ws => cases t <;> (obtain ⟨f, kvs, hv, kk, r⟩ := h; exact ⟨f, kvs, hv, kk, Rps.turn hb r⟩)
theorem HR.grow {W : Wd} {μ ν μ1 : List Addr} {S : Hs} {H H1 : Hp} {b : Addr} {vs : List V} {ds : List D} (h : HR W μ (b :: ν) S H) (hb : H b = some (.lst vs)) (hn : H1 b = none) (m : Mo μ1 H1 μ H) (r : Rps W μ (b :: ν) H vs ds) (f : D.flats ds = true) (hbν : b ∉ ν) :
    Mo μ1 H1 (μ ++ [b]) H ∧ HR W (μ ++ [b]) ν (S ++ [.lst ds]) H := by
  have hbμ : b ∉ μ := (h.dj b (by simp)).1
  refine ⟨⟨m.pre.trans (List.prefix_append _ _), fun a o e h1 => ?_⟩, ⟨by simp [h.len], ?_, fun a ha => ?_, h.tabs, fun n a c e1 e2 => ?_⟩⟩
  · obtain ⟨p, q⟩ := m.stq a o e h1
    refine ⟨p, fun z => ?_⟩
    rcases List.mem_append.mp z with z | z
    · exact q z
    · rw [List.mem_singleton] at z
      rw [z, hn] at e
      cases e
  · rw [List.nodup_append]
    refine ⟨h.nd, by simp, fun a ha c hc => ?_⟩
    rw [List.mem_singleton] at hc
    subst hc
    exact fun e => hbμ (e ▸ ha)
  · obtain ⟨p, q⟩ := h.dj a (List.mem_cons_of_mem _ ha)
    refine ⟨fun z => ?_, q⟩
    rcases List.mem_append.mp z with z | z
    · exact p z
    · rw [List.mem_singleton] at z
      exact hbν (z ▸ ha)
  · by_cases hl : n < μ.length
    · rw [List.getElem?_append_left hl] at e1
      rw [List.getElem?_append_left (by rw [← h.len]; exact hl)] at e2
      exact (h.cell n a c e1 e2).turn hb
    · have hl : n = μ.length := by
        have := (List.getElem?_eq_some_iff.mp e1).1
        rw [List.length_append, List.length_singleton] at this
        omega
      subst hl
      rw [List.getElem?_append_right (Nat.le_refl _), Nat.sub_self] at e1
      rw [h.len, List.getElem?_append_right (Nat.le_refl _), Nat.sub_self] at e2
      cases e1
      cases e2
      exact ⟨f, vs, hb, Rps.turn hb r⟩
mutual
/-- a place that is being filled changes -/
theorem Rp.swap {W : Wd} {μ ν : List Addr} {H H' : Hp} (k : ∀ a, a ∉ ν → H' a = H a) (kf : ∀ (a : Addr) (o : Obj) (u : HO), H a = some (.frz o u) → H' a = some (.frz o u)) : ∀ {v : V} {d : D}, Rp W μ ν H v d → Rp W μ ν H' v d
  | _, _, .non => .non
  | _, _, .bl b => .bl b
  | _, _, .int i => .int i
  | _, _, .str l h h2 => .str l h h2
  | _, _, .tup (.inl ⟨h, h1, h2⟩) r => .tup (.inl ⟨(k _ h2).trans h, h1, h2⟩) (Rps.swap k kf r)
  | _, _, .tup (.inr h) r => .tup (.inr h) (Rps.swap k kf r)
  | _, _, .lst h h1 h2 r => .lst ((k _ h2).trans h) h1 h2 (Rps.swap k kf r)
  | _, _, .scr (.inl ⟨⟨o, h⟩, h1⟩) => .scr (.inl ⟨⟨o, kf _ _ _ h⟩, h1⟩)
  | _, _, .scr (.inr (.inl ⟨h, h1, h2⟩)) => .scr (.inr (.inl ⟨(k _ h2).trans h, h1, h2⟩))
  | _, _, .scr (.inr (.inr h)) => .scr (.inr (.inr h))
  | _, _, .cell h => .cell h
  | _, _, .fn n => .fn n
  | _, _, .cls n => .cls n
  | _, _, .exn h => .exn h
  | _, _, .dicK h h1 h2 kk r => .dicK (by unfold Rd; rw [k _ h2]; exact h) h1 h2 kk (Rps.swap k kf r)
  | _, _, .dicT h h1 h2 kk r => .dicT (by unfold Rd; rw [k _ h2]; exact h) h1 h2 kk (Rps.swap k kf r)
theorem Rps.swap {W : Wd} {μ ν : List Addr} {H H' : Hp} (k : ∀ a, a ∉ ν → H' a = H a) (kf : ∀ (a : Addr) (o : Obj) (u : HO), H a = some (.frz o u) → H' a = some (.frz o u)) : ∀ {vs : List V} {ds : List D}, Rps W μ ν H vs ds → Rps W μ ν H' vs ds
  | _, _, .nil => .nil
  | _, _, .cons h r => .cons (Rp.swap k kf h) (Rps.swap k kf r)
end
theorem CellR.nu {W : Wd} {μ ν ν' : List Addr} {H : Hp} {a : Addr} {c : Cell} (n : Nu ν H ν') (h : CellR W μ ν H a c) : CellR W μ ν' H a c := by
  cases c with
  | lst ds => obtain ⟨f, vs, hv, r⟩ := h; exact ⟨f, vs, hv, r.nu n⟩
  | dic t ks ws => cases t <;> (obtain ⟨f, kvs, hv, k, r⟩ := h; exact ⟨f, kvs, hv, k, r.nu n⟩)
theorem CellR.swap {W : Wd} {μ ν : List Addr} {H H' : Hp} {a : Addr} {c : Cell} (k : ∀ a, a ∉ ν → H' a = H a) (kf : ∀ (a : Addr) (o : Obj) (u : HO), H a = some (.frz o u) → H' a = some (.frz o u)) (hz : H' a = H a) (h : CellR W μ ν H a c) : CellR W μ ν H' a c := by
  cases c with
  | lst ds => obtain ⟨f, vs, hv, r⟩ := h; exact ⟨f, vs, by rw [hz]; exact hv, Rps.swap k kf r⟩
  | dic t ks ws => cases t <;> (obtain ⟨f, kvs, hv, kk, r⟩ := h; exact ⟨f, kvs, by rw [hz]; exact hv, kk, Rps.swap k kf r⟩)
theorem Rps.of_all {W : Wd} {μ ν μ' ν' : List Addr} {H H' : Hp} (f : ∀ v d, Rp W μ ν H v d → Rp W μ' ν' H' v d) : ∀ {vs : List V} {ds : List D}, Rps W μ ν H vs ds → Rps W μ' ν' H' vs ds
  | _, _, .nil => .nil
  | _, _, .cons h r => .cons (f _ _ h) (Rps.of_all f r)

/-- the walk J yields what w tells, whatever else happens -/
structure ItOk (W : Wd) (ν μ0 : List Addr) (H0 : Hp) (J : It) (w : Wk) : Prop where
  go : ∀ (i : Nat) (d : D) (μ ν' : List Addr) (S : Hs) (H : Hp), w.at i S = some (some d) → Mo μ0 H0 μ H → Nu ν H0 ν' → HR W μ ν' S H → J.go i H ∧ ∀ x H', J.yld i H x H' → Mo μ H μ H' ∧ HR W μ ν' S H' ∧ Rp W μ ν' H' x d
  stop : ∀ (i : Nat) (μ ν' : List Addr) (S : Hs) (H : Hp), w.at i S = some none → Mo μ0 H0 μ H → Nu ν H0 ν' → HR W μ ν' S H → J.stop i H
/-- a is a sequence of kind k with the items that w tells -/
def SqW (W : Wd) (ν μ0 : List Addr) (H0 : Hp) (k : SK) (a : Addr) (w : Wk) : Prop :=
  ∀ (μ ν' : List Addr) (S : Hs) (H : Hp) (i : Nat) (o : Option D), w.at i S = some o → Mo μ0 H0 μ H → Nu ν H0 ν' → HR W μ ν' S H → ∃ vs, SqK W.K k H a vs ∧ i ≤ vs.length ∧ (match o with
    | some d => ∃ v, vs[i]? = some v ∧ Rp W μ ν' H v d
    | none => i = vs.length)
theorem at_vals {l : List D} {i : Nat} {S : Hs} {o : Option D} (h : (Wk.vals l).at i S = some o) : i ≤ l.length ∧ l[i]? = o := by
  simp only [Wk.at] at h
  split at h
  · rename_i q; cases h; exact ⟨Nat.le_of_ble_eq_true q, rfl⟩
  · cases h

theorem PI.or {X : Cx} {tg e : Expr} {w1 w2 : TI} (h1 : PI X tg e w1) (h2 : PI X tg e w2) : PI X tg e (fun σ H R => w1 σ H R ∨ w2 σ H R) := ⟨fun pins s σ H R I q => q.elim (h1.run pins s σ H R I) (h2.run pins s σ H R I)⟩
theorem PI.imp {X : Cx} {tg e : Expr} {w1 w2 : TI} (h1 : PI X tg e w1) (i : ∀ σ H R, w2 σ H R → w1 σ H R) : PI X tg e w2 := ⟨fun pins s σ H R I q => h1.run pins s σ H R I (i σ H R q)⟩

section
variable {W : Wd} {Φ : Ph} {C : Ct} {k : Nat} {Wx : WX} {X : Cx}
theorem sq_vals {μ ν : List Addr} {H : Hp} {k : SK} {a : Addr} {vs : List V} {ds : List D} (h : ∀ μ1 H1, Mo μ H μ1 H1 → SqK W.K k H1 a vs) (r : Rps W μ ν H vs ds) : SqW W ν μ H k a (.vals ds) := fun μ1 ν' S H1 i o e m n hr => by
  obtain ⟨h1, h2⟩ := at_vals e
  refine ⟨vs, h μ1 H1 m, by rw [r.length]; exact h1, ?_⟩
  cases o with
  | some d =>
    obtain ⟨v, e1, rv⟩ := r.get h2
    exact ⟨v, e1, (rv.nu n).mo m⟩
  | none =>
    have := List.getElem?_eq_none_iff.mp h2
    show i = vs.length
    rw [r.length]; omega
theorem sq_cell {μ ν : List Addr} {H : Hp} {a : Addr} {n : Nat} (h : μ[n]? = some a) : SqW W ν μ H .l a (.dyn fun i S => match cellL S n with
    | some l => if Nat.ble i l.length then some l[i]? else none
    | none => none) := fun μ1 ν' S H1 i o e m _ hr => by
  simp only [Wk.at] at e
  split at e
  · rename_i l hl
    split at e
    · rename_i hb
      cases e
      obtain ⟨_, vs, hv, rv⟩ := hr.read (pre_get m.pre h) hl
      refine ⟨vs, .inl (.inl hv), by rw [rv.length]; exact Nat.le_of_ble_eq_true hb, ?_⟩
      have hle := Nat.le_of_ble_eq_true hb
      cases q : l[i]? with
      | some d => obtain ⟨v, e1, r⟩ := rv.get q; exact ⟨v, e1, r⟩
      | none =>
        have := List.getElem?_eq_none_iff.mp q
        show i = vs.length
        rw [rv.length]; omega
    · cases e
  · cases e
/-- a sequence that is walked -/
theorem sq_of {μ ν : List Addr} {S : Hs} {H : Hp} {v : V} {d : D} {w : Wk} (hr : HR W μ ν S H) (rv : Rp W μ ν H v d) (e : walkS d S = some w) : ∃ k a vs, v = .ref a ∧ SqK W.K k H a vs ∧ SqW W ν μ H k a w := by
  cases rv <;> simp only [walkS, walkD, Option.some.injEq] at e <;> try (cases e; done)
  · rename_i hs rs
    subst e
    exact ⟨.t, _, _, rfl, hs.seq, sq_vals (k := .t) (fun μ1 H1 m => (hs.mo m).seq) rs⟩
  · rename_i h0 h1 h2 rs
    subst e
    exact ⟨.l, _, _, rfl, .inl (.inl h0), sq_vals (k := .l) (fun μ1 H1 m => .inl (.inl (m.stp _ _ h0 h1 id).1)) rs⟩
  · rename_i a n hn
    split at e
    · rename_i l hl
      cases e
      obtain ⟨_, vs, hv, _⟩ := hr.cell n a _ hn hl
      exact ⟨.l, a, vs, rfl, .inl (.inl hv), sq_cell hn⟩
    · cases e
theorem it_seqL {μ ν : List Addr} {H : Hp} {a : Addr} {w : Wk} (h : SqW W ν μ H .l a w) : ItOk W ν μ H (Itl W.K a) w := by
  refine ⟨fun i d μ1 ν' S H1 e m n hr => ?_, fun i μ1 ν' S H1 e m n hr => ?_⟩
  · obtain ⟨vs, h1, h2, v, e1, rv⟩ := h μ1 ν' S H1 i _ e m n hr
    refine ⟨⟨vs, v, h1, e1⟩, fun x H' hy => ?_⟩
    obtain ⟨rfl, hx⟩ := hy
    have := hx vs h1
    rw [e1] at this
    cases this
    exact ⟨.refl, hr, rv⟩
  · obtain ⟨vs, h1, h2, h3⟩ := h μ1 ν' S H1 i _ e m n hr
    exact ⟨vs, h1, Nat.le_of_eq h3.symm⟩
theorem it_seqT {μ ν : List Addr} {H : Hp} {a : Addr} {w : Wk} (h : SqW W ν μ H .t a w) : ItOk W ν μ H (Itt W.K a) w := by
  refine ⟨fun i d μ1 ν' S H1 e m n hr => ?_, fun i μ1 ν' S H1 e m n hr => ?_⟩
  · obtain ⟨vs, h1, h2, v, e1, rv⟩ := h μ1 ν' S H1 i _ e m n hr
    refine ⟨⟨vs, v, h1, e1⟩, fun x H' hy => ?_⟩
    obtain ⟨rfl, hx⟩ := hy
    have := hx vs h1
    rw [e1] at this
    cases this
    exact ⟨.refl, hr, rv⟩
  · obtain ⟨vs, h1, h2, h3⟩ := h μ1 ν' S H1 i _ e m n hr
    exact ⟨vs, h1, Nat.le_of_eq h3.symm⟩
/-- a new tuple of a turn -/
theorem fresh_tup {μ ν' : List Addr} {S : Hs} {H : Hp} {T : Addr} {vs : List V} {ds : List D} (hr : HR W μ ν' S H) (hT : H T = none) (r : Rps W μ ν' H vs ds) :
    Mo μ H μ (upd H T (.tup vs)) ∧ HR W μ ν' S (upd H T (.tup vs)) ∧ Rp W μ ν' (upd H T (.tup vs)) (.ref T) (.tup ds) :=
  ⟨Mo.alloc hT, hr.alloc hT, .tup (.inl ⟨upd_same, hr.fresh hT, hr.nfresh hT⟩) (r.mo (Mo.alloc hT))⟩
theorem enumL_get : ∀ (l : List D) (k : Int) (i : Nat), (enumL k l)[i]? = (l[i]?).map fun d => .tup [.int (k + i), d]
  | [], _, _ => by simp [enumL]
  | d :: r, k, 0 => by simp [enumL]
  | d :: r, k, i + 1 => by
    simp only [enumL, List.getElem?_cons_succ]
    rw [enumL_get r (k + 1) i]
    congr 1
    funext d
    congr 3
    omega
theorem enumL_len : ∀ (l : List D) (k : Int), (enumL k l).length = l.length
  | [], _ => rfl
  | d :: r, k => by rw [enumL, List.length_cons, List.length_cons, enumL_len r]
theorem enumW_at {w : Wk} {i : Nat} {S : Hs} : (enumW w).at i S = (w.at i S).map fun o => o.map fun d => .tup [.int (i : Nat), d] := by
  cases w with
  | vals l =>
    simp only [enumW, Wk.at, enumL_len, enumL_get]
    split
    · simp
    · rfl
  | dyn f => rfl
theorem it_enum {μ ν : List Addr} {H : Hp} {k : SK} {a : Addr} {w : Wk} (h : SqW W ν μ H k a w) : ItOk W ν μ H (ItE W.K k a) (enumW w) where
  go := fun i d μ1 ν' S H1 e m n hr => by
    rw [enumW_at, Option.map_eq_some_iff] at e
    obtain ⟨o, e, q⟩ := e
    rw [Option.map_eq_some_iff] at q
    obtain ⟨d', rfl, rfl⟩ := q
    obtain ⟨vs, h1, h2, v, e1, rv⟩ := h μ1 ν' S H1 i _ e m n hr
    refine ⟨⟨vs, v, h1, e1⟩, fun x H' hy => ?_⟩
    obtain ⟨T, y, rfl, hT, rfl, hx⟩ := hy
    have := hx vs h1
    rw [e1] at this
    cases this
    exact fresh_tup hr hT (.cons (.int _) (.cons rv .nil))
  stop := fun i μ1 ν' S H1 e m n hr => by
    rw [enumW_at, Option.map_eq_some_iff] at e
    obtain ⟨o, e, q⟩ := e
    rw [Option.map_eq_none_iff] at q
    subst q
    obtain ⟨vs, h1, h2, h3⟩ := h μ1 ν' S H1 i _ e m n hr
    exact ⟨vs, h1, h3.symm⟩
theorem zipL_get : ∀ (l m : List D) (i : Nat), (zipL l m)[i]? = match l[i]?, m[i]? with | some a, some b => some (.tup [a, b]) | _, _ => none
  | [], m, i => by simp [zipL]
  | a :: r, [], i => by
    simp only [zipL, List.getElem?_nil]
    cases (a :: r)[i]? <;> rfl
  | a :: r, b :: s, 0 => by simp [zipL]
  | a :: r, b :: s, i + 1 => by simp only [zipL, List.getElem?_cons_succ]; exact zipL_get r s i
theorem zipL_len : ∀ (l m : List D), (zipL l m).length = min l.length m.length
  | [], m => by simp [zipL]
  | a :: r, [] => by simp [zipL]
  | a :: r, b :: s => by simp only [zipL, List.length_cons]; rw [zipL_len r s]; omega
/-- both, or one is at its end -/
theorem zipW_at {w v : Wk} {i : Nat} {S : Hs} {o : Option D} (h : (zipW w v).at i S = some o) : ∃ o1 o2, w.at i S = some o1 ∧ v.at i S = some o2 ∧ (match o1, o2 with | some x, some y => o = some (.tup [x, y]) | _, _ => o = none) := by
  have gen : ∀ a b : Option (Option D), (match a, b with | some (some x), some (some y) => some (some (.tup [x, y])) | some _, some _ => some none | _, _ => none) = some o → ∃ o1 o2, a = some o1 ∧ b = some o2 ∧ (match o1, o2 with | some x, some y => o = some (.tup [x, y]) | _, _ => o = none) := by
    intro a b h
    rcases a with _ | a
    · cases b <;> cases h
    · rcases b with _ | b
      · cases a <;> cases h
      · refine ⟨a, b, rfl, rfl, ?_⟩
        cases a <;> cases b <;> (cases h; rfl)
  cases w with
  | dyn f => exact gen _ _ h
  | vals l => cases v with
    | dyn f => exact gen _ _ h
    | vals m =>
      obtain ⟨h1, h2⟩ := at_vals h
      rw [zipL_len] at h1
      have b1 : Nat.ble i l.length = true := Nat.ble_eq_true_of_le (by omega)
      have b2 : Nat.ble i m.length = true := Nat.ble_eq_true_of_le (by omega)
      refine ⟨l[i]?, m[i]?, by simp only [Wk.at, b1, if_true], by simp only [Wk.at, b2, if_true], ?_⟩
      rw [zipL_get] at h2
      cases q1 : l[i]? <;> cases q2 : m[i]? <;> rw [q1, q2] at h2 <;> exact h2.symm
theorem it_zip2 {μ ν : List Addr} {H : Hp} {k1 k2 : SK} {a b : Addr} {w v : Wk} (h : SqW W ν μ H k1 a w) (h' : SqW W ν μ H k2 b v) : ItOk W ν μ H (Itz2 W.K k1 k2 a b) (zipW w v) where
  go := fun i d μ1 ν' S H1 e m n hr => by
    obtain ⟨o1, o2, e1, e2, q⟩ := zipW_at e
    obtain ⟨vs, a1, a2, a3⟩ := h μ1 ν' S H1 i _ e1 m n hr
    obtain ⟨us, b1, b2, b3⟩ := h' μ1 ν' S H1 i _ e2 m n hr
    cases o1 with
    | none => cases q
    | some x => cases o2 with
      | none => cases q
      | some y =>
        cases q
        obtain ⟨vx, ex, rx⟩ := a3
        obtain ⟨vy, ey, ry⟩ := b3
        refine ⟨⟨vs, us, vx, vy, a1, b1, ex, ey⟩, fun x' H' hy => ?_⟩
        obtain ⟨T, x2, y2, rfl, hT, rfl, f1, f2⟩ := hy
        have g1 := f1 vs a1
        have g2 := f2 us b1
        rw [ex] at g1
        rw [ey] at g2
        cases g1
        cases g2
        exact fresh_tup hr hT (.cons rx (.cons ry .nil))
  stop := fun i μ1 ν' S H1 e m n hr => by
    obtain ⟨o1, o2, e1, e2, q⟩ := zipW_at e
    obtain ⟨vs, a1, a2, a3⟩ := h μ1 ν' S H1 i _ e1 m n hr
    obtain ⟨us, b1, b2, b3⟩ := h' μ1 ν' S H1 i _ e2 m n hr
    refine ⟨vs, us, a1, b1, a2, b2, ?_⟩
    cases o1 with
    | none => exact .inl a3
    | some x => cases o2 with
      | none => exact .inr b3
      | some y => cases q
theorem zip3L_get : ∀ (l m k : List D) (i : Nat), (zip3L l m k)[i]? = match l[i]?, m[i]?, k[i]? with | some a, some b, some c => some (.tup [a, b, c]) | _, _, _ => none
  | [], m, k, i => by simp [zip3L]
  | a :: r, [], k, i => by
    simp only [zip3L, List.getElem?_nil]
    cases (a :: r)[i]? <;> rfl
  | a :: r, b :: s, [], i => by
    simp only [zip3L, List.getElem?_nil]
    cases (a :: r)[i]? <;> cases (b :: s)[i]? <;> rfl
  | a :: r, b :: s, c :: t, 0 => by simp [zip3L]
  | a :: r, b :: s, c :: t, i + 1 => by simp only [zip3L, List.getElem?_cons_succ]; exact zip3L_get r s t i
theorem zip3L_len : ∀ (l m k : List D), (zip3L l m k).length = min l.length (min m.length k.length)
  | [], m, k => by simp [zip3L]
  | a :: r, [], k => by simp [zip3L]
  | a :: r, b :: s, [] => by simp [zip3L]
  | a :: r, b :: s, c :: t => by simp only [zip3L, List.length_cons]; rw [zip3L_len r s t]; omega
theorem zip3W_at {w v u : Wk} {i : Nat} {S : Hs} {o : Option D} (h : (zip3W w v u).at i S = some o) : ∃ o1 o2 o3, w.at i S = some o1 ∧ v.at i S = some o2 ∧ u.at i S = some o3 ∧ (match o1, o2, o3 with | some x, some y, some z => o = some (.tup [x, y, z]) | _, _, _ => o = none) := by
  have gen : ∀ a b c : Option (Option D), (match a, b, c with | some (some x), some (some y), some (some z) => some (some (.tup [x, y, z])) | some _, some _, some _ => some none | _, _, _ => none) = some o → ∃ o1 o2 o3, a = some o1 ∧ b = some o2 ∧ c = some o3 ∧ (match o1, o2, o3 with | some x, some y, some z => o = some (.tup [x, y, z]) | _, _, _ => o = none) := by
    intro a b c h
    rcases a with _ | a
    · cases b <;> cases c <;> cases h
    · rcases b with _ | b
      · cases a <;> cases c <;> cases h
      · rcases c with _ | c
        · cases a <;> cases b <;> cases h
        · refine ⟨a, b, c, rfl, rfl, rfl, ?_⟩
          cases a <;> cases b <;> cases c <;> (cases h; rfl)
  cases w with
  | dyn f => exact gen _ _ _ h
  | vals l => cases v with
    | dyn f => exact gen _ _ _ h
    | vals m => cases u with
      | dyn f => exact gen _ _ _ h
      | vals k =>
        obtain ⟨h1, h2⟩ := at_vals h
        rw [zip3L_len] at h1
        have b1 : Nat.ble i l.length = true := Nat.ble_eq_true_of_le (by omega)
        have b2 : Nat.ble i m.length = true := Nat.ble_eq_true_of_le (by omega)
        have b3 : Nat.ble i k.length = true := Nat.ble_eq_true_of_le (by omega)
        refine ⟨l[i]?, m[i]?, k[i]?, by simp only [Wk.at, b1, if_true], by simp only [Wk.at, b2, if_true], by simp only [Wk.at, b3, if_true], ?_⟩
        rw [zip3L_get] at h2
        cases q1 : l[i]? <;> cases q2 : m[i]? <;> cases q3 : k[i]? <;> rw [q1, q2, q3] at h2 <;> exact h2.symm
theorem it_zip3 {μ ν : List Addr} {H : Hp} {k1 k2 k3 : SK} {a b c : Addr} {w v u : Wk} (h : SqW W ν μ H k1 a w) (h' : SqW W ν μ H k2 b v) (h'' : SqW W ν μ H k3 c u) : ItOk W ν μ H (Itz3 W.K k1 k2 k3 a b c) (zip3W w v u) where
  go := fun i d μ1 ν' S H1 e m n hr => by
    obtain ⟨o1, o2, o3, e1, e2, e3, q⟩ := zip3W_at e
    obtain ⟨vs, a1, a2, a3⟩ := h μ1 ν' S H1 i _ e1 m n hr
    obtain ⟨us, b1, b2, b3⟩ := h' μ1 ν' S H1 i _ e2 m n hr
    obtain ⟨ws, c1, c2, c3⟩ := h'' μ1 ν' S H1 i _ e3 m n hr
    cases o1 with
    | none => cases q
    | some x => cases o2 with
      | none => cases q
      | some y => cases o3 with
        | none => cases q
        | some z =>
          cases q
          obtain ⟨vx, ex, rx⟩ := a3
          obtain ⟨vy, ey, ry⟩ := b3
          obtain ⟨vz, ez, rz⟩ := c3
          refine ⟨⟨vs, us, ws, vx, vy, vz, a1, b1, c1, ex, ey, ez⟩, fun x' H' hy => ?_⟩
          obtain ⟨T, x2, y2, z2, rfl, hT, rfl, f1, f2, f3⟩ := hy
          have g1 := f1 vs a1
          have g2 := f2 us b1
          have g3 := f3 ws c1
          rw [ex] at g1
          rw [ey] at g2
          rw [ez] at g3
          cases g1
          cases g2
          cases g3
          exact fresh_tup hr hT (.cons rx (.cons ry (.cons rz .nil)))
  stop := fun i μ1 ν' S H1 e m n hr => by
    obtain ⟨o1, o2, o3, e1, e2, e3, q⟩ := zip3W_at e
    obtain ⟨vs, a1, a2, a3⟩ := h μ1 ν' S H1 i _ e1 m n hr
    obtain ⟨us, b1, b2, b3⟩ := h' μ1 ν' S H1 i _ e2 m n hr
    obtain ⟨ws, c1, c2, c3⟩ := h'' μ1 ν' S H1 i _ e3 m n hr
    refine ⟨vs, us, ws, a1, b1, c1, a2, b2, c2, ?_⟩
    cases o1 with
    | none => exact .inl a3
    | some x => cases o2 with
      | none => exact .inr (.inl b3)
      | some y => cases o3 with
        | none => exact .inr (.inr c3)
        | some z => cases q
theorem rngL_get : ∀ (n : Nat) (lo : Int) (i : Nat) (d : D), (rngL lo n)[i]? = some d → i < n ∧ d = .int (lo + i)
  | 0, lo, i, d, h => by simp [rngL] at h
  | n + 1, lo, 0, d, h => by simp [rngL] at h; exact ⟨Nat.succ_pos _, by rw [← h]; simp⟩
  | n + 1, lo, i + 1, d, h => by
    simp only [rngL, List.getElem?_cons_succ] at h
    obtain ⟨h1, h2⟩ := rngL_get n (lo + 1) i d h
    refine ⟨Nat.succ_lt_succ h1, ?_⟩
    rw [h2]
    congr 1
    omega
theorem rngL_len : ∀ (n : Nat) (lo : Int), (rngL lo n).length = n
  | 0, _ => rfl
  | n + 1, lo => by rw [rngL, List.length_cons, rngL_len n]
theorem it_rng {μ ν : List Addr} {H : Hp} (lo : Int) (n : Nat) : ItOk W ν μ H (Itr lo n) (.vals (rngL lo n)) where
  go := fun i d μ1 ν' S H1 e m _ hr => by
    obtain ⟨_, e⟩ := at_vals e
    obtain ⟨h1, rfl⟩ := rngL_get n lo i d e
    refine ⟨h1, fun x H' hy => ?_⟩
    obtain ⟨rfl, rfl⟩ := hy
    exact ⟨.refl, hr, .int _⟩
  stop := fun i _ _ _ _ e _ _ _ => by
    obtain ⟨h1, h2⟩ := at_vals e
    have := List.getElem?_eq_none_iff.mp h2
    rw [rngL_len] at this
    exact this

abbrev tI (W : Wd) (Wx : WX) (r : Env → Hs → R Wk) : TI := tG W Wx (fun ν μ H J w => ItOk W ν μ H J w) r

theorem Ks.get : ∀ {k : List Key} {d : List D} {i : Nat} {x : D}, Ks k d → d[i]? = some x → ∃ y, k[i]? = some y ∧ KR y x
  | _, _, i, x, .nil, e => by simp at e
  | _, _, 0, x, .cons h _, e => by simp at e; subst e; exact ⟨_, rfl, h⟩
  | _, _, i + 1, x, .cons _ t, e => by simpa using Ks.get (i := i) t (by simpa using e)
theorem it_keys {ν μ : List Addr} {H : Hp} {a : Addr} {o : Obj} {kvs : List (Key × V)} {ks : List D} (h : H a = some (.frz o (.dK kvs))) (h1 : a ∉ μ) (k : Ks (kvs.map Prod.fst) ks) : ItOk W ν μ H (Itk a o kvs) (.vals ks) where
  go := fun i d μ1 ν' S H1 e m n hr => by
    obtain ⟨q1, q2⟩ := at_vals e
    have hH := (m.stp _ _ h h1 id).1
    obtain ⟨y, e1, kr⟩ := k.get q2
    rw [List.getElem?_map, Option.map_eq_some_iff] at e1
    obtain ⟨p, e2, rfl⟩ := e1
    refine ⟨⟨hH, (List.getElem?_eq_some_iff.mp e2).1⟩, fun x H' hy => ?_⟩
    obtain ⟨rfl, k', v', e3, rfl⟩ := hy
    rw [e2] at e3
    cases e3
    exact ⟨.refl, hr, kr.rp⟩
  stop := fun i μ1 ν' S H1 e m n hr => by
    obtain ⟨q1, q2⟩ := at_vals e
    have hH := (m.stp _ _ h h1 id).1
    have hl := k.length
    rw [List.length_map] at hl
    have := List.getElem?_eq_none_iff.mp q2
    exact ⟨hH, by omega⟩
/-- the keys of a dict: from now on it is locked -/
def iKeysL (td : TE) : TI := fun σ H R => td σ H fun x H1 => ∃ (d : Addr) (kvs : List (Key × V)), x = .ref d ∧ ((H1 d = some (.dK kvs) ∧ ∀ o, R (Itk d o kvs) (upd H1 d (.frz o (.dK kvs)))) ∨ ∃ o, H1 d = some (.frz o (.dK kvs)) ∧ R (Itk d o kvs) H1)
theorem pi_keysL {tg e : Expr} {td : TE} (he : PE X e td) : PI X tg e (iKeysL td) := by
  refine ⟨fun pins s σ H R I h => ?_⟩
  refine thn (he.run pins s σ H _ I h) fun u s1 ⟨x, H1, I1, rx, d, kvs, ex, q⟩ => ?_
  subst ex
  obtain rfl : u = Value.ref d := rx
  rcases q with ⟨hd, q⟩ | ⟨o, hd, q⟩
  · obtain ⟨o, I2⟩ := I1.lock hd trivial
    have q := q o
    have hd2 : upd H1 d (.frz o (.dK kvs)) d = some (.frz o (.dK kvs)) := upd_same
    generalize upd H1 d (.frz o (.dK kvs)) = H2 at *
    obtain ⟨hs, hgd, hx, es, ep, vs, hdt, hsz, kv, hm⟩ := I2.frzK hd2
    refine iter_keys hs hgd hx hdt (pi_one (tk := s1.toks) I2 _ (turn_keys _ hdt) ⟨_, Heap.get?_push_size _ rfl, rfl, ?_⟩ q)
    rw [hsz] <;> rfl
  · obtain ⟨hs, hgd, hx, es, ep, vs, hdt, hsz, kv, hm⟩ := I1.frzK hd
    refine iter_keys hs hgd hx hdt (pi_one (tk := s1.toks) I1 _ (turn_keys _ hdt) ⟨_, Heap.get?_push_size _ rfl, rfl, ?_⟩ q)
    rw [hsz] <;> rfl
/-- a dict that is no cell, locked -/
theorem Mo.lockD {μ : List Addr} {H : Hp} {a : Addr} {kvs : List (Key × V)} {o : Obj} (h : H a = some (.dK kvs)) (h1 : a ∉ μ) : Mo μ H μ (upd H a (.frz o (.dK kvs))) where
  pre := List.prefix_rfl
  stq := fun b x e hb => by
    by_cases z : b = a
    · subst z
      rw [h] at e; cases e
      exact ⟨.inr ⟨trivial, .inl ⟨fun _ z => (by cases z), o, upd_same⟩⟩, hb⟩
    · exact ⟨.inl (by rw [upd_ne z]; exact e), hb⟩
theorem HR.lockD {μ ν : List Addr} {S : Hs} {H : Hp} {a : Addr} {kvs : List (Key × V)} {o : Obj} (hr : HR W μ ν S H) (h : H a = some (.dK kvs)) (h1 : a ∉ μ) (h2 : a ∉ ν) : HR W μ ν S (upd H a (.frz o (.dK kvs))) :=
  hr.same (Mo.lockD h h1) (fun b hb => upd_ne fun z => h1 (z ▸ hb)) (fun b hb => upd_ne fun z => h2 (z ▸ hb)) (tabs_upd hr.tabs fun o e => by rw [h] at e; cases e; exact noT_dK)
theorem it_str {W : Wd} {μ ν : List Addr} {H : Hp} {l : List Nat} (h2 : ∀ c ∈ l, c < 1114112) : ItOk W ν μ H (Its ⟨l.toArray⟩) (.vals (l.map fun c => D.str [c])) where
  go := fun i d μ' ν' S H' e m nu hr => by
    obtain ⟨_, e⟩ := at_vals e
    rw [List.getElem?_map, Option.map_eq_some_iff] at e
    obtain ⟨c, hc, rfl⟩ := e
    have hi := (List.getElem?_eq_some_iff.mp hc).1
    refine ⟨by show i < l.toArray.size; simpa using hi, fun x H1 hy => ?_⟩
    obtain ⟨rfl, c', hc', rfl⟩ := hy
    have e2 : l[i]? = some c' := by simpa using hc'
    rw [hc] at e2
    cases e2
    exact ⟨.refl, hr, (.str [c] (by show 1 ≤ lim; decide) fun z hz => by rw [List.mem_singleton] at hz; subst hz; exact h2 z (List.mem_of_getElem? hc))⟩
  stop := fun i μ' ν' S H' e m nu hr => by
    obtain ⟨_, e⟩ := at_vals e
    rw [List.getElem?_map, Option.map_eq_none_iff, List.getElem?_eq_none_iff] at e
    show l.toArray.size ≤ i
    simpa using e
theorem si_seq (hK : W.K = X.K) {tg e : Expr} {r : Env → Hs → R D} (he : PE X e (tR W Wx r)) :
    PI X tg e (tI W Wx fun ρ S => (r ρ S).bind fun d S => .of S (walkA d S)) := PI.imp (PI.or (PI.or (pi_keysL he) (pi_str he)) (PI.or (pi_tup he) (pi_list he))) fun σ H Rr h => by
  obtain ⟨ρ, S, μ, ν, hr, en, h⟩ := h
  dsimp only at h
  cases q : r ρ S with
  | bad => rw [q] at h; exact h.elim
  | exc x S' =>
    rw [q] at h
    exact .inr (.inl ⟨ρ, S, μ, ν, hr, en, by rw [q]; exact h⟩)
  | ok d S' =>
    rw [q] at h
    have h : Fin W μ ν H (fun μ H J w => ItOk W ν μ H J w) (R.of S' (walkA d S')) Rr (WE Wx σ) := h
    cases hw : walkA d S' with
    | none => rw [hw] at h; exact h.elim
    | some w =>
      rw [hw] at h
      by_cases hd : ∃ ks vs, d = .dic false ks vs
      · obtain ⟨ks, ws, rfl⟩ := hd
        refine .inl (.inl ⟨ρ, S, μ, ν, hr, en, ?_⟩)
        rw [q]
        intro v μ' H' m hr' rv
        cases hw
        cases rv with
        | dicK h0 h1 h2 k rr =>
          rcases h0 with h0 | ⟨o, h0⟩
          · refine ⟨_, _, rfl, .inl ⟨h0, fun o => ?_⟩⟩
            exact h _ μ' _ (m.trans (Mo.lockD h0 h1)) (hr'.lockD h0 h1 h2) (it_keys upd_same h1 k)
          · exact ⟨_, _, rfl, .inr ⟨o, h0, h _ μ' H' m hr' (it_keys h0 h1 k)⟩⟩
      by_cases hx : ∃ l, d = .str l
      · obtain ⟨l, rfl⟩ := hx
        refine .inl (.inr ⟨ρ, S, μ, ν, hr, en, ?_⟩)
        rw [q]
        intro v μ' H' m hr' rv
        cases hw
        cases rv with
        | str _ h1 h2 => exact ⟨_, rfl, h _ μ' H' m hr' (it_str h2)⟩
      · have hw' : walkS d S' = some w := by
          unfold walkA at hw
          split at hw
          · rename_i t ks vs
            split at hw
            · cases hw
            · rename_i ht
              have ht : t = false := by simpa using ht
              subst ht
              exact (hd ⟨_, _, rfl⟩).elim
          · exact (hx ⟨_, rfl⟩).elim
          · exact hw
        by_cases ht : ∃ l, d = .tup l
        · obtain ⟨l, rfl⟩ := ht
          refine .inr (.inl ⟨ρ, S, μ, ν, hr, en, ?_⟩)
          rw [q]
          intro v μ' H' m hr' rv
          cases rv with
          | tup ht rs =>
            cases hw'
            exact ⟨_, rfl, ⟨_, hK ▸ ht.seq⟩, h _ μ' H' m hr' (hK ▸ it_seqT (sq_vals (k := .t) (fun μ1 H1 m => (ht.mo m).seq) rs))⟩
        · refine .inr (.inr ⟨ρ, S, μ, ν, hr, en, ?_⟩)
          rw [q]
          intro v μ' H' m hr' rv
          cases rv with
          | tup _ _ => exact (ht ⟨_, rfl⟩).elim
          | lst h0 h1' h2' rs =>
            cases hw'
            exact ⟨_, rfl, ⟨_, .inl (.inl h0)⟩, h _ μ' H' m hr' (hK ▸ it_seqL (sq_vals (k := .l) (fun μ1 H1 m => .inl (.inl (m.stp _ _ h0 h1' id).1)) rs))⟩
          | @cell a n hn =>
            simp only [walkS] at hw'
            split at hw'
            · rename_i l hl
              cases hw'
              obtain ⟨_, vs, hv, _⟩ := hr'.cell n a _ hn hl
              exact ⟨a, rfl, ⟨vs, .inl (.inl hv)⟩, h _ μ' H' m hr' (hK ▸ it_seqL (sq_cell hn))⟩
            · cases hw'
          | _ => cases hw'
theorem fit_62 {i : Int} (h : fitL i.natAbs = true) : -(2 ^ 62) ≤ i ∧ i < 2 ^ 62 := by
  have h := Nat.le_of_ble_eq_true h
  unfold lim at h
  omega
theorem si_rng1 (g : Gd W Φ C k Wx X) {tg a : Expr} {x : Str} {p pos : Pos} {r : Env → Hs → R D} (hx : C.glb x = true) (hx2 : x = "range") (ha : PE X a (tR W Wx r)) (hs : isStar a = false) :
    PI X tg (.Call (.Name x p) [a] [] pos) (tI W Wx fun ρ S => (r ρ S).bind fun d S => match d with | .int j => if fitL j.natAbs then .ok (.vals (rngL 0 j.toNat)) S else .bad | _ => .bad) := by
  obtain ⟨hg, hd, hn⟩ := g.glb hx
  subst hx2
  refine PI.imp (pi_range1 hg (g.bl _ (by decide +kernel)) (pa_cons ha pa_nil (star_cons hs)) (star_cons hs)) fun σ H Rr h => ?_
  obtain ⟨ρ, S, μ, ν, hr, en, h2⟩ := tG_bind (Rel := RelD W) h
  refine ⟨ρ, S, μ, ν, hr, en, h2.imp fun v H1 ⟨ρ1, d, S1, μ1, ν1, hr1, en1, rx, h3⟩ => ?_⟩
  dsimp only at h3
  cases rx <;> first | exact h3.elim | skip
  rename_i j _
  dsimp only at h3
  split at h3
  · rename_i hf
    obtain ⟨b1, b2⟩ := fit_62 hf
    exact ⟨j, rfl, b1, b2, h3 _ _ _ .refl hr1 (it_rng 0 _)⟩
  · exact h3.elim
theorem si_rng2 (g : Gd W Φ C k Wx X) {tg a b : Expr} {x : Str} {p pos : Pos} {r1 r2 : Env → Hs → R D} (hx : C.glb x = true) (hx2 : x = "range") (ha : PE X a (tR W Wx r1)) (hs : isStar a = false) (hb : PE X b (tR W Wx r2)) (hs2 : isStar b = false) :
    PI X tg (.Call (.Name x p) [a, b] [] pos) (tI W Wx fun ρ S => (r1 ρ S).bind fun d S => (r2 ρ S).bind fun e S => match d, e with | .int i, .int j => if fitL i.natAbs && fitL j.natAbs then .ok (.vals (rngL i (j - i).toNat)) S else .bad | _, _ => .bad) := by
  obtain ⟨hg, hd, hn⟩ := g.glb hx
  subst hx2
  refine PI.imp (pi_range2 hg (g.bl _ (by decide +kernel)) (pa_cons ha (pa_cons hb pa_nil (star_cons hs2)) (star_cons hs)) (by rw [star_cons hs, star_cons hs2]; rfl) (star_cons hs2)) fun σ H Rr h => ?_
  obtain ⟨ρ, S, μ, ν, hr, en, h2⟩ := tG_bind (Rel := RelD W) h
  refine ⟨ρ, S, μ, ν, hr, en, h2.imp fun v H1 ⟨ρ1, d, S1, μ1, ν1, hr1, en1, rx, h3⟩ => ?_⟩
  refine ⟨ρ1, S1, μ1, ν1, hr1, en1, (Fin.bind (Rel := RelD W ν1) h3).imp fun u H2 ⟨e, S2, μ2, m2, hr2, ry, h4⟩ => ?_⟩
  dsimp only at h4
  cases rx <;> cases ry <;> first | exact h4.elim | skip
  rename_i i j _
  dsimp only at h4
  split at h4
  · rename_i hf
    rw [Bool.and_eq_true] at hf
    obtain ⟨a1, a2⟩ := fit_62 hf.1
    obtain ⟨b1, b2⟩ := fit_62 hf.2
    exact ⟨_, _, rfl, ⟨a1, a2, b1, b2⟩, h4 _ _ _ .refl hr2 (it_rng _ _)⟩
  · exact h4.elim

theorem si_zip2 (g : Gd W Φ C k Wx X) {elts : List Expr} {kk : Nat} {tpos : Pos} {a b : Expr} {x : Str} {p pos : Pos} {r : Env → Hs → R (List D)} (hx : C.glb x = true) (hx2 : x = "zip") (ha : PA X [a, b] (tRs W Wx r)) (hs : isStar a = false) (hs2 : isStar b = false) :
    PI X (.Tuple elts kk tpos) (.Call (.Name x p) [a, b] [] pos) (tI W Wx fun ρ S => (r ρ S).bind fun ds S => match ds with
      | [d, e] => match walkS d S, walkS e S with
        | some w, some v => .ok (zipW w v) S
        | _, _ => .bad
      | _ => .bad) := by
  obtain ⟨hg, hd, hn⟩ := g.glb hx
  subst hx2
  refine PI.imp (pi_zip2 hg (g.bl _ (by decide +kernel)) ha (star_cons hs) (by rw [star_cons hs2]; rfl)) fun σ H Rr h => ?_
  obtain ⟨ρ, S, μ, ν, hr, en, h2⟩ := tG_bind (Rel := RelDs W) h
  refine ⟨ρ, S, μ, ν, hr, en, h2.imp fun vs H1 ⟨ρ1, ds, S1, μ1, ν1, hr1, en1, rx, h3⟩ => ?_⟩
  dsimp only at h3
  cases rx with
  | nil => exact h3.elim
  | cons r1 rx => cases rx with
    | nil => exact h3.elim
    | cons r2 rx => cases rx with
      | cons _ _ => exact h3.elim
      | nil =>
        dsimp only at h3
        split at h3
        · rename_i w v e1 e2
          obtain ⟨k1, a1, vs1, rfl, p1, q1⟩ := sq_of hr1 r1 e1
          obtain ⟨k2, a2, vs2, rfl, p2, q2⟩ := sq_of hr1 r2 e2
          exact ⟨k1, k2, a1, a2, vs1, vs2, rfl, g.hK ▸ p1, g.hK ▸ p2, h3 _ _ _ .refl hr1 (g.hK ▸ it_zip2 q1 q2)⟩
        · exact h3.elim
theorem PIX.imp {X : Cx} {x1 : Addr} {tg e : Expr} {t t' : TI} (h : PIX X x1 tg e t) (i : ∀ σ H R, t' σ H R → t σ H R) : PIX X x1 tg e t' := ⟨fun pins s σ H R I hot q => h.run pins s σ H R I hot (i σ H R q)⟩
theorem si_zip2X {x1 : Addr} (g : Gd W Φ C k Wx X) {elts : List Expr} {kk : Nat} {tpos : Pos} {a b : Expr} {x : Str} {p pos : Pos} {r : Env → Hs → R (List D)} (hx : C.glb x = true) (hx2 : x = "zip") (ha : PA X [a, b] (tRs W Wx r)) (hs : isStar a = false) (hs2 : isStar b = false) :
    PIX X x1 (.Tuple elts kk tpos) (.Call (.Name x p) [a, b] [] pos) (tI W Wx fun ρ S => (r ρ S).bind fun ds S => match ds with
      | [d, e] => match walkS d S, walkS e S with
        | some w, some v => .ok (zipW w v) S
        | _, _ => .bad
      | _ => .bad) := by
  obtain ⟨hg, hd, hn⟩ := g.glb hx
  subst hx2
  refine PIX.imp (pi_zip2H hg (g.bl _ (by decide +kernel)) ha (star_cons hs) (by rw [star_cons hs2]; rfl)) fun σ H Rr h => ?_
  obtain ⟨ρ, S, μ, ν, hr, en, h2⟩ := tG_bind (Rel := RelDs W) h
  refine ⟨ρ, S, μ, ν, hr, en, h2.imp fun vs H1 ⟨ρ1, ds, S1, μ1, ν1, hr1, en1, rx, h3⟩ => ?_⟩
  dsimp only at h3
  cases rx with
  | nil => exact h3.elim
  | cons r1 rx => cases rx with
    | nil => exact h3.elim
    | cons r2 rx => cases rx with
      | cons _ _ => exact h3.elim
      | nil =>
        dsimp only at h3
        split at h3
        · rename_i w v e1 e2
          obtain ⟨k1, a1, vs1, rfl, p1, q1⟩ := sq_of hr1 r1 e1
          obtain ⟨k2, a2, vs2, rfl, p2, q2⟩ := sq_of hr1 r2 e2
          exact ⟨k1, k2, a1, a2, vs1, vs2, rfl, g.hK ▸ p1, g.hK ▸ p2, h3 _ _ _ .refl hr1 (g.hK ▸ it_zip2 q1 q2)⟩
        · exact h3.elim
theorem si_zip3 (g : Gd W Φ C k Wx X) {elts : List Expr} {kk : Nat} {tpos : Pos} {a b c : Expr} {x : Str} {p pos : Pos} {r : Env → Hs → R (List D)} (hx : C.glb x = true) (hx2 : x = "zip") (ha : PA X [a, b, c] (tRs W Wx r)) (hs : isStar a = false) (hs2 : isStar b = false) (hs3 : isStar c = false) :
    PI X (.Tuple elts kk tpos) (.Call (.Name x p) [a, b, c] [] pos) (tI W Wx fun ρ S => (r ρ S).bind fun ds S => match ds with
      | [d, e, g] => match walkS d S, walkS e S, walkS g S with
        | some w, some v, some u => .ok (zip3W w v u) S
        | _, _, _ => .bad
      | _ => .bad) := by
  obtain ⟨hg, hd, hn⟩ := g.glb hx
  subst hx2
  refine PI.imp (pi_zip3 hg (g.bl _ (by decide +kernel)) ha (star_cons hs) (by rw [star_cons hs2, star_cons hs3]; rfl)) fun σ H Rr h => ?_
  obtain ⟨ρ, S, μ, ν, hr, en, h2⟩ := tG_bind (Rel := RelDs W) h
  refine ⟨ρ, S, μ, ν, hr, en, h2.imp fun vs H1 ⟨ρ1, ds, S1, μ1, ν1, hr1, en1, rx, h3⟩ => ?_⟩
  dsimp only at h3
  cases rx with
  | nil => exact h3.elim
  | cons r1 rx => cases rx with
    | nil => exact h3.elim
    | cons r2 rx => cases rx with
      | nil => exact h3.elim
      | cons r3 rx => cases rx with
        | cons _ _ => exact h3.elim
        | nil =>
          dsimp only at h3
          split at h3
          · rename_i w v u e1 e2 e3
            obtain ⟨k1, a1, vs1, rfl, p1, q1⟩ := sq_of hr1 r1 e1
            obtain ⟨k2, a2, vs2, rfl, p2, q2⟩ := sq_of hr1 r2 e2
            obtain ⟨k3, a3, vs3, rfl, p3, q3⟩ := sq_of hr1 r3 e3
            exact ⟨k1, k2, k3, a1, a2, a3, vs1, vs2, vs3, rfl, g.hK ▸ p1, g.hK ▸ p2, g.hK ▸ p3, h3 _ _ _ .refl hr1 (g.hK ▸ it_zip3 q1 q2 q3)⟩
          · exact h3.elim
theorem it_enumT {W : Wd} {μ ν : List Addr} {H : Hp} {l : List Nat} (h2 : ∀ c ∈ l, c < 1114112) : ItOk W ν μ H (ItEs ⟨l.toArray⟩) (enumW (.vals (l.map fun c => D.str [c]))) where
  go := fun i d μ' ν' S H' e m nu hr => by
    rw [enumW_at, Option.map_eq_some_iff] at e
    obtain ⟨o, e, e2⟩ := e
    rw [Option.map_eq_some_iff] at e2
    obtain ⟨d0, rfl, rfl⟩ := e2
    obtain ⟨_, e⟩ := at_vals e
    rw [List.getElem?_map, Option.map_eq_some_iff] at e
    obtain ⟨c, hc, rfl⟩ := e
    have hi := (List.getElem?_eq_some_iff.mp hc).1
    refine ⟨by show i < l.toArray.size; simpa using hi, fun x H1 hy => ?_⟩
    obtain ⟨T, c', rfl, hT, rfl, hc'⟩ := hy
    have e2 : l[i]? = some c' := by simpa using hc'
    rw [hc] at e2
    cases e2
    exact fresh_tup hr hT (.cons (.int _) (.cons (.str [c] (by show 1 ≤ lim; decide) fun z hz => by rw [List.mem_singleton] at hz; subst hz; exact h2 z (List.mem_of_getElem? hc)) .nil))
  stop := fun i μ' ν' S H' e m nu hr => by
    rw [enumW_at, Option.map_eq_some_iff] at e
    obtain ⟨o, e, e2⟩ := e
    rw [Option.map_eq_none_iff] at e2
    subst e2
    obtain ⟨_, e⟩ := at_vals e
    rw [List.getElem?_map, Option.map_eq_none_iff, List.getElem?_eq_none_iff] at e
    have := (at_vals (l := l.map fun c => D.str [c]) (i := i) (S := S) (o := none) (by assumption)).1
    show l.toArray.size = i
    simp at this ⊢
    omega
theorem si_enum (g : Gd W Φ C k Wx X) {elts : List Expr} {kk : Nat} {tpos : Pos} {a : Expr} {x : Str} {p pos : Pos} {r : Env → Hs → R (List D)} (hx : C.glb x = true) (hx2 : x = "enumerate") (ha : PA X [a] (tRs W Wx r)) (hs : isStar a = false) :
    PI X (.Tuple elts kk tpos) (.Call (.Name x p) [a] [] pos) (tI W Wx fun ρ S => (r ρ S).bind fun ds S => match ds with
      | [d] => match walkT d S with
        | some w => .ok (enumW w) S
        | none => .bad
      | _ => .bad) := by
  obtain ⟨hg, hd, hn⟩ := g.glb hx
  subst hx2
  refine PI.imp (PI.or (pi_enumT hg (g.bl _ (by decide +kernel)) ha (star_cons hs)) (pi_enumK hg (g.bl _ (by decide +kernel)) ha (star_cons hs))) fun σ H Rr h => ?_
  obtain ⟨ρ, S, μ, ν, hr, en, h⟩ := h
  dsimp only at h
  cases q : r ρ S with
  | bad => rw [q] at h; exact h.elim
  | exc x S' =>
    rw [q] at h
    exact .inr ⟨ρ, S, μ, ν, hr, en, by rw [q]; exact h⟩
  | ok ds S' =>
    rw [q] at h
    by_cases ht : ∃ l, ds = [.str l]
    · obtain ⟨l, rfl⟩ := ht
      refine .inl ⟨ρ, S, μ, ν, hr, en, ?_⟩
      rw [q]
      intro vs μ' H' m hr' rv
      have rv : Rps W μ' ν H' vs [.str l] := rv
      obtain ⟨v, rfl, rw1⟩ := rps1 rv
      cases rw1 with
      | str _ h1 h2 => exact ⟨_, rfl, Fin.from h m _ _ _ .refl hr' (it_enumT h2)⟩
    · refine .inr ⟨ρ, S, μ, ν, hr, en, ?_⟩
      rw [q]
      intro vs μ' H' m hr' rv
      have h3 := Fin.from h m
      dsimp only [R.bind] at h3
      cases rv with
      | nil => exact h3.elim
      | cons r1 rx => cases rx with
        | cons _ _ => exact h3.elim
        | nil =>
          dsimp only at h3
          split at h3
          · rename_i d _ w e1
            have e1 : walkS d S' = some w := by
              unfold walkT at e1
              split at e1
              · exact (ht ⟨_, rfl⟩).elim
              · exact e1
            obtain ⟨k1, a1, vs1, rfl, p1, q1⟩ := sq_of hr' r1 e1
            exact ⟨k1, a1, vs1, rfl, g.hK ▸ p1, h3 _ _ _ .refl hr' (g.hK ▸ it_enum q1)⟩
          · exact h3.elim

/-! ### the comprehension -/
theorem wipe_eq : ∀ (vs : List Nat) (ρ : Env), (wipe vs ρ).length = ρ.length
  | [], _ => rfl
  | v :: vs, ρ => by unfold wipe; rw [List.length_set, wipe_eq vs ρ]
theorem wipe_get {ρ : Env} {i : Nat} {d : D} : ∀ {vs : List Nat}, (wipe vs ρ)[i]? = some (some d) → ρ[i]? = some (some d) ∧ i ∉ vs
  | [], h => ⟨h, by simp⟩
  | v :: vs, h => by
    unfold wipe at h
    by_cases hi : v = i
    · subst hi
      by_cases hv : v < (wipe vs ρ).length
      · rw [List.getElem?_set_self hv] at h; cases h
      · rw [List.getElem?_eq_none (by simpa using hv)] at h; cases h
    · rw [List.getElem?_set_ne hi] at h
      obtain ⟨h1, h2⟩ := wipe_get h
      exact ⟨h1, by simp [h2, Ne.symm hi]⟩
theorem En.wipe {W : Wd} {μ ν : List Addr} {H : Hp} {σ : L2.St} {ρ : Env} (h : En W μ ν H σ ρ) (vs : List Nat) : En W μ ν H (L2.wipe σ vs) (EW.wipe vs ρ) :=
  ⟨by rw [L2.wipe_length, wipe_eq]; exact h.len, fun i d e => by
    obtain ⟨h1, h2⟩ := wipe_get e
    obtain ⟨v, p, q⟩ := h.get i d h1
    exact ⟨v, by rw [wipe_out h2]; exact p, q⟩⟩
theorem wipe_none : ∀ {vs : List Nat} {σ : L2.St} {i : Nat}, i ∈ vs → i < σ.length → (L2.wipe σ vs)[i]? = some none
  | v :: vs, σ, i, h, hl => by
    unfold L2.wipe
    by_cases hi : v = i
    · subst hi
      rw [List.getElem?_set_self (by rw [L2.wipe_length]; exact hl)]
    · rw [List.getElem?_set_ne hi]
      exact wipe_none ((List.mem_cons.mp h).resolve_left (Ne.symm hi)) hl
theorem Out.wipe {own : List Nat} {σ σ' : L2.St} (o : Out own σ σ') : L2.wipe σ' own = L2.wipe σ own := by
  apply List.ext_getElem?
  intro i
  by_cases hi : i ∈ own
  · by_cases hl : i < σ.length
    · rw [wipe_none hi (by rw [o.1]; exact hl), wipe_none hi hl]
    · rw [List.getElem?_eq_none (by rw [L2.wipe_length, o.1]; omega), List.getElem?_eq_none (by rw [L2.wipe_length]; omega)]
  · rw [wipe_out hi, wipe_out hi]
    exact o.2 i hi
theorem wipe_wipe {own : List Nat} {σ : L2.St} : L2.wipe (L2.wipe σ own) own = L2.wipe σ own := Out.wipe ⟨L2.wipe_length _ _, fun j h => wipe_out h⟩

/-- the tests of a comprehension -/
def evCs (rec : E → Env → Hs → R D) (c : Option E) (ρ : Env) (S : Hs) : R Bool := match c with
  | none => .ok true S
  | some c => evT rec c ρ S
theorem compG_succ {rec : E → Env → Hs → R D} {own : List Nat} {t : T} {c : Option E} {e : E} {ρ0 : Env} {f : Nat → Hs → Option (Option D)} {n i : Nat} {S : Hs} : compG rec own t c e ρ0 f (n + 1) i S = match f i S with
    | none => .bad
    | some none => .ok [] S
    | some (some x) => match setN 8 t x ρ0 with
      | none => .bad
      | some ρ => (evCs rec c ρ S).bind fun k S => if k then (rec e ρ S).bind fun y S => (compG rec own t c e ρ0 f n (i + 1) S).bind fun ys S => .ok (y :: ys) S else compG rec own t c e ρ0 f n (i + 1) S := by
  conv => lhs; unfold compG
  cases f i S with
  | none => rfl
  | some o => cases o with
    | none => rfl
    | some x =>
      dsimp only
      cases setN 8 t x ρ0 with
      | none => rfl
      | some ρ => cases c <;> rfl
theorem compL_cons {rec : E → Env → Hs → R D} {own : List Nat} {t : T} {c : Option E} {e : E} {ρ0 : Env} {x : D} {xs : List D} {S : Hs} : compL rec own t c e ρ0 (x :: xs) S = match setN 8 t x ρ0 with
    | none => .bad
    | some ρ => (evCs rec c ρ S).bind fun k S => if k then (rec e ρ S).bind fun y S => (compL rec own t c e ρ0 xs S).bind fun ys S => .ok (y :: ys) S else compL rec own t c e ρ0 xs S := by
  conv => lhs; unfold compL
  cases setN 8 t x ρ0 with
  | none => rfl
  | some ρ => cases c <;> rfl
theorem vals_at {xs : List D} {i : Nat} {S : Hs} (h : i ≤ xs.length) : (Wk.vals xs).at i S = some xs[i]? := by
  simp only [Wk.at, Nat.ble_eq_true_of_le h, if_true]
theorem compL_G {rec : E → Env → Hs → R D} {own : List Nat} {t : T} {c : Option E} {e : E} {ρ0 : Env} {xs : List D} : ∀ (n i : Nat) (S : Hs), n + i = xs.length → compG rec own t c e ρ0 (Wk.vals xs).at (n + 1) i S = compL rec own t c e ρ0 (xs.drop i) S
  | 0, i, S, h => by
    rw [compG_succ, vals_at (by omega), List.getElem?_eq_none (by omega), List.drop_eq_nil_of_le (by omega)]; rfl
  | n + 1, i, S, h => by
    have hi : i < xs.length := by omega
    rw [compG_succ, vals_at (by omega), List.getElem?_eq_getElem hi, List.drop_eq_getElem_cons hi, compL_cons]
    dsimp only
    have ih : ∀ S, compG rec own t c e ρ0 (Wk.vals xs).at (n + 1) (i + 1) S = compL rec own t c e ρ0 (xs.drop (i + 1)) S := fun S => compL_G n (i + 1) S (by omega)
    simp only [ih]
theorem compW_G {rec : E → Env → Hs → R D} {own : List Nat} {t : T} {c : Option E} {e : E} {ρ0 : Env} {w : Wk} {S S' : Hs} {ys : List D} (h : compW rec own t c e ρ0 w S = .ok ys S') : ∃ N, N ≤ lim + 1 ∧ compG rec own t c e ρ0 w.at N 0 S = .ok ys S' := by
  cases w with
  | vals xs =>
    unfold compW at h
    dsimp only at h
    split at h
    · rename_i hf
      refine ⟨xs.length + 1, Nat.succ_le_succ (Nat.le_of_ble_eq_true hf), ?_⟩
      rw [compL_G xs.length 0 S (by omega)]
      exact h
    · cases h
  | dyn f => exact ⟨16777216, by decide, h⟩
theorem R.bind_ok {α β : Type} {r : R α} {f : α → Hs → R β} {b : β} {S : Hs} (h : r.bind f = .ok b S) : ∃ a S1, r = .ok a S1 ∧ f a S1 = .ok b S := by
  cases r with
  | ok a S1 => exact ⟨a, S1, rfl, h⟩
  | exc x S1 => cases h
  | bad => cases h

theorem comp_imp0 {tg : Expr} {own : List (Str × Nat)} {n : Nat} {C' : Ct} {t : T} {c : Option E} {e : E} {rec : E → Env → Hs → R D} {ri : Env → Hs → R Wk}
    (hK : W.K = X.K) (ht : chkT n C' (own.map (·.2)) tg t = true) : ∀ σ H Q, (∃ ρ S μ ν, HR W μ ν S H ∧ En W μ ν H σ ρ ∧ Fin W μ ν H (fun μ H J w => ItOk W ν μ H J w) (ri ρ S) (fun J H1 => ∃ ρ1 w S1 μ1 ν1, HR W μ1 ν1 S1 H1 ∧ En W μ1 ν1 H1 σ ρ1 ∧ ItOk W ν1 μ1 H1 J w ∧
      ∃ ys Sf, compW rec (own.map (·.2)) t c e (wipe (own.map (·.2)) ρ1) w S1 = .ok ys Sf ∧ ∀ v μ' H', Mo μ1 H1 μ' H' → HR W μ' ν1 Sf H' → Rp W μ' ν1 H' v (.lst ys) → (∃ a vs, v = .ref a ∧ H1 a = none ∧ a ∉ ν1 ∧ H' a = some (.lst vs) ∧ HR W μ' (a :: ν1) Sf H' ∧ Rps W μ' (a :: ν1) H' vs ys) → Q v H') (WE Wx σ)) →
    tLc (tI W Wx ri) (gT X.K t) (tRb W (fun _ _ _ _ => False) (evCs rec c)) (tR W (fun _ _ _ _ => False) (rec e)) (own.map (·.2)) σ H Q := by
  intro σ H Q h
  obtain ⟨ρ, S, μ, ν, hr, en, h2⟩ := h
  refine ⟨ρ, S, μ, ν, hr, en, h2.imp fun J H1 ⟨ρ1, w, S1, μ1, ν1, hr1, en1, it, ys, Sf, hrun, hQ⟩ => ?_⟩
  intro Da hD
  generalize hown : own.map (·.2) = vs at *
  generalize hρ0 : wipe vs ρ1 = ρ0 at *
  · -- the run is a good one
    obtain ⟨N, hN, hrun⟩ := compW_G hrun
    rw [lim_eq] at hN
    have hDμ : Da ∉ μ1 := hr1.fresh hD
    have hDν : Da ∉ ν1 := hr1.nfresh hD
    have nu : Nu ν1 H1 (Da :: ν1) := fun a ha => (List.mem_cons.mp ha).elim (fun z => .inr (z ▸ hD)) .inl
    -- between two turns
    let Inv : Nat → Nat → Hp → Prop := fun i m Hc => m + i = N ∧ ∃ (μ : List Addr) (S : Hs) (acc : List V) (ds rest : List D),
      HR W μ (Da :: ν1) S Hc ∧ Mo μ1 H1 μ Hc ∧ Hc Da = some (.lst acc) ∧ Rps W μ (Da :: ν1) Hc acc ds ∧ ds.length ≤ i ∧ compG rec vs t c e ρ0 w.at m i S = .ok rest Sf ∧ ys = ds ++ rest
    -- upd at Da keeps all
    have keep : ∀ {μ : List Addr} {S : Hs} {Hc : Hp} {acc acc' : List V}, HR W μ (Da :: ν1) S Hc → Mo μ1 H1 μ Hc → Hc Da = some (.lst acc) → Mo μ1 H1 μ (upd Hc Da (.lst acc')) ∧ HR W μ (Da :: ν1) S (upd Hc Da (.lst acc')) ∧ ∀ {v : V} {d : D}, Rp W μ (Da :: ν1) Hc v d → Rp W μ (Da :: ν1) (upd Hc Da (.lst acc')) v d := by
      intro μ S Hc acc acc' hr m hDc
      have hn : Da ∉ μ := (hr.dj Da (by simp)).1
      have m' : Mo μ1 H1 μ (upd Hc Da (.lst acc')) := ⟨m.pre, fun a o ho hm => by
        obtain ⟨p, q⟩ := m.stq a o ho hm
        exact ⟨by rw [upd_ne (ne_of_none ho hD)]; exact p, q⟩⟩
      -- frozen things are not at Da
      have rp : ∀ (v : V) (d : D), Rp W μ (Da :: ν1) Hc v d → Rp W μ (Da :: ν1) (upd Hc Da (.lst acc')) v d := by
        intro v d r
        exact Rp.swap (fun a ha => upd_ne fun z => ha (by rw [z]; exact List.mem_cons_self)) (fun a o u e => by rw [upd_ne (fun z => by subst z; rw [hDc] at e; cases e)]; exact e) r
      refine ⟨m', ⟨hr.len, hr.nd, fun a ha => ?_, tabs_upd hr.tabs fun o e => (by rw [hDc] at e; cases e; exact noT_lst), fun n a c e1 e2 => ?_⟩, fun r => rp _ _ r⟩
      · obtain ⟨p, o, q, r⟩ := hr.dj a ha
        refine ⟨p, ?_⟩
        by_cases hz : a = Da
        · subst hz; exact ⟨_, upd_same, noT_lst, fun _ _ z => (by cases z)⟩
        · exact ⟨o, by rw [upd_ne hz]; exact q, r⟩
      · have hz : a ≠ Da := fun z => hn (z ▸ List.mem_of_getElem? e1)
        exact (hr.cell n a c e1 e2).swap (fun a ha => upd_ne fun z => ha (by rw [z]; exact List.mem_cons_self)) (fun a o u e => by rw [upd_ne (fun z => by subst z; rw [hDc] at e; cases e)]; exact e) (upd_ne hz)
    refine ⟨Inv, ⟨N, rfl, μ1, S1, [], [], ys, ?_, ?_, upd_same, .nil, Nat.le_refl _, hrun, rfl⟩, fun i m Hc hI => ?_⟩
    · have := hr1.alloc (o := .lst []) hD
      exact ⟨this.len, this.nd, fun a ha => (List.mem_cons.mp ha).elim (fun z => by subst z; exact ⟨hDμ, _, upd_same, noT_lst, fun _ _ z => (by cases z)⟩) (this.dj a), this.tabs, fun n a c e1 e2 => by
        have hz : a ≠ Da := fun z => hDμ (z ▸ List.mem_of_getElem? e1)
        exact ((hr1.cell n a c e1 e2).nu nu).mo (Mo.alloc hD) (upd_ne hz)⟩
    · exact Mo.alloc hD
    · obtain ⟨hmi, μ, S, acc, ds, rest, hrc, mc, hDc, rac, hlen, hrest, hys⟩ := hI
      cases m with
      | zero => cases hrest
      | succ m =>
      rw [compG_succ] at hrest
      cases hat : w.at i S with
      | none => rw [hat] at hrest; cases hrest
      | some o =>
      rw [hat] at hrest
      cases o with
      | some x0 =>
        obtain ⟨hgo, hyld⟩ := it.go i x0 μ (Da :: ν1) S Hc hat mc nu hrc
        refine .inr ⟨hgo, fun H' => Inv (i + 1) m H', fun H' hN' => ⟨m, Nat.lt_succ_self m, hN'⟩, fun x H' hy => ?_⟩
        obtain ⟨m1, hr1', rx⟩ := hyld x H' hy
        dsimp only at hrest
        cases hset : setN 8 t x0 ρ0 with
        | none => rw [hset] at hrest; cases hrest
        | some ρ2 =>
          rw [hset] at hrest
          dsimp only at hrest
          obtain ⟨b, S2, hb, hrest⟩ := R.bind_ok hrest
          have hDH' : H' Da = some (.lst acc) := (m1.stp Da _ hDc (hrc.dj Da (by simp)).1 id).1
          have en2 : En W μ (Da :: ν1) H' (L2.wipe σ vs) ρ0 := by
            rw [← hρ0]
            have e0 := en1.mo (mc.trans m1)
            exact (show En W μ (Da :: ν1) H' σ ρ1 from ⟨e0.len, fun j d e => by
              obtain ⟨v, p, q⟩ := en1.get j d e
              exact ⟨v, p, (q.nu nu).mo (mc.trans m1)⟩⟩).wipe vs
          refine hK ▸ gT_ok n 8 t tg x0 x (L2.wipe σ vs) ρ0 ρ2 _ ht hset rx en2 fun σ2 en3 o2 => ?_
          refine ⟨by rw [Out.wipe o2, wipe_wipe], ρ2, S, μ, Da :: ν1, hr1', en3, ?_⟩
          show Fin W μ (Da :: ν1) H' RelB (evCs rec c ρ2 S) _ _
          rw [hb]
          intro b' μ3 H3 m3 hr3 eb
          have eb : b' = b := eb
          subst eb
          have mc3 := (mc.trans m1).trans m3
          have hD3 : H3 Da = some (.lst acc) := (m3.stp Da _ hDH' (hr1'.dj Da (by simp)).1 id).1
          cases b' with
          | false =>
            rw [if_neg Bool.false_ne_true]
            rw [if_neg Bool.false_ne_true] at hrest
            exact ⟨by omega, μ3, S2, acc, ds, rest, hr3, mc3, hD3, rac.mo (m1.trans m3), Nat.le_succ_of_le hlen, hrest, hys⟩
          | true =>
            rw [if_pos rfl]
            rw [if_pos rfl] at hrest
            obtain ⟨y, S4, hy4, hrest⟩ := R.bind_ok hrest
            obtain ⟨r', S5, hr5, hrest⟩ := R.bind_ok hrest
            cases hrest
            refine ⟨ρ2, S2, μ3, Da :: ν1, hr3, en3.mo m3, ?_⟩
            show Fin W μ3 (Da :: ν1) H3 (RelD W (Da :: ν1)) (rec e ρ2 S2) _ _
            rw [hy4]
            intro u μ4 H4 m4 hr4 ru
            have hD4 : H4 Da = some (.lst acc) := (m4.stp Da _ hD3 (hr3.dj Da (by simp)).1 id).1
            have rac4 := rac.mo ((m1.trans m3).trans m4)
            have hm1 : 1 ≤ m := by
              cases m with
              | zero => cases hr5
              | succ m => exact Nat.succ_le_succ (Nat.zero_le _)
            refine ⟨acc, hD4, by rw [rac.length]; omega, ?_⟩
            obtain ⟨k1, k2, k3⟩ := keep (acc' := acc ++ [u]) hr4 (mc3.trans m4) hD4
            refine ⟨by omega, μ4, S4, acc ++ [u], ds ++ [y], r', k2, k1, upd_same, ?_, by rw [List.length_append]; exact Nat.succ_le_succ hlen, hr5, by rw [hys, List.append_assoc]; rfl⟩
            exact (Rps.of_all fun v d r => k3 r) (rac4.append (.cons ru .nil))
      | none =>
        have hrest : R.ok [] S = R.ok rest Sf := hrest
        cases hrest
        rw [List.append_nil] at hys
        subst hys
        refine .inl ⟨it.stop i μ (Da :: ν1) _ Hc hat mc nu hrc, hQ _ μ Hc mc ?_ (.lst hDc (hrc.dj Da (by simp)).1 hDν ?_) ⟨Da, _, rfl, hD, hDν, hDc, hrc, rac⟩⟩
        · exact ⟨hrc.len, hrc.nd, fun a ha => hrc.dj a (List.mem_cons_of_mem _ ha), hrc.tabs, fun n a c e1 e2 => by
            exact (hrc.cell n a c e1 e2).nu fun a ha => .inl (List.mem_cons_of_mem _ ha)⟩
        · exact rac.nu fun a ha => .inl (List.mem_cons_of_mem _ ha)
theorem comp_imp {tg : Expr} {own : List (Str × Nat)} {n : Nat} {C' : Ct} {t : T} {c : Option E} {e : E} {rec : E → Env → Hs → R D} {ri : Env → Hs → R Wk}
    (hK : W.K = X.K) (ht : chkT n C' (own.map (·.2)) tg t = true) : ∀ σ H Q, tR W Wx (fun ρ S => (ri ρ S).bind fun w S => (compW rec (own.map (·.2)) t c e (wipe (own.map (·.2)) ρ) w S).calm.bind fun ys S => .ok (.lst ys) S) σ H Q →
    tLc (tI W Wx ri) (gT X.K t) (tRb W (fun _ _ _ _ => False) (evCs rec c)) (tR W (fun _ _ _ _ => False) (rec e)) (own.map (·.2)) σ H Q := by
  intro σ H Q h
  obtain ⟨ρ, S, μ, ν, hr, en, h2⟩ := tG_bind (Rel := fun ν μ H J w => ItOk W ν μ H J w) h
  refine comp_imp0 hK ht σ H Q ⟨ρ, S, μ, ν, hr, en, h2.imp fun J H1 ⟨ρ1, w, S1, μ1, ν1, hr1, en1, it, h3⟩ => ?_⟩
  dsimp only at h3
  cases hrun : compW rec (own.map (·.2)) t c e (wipe (own.map (·.2)) ρ1) w S1 with
  | bad => rw [hrun] at h3; exact h3.elim
  | exc x S' => rw [hrun] at h3; exact h3.elim
  | ok ys Sf =>
    rw [hrun] at h3
    exact ⟨ρ1, w, S1, μ1, ν1, hr1, en1, it, ys, Sf, hrun, fun v μ' H' m hr' rv _ => h3 v μ' H' m hr' rv⟩
theorem comp_impM {tg : Expr} {own : List (Str × Nat)} {n : Nat} {C' : Ct} {t : T} {c : Option E} {e : E} {rec : E → Env → Hs → R D} {ri : Env → Hs → R Wk}
    (hK : W.K = X.K) (ht : chkT n C' (own.map (·.2)) tg t = true) : ∀ σ H Q, tR W Wx (fun ρ S => (ri ρ S).bind fun w S => (compW rec (own.map (·.2)) t c e (wipe (own.map (·.2)) ρ) w S).calm.bind fun ys S => if D.flats ys then .ok (.cell S.length) (S ++ [.lst ys]) else .bad) σ H Q →
    tLc (tI W Wx ri) (gT X.K t) (tRb W (fun _ _ _ _ => False) (evCs rec c)) (tR W (fun _ _ _ _ => False) (rec e)) (own.map (·.2)) σ H Q := by
  intro σ H Q h
  obtain ⟨ρ, S, μ, ν, hr, en, h2⟩ := tG_bind (Rel := fun ν μ H J w => ItOk W ν μ H J w) h
  refine comp_imp0 hK ht σ H Q ⟨ρ, S, μ, ν, hr, en, h2.imp fun J H1 ⟨ρ1, w, S1, μ1, ν1, hr1, en1, it, h3⟩ => ?_⟩
  dsimp only at h3
  cases hrun : compW rec (own.map (·.2)) t c e (wipe (own.map (·.2)) ρ1) w S1 with
  | bad => rw [hrun] at h3; exact h3.elim
  | exc x S' => rw [hrun] at h3; exact h3.elim
  | ok ys Sf =>
    rw [hrun] at h3
    refine ⟨ρ1, w, S1, μ1, ν1, hr1, en1, it, ys, Sf, hrun, fun v μ' H' m hr' rv hfr => ?_⟩
    have h3 : Fin W μ1 ν1 H1 (RelD W ν1) (if D.flats ys = true then R.ok (D.cell Sf.length) (Sf ++ [.lst ys]) else .bad) Q (WE Wx σ) := h3
    split at h3
    case isFalse => exact h3.elim
    rename_i f
    obtain ⟨a, vs, rfl, ha, hν, hvs, hra, rr⟩ := hfr
    obtain ⟨m2, hr2⟩ := hra.grow hvs ha m rr f hν
    exact h3 _ _ _ m2 hr2 (.cell (by rw [← hr'.len, List.getElem?_append_right (Nat.le_refl _), Nat.sub_self]; rfl))
end
end EW

/-! EW: texts, tuples and lists backwards. -/
namespace EW
open PySem PySem.Spec PyProof.Rows L2
section
variable {prog : Program} {w : World} {A : Around} {E : Value → Shared → Prop} {s : Shared}
theorem adjust_rev (n : Nat) : Builtin.Slice.sliceAdjust none none (-1) (n : Int) = ((n : Int) - 1, -1) := by
  unfold Builtin.Slice.sliceAdjust
  simp
theorem places_rev (n : Nat) : Builtin.Slice.slicePlaces ((n : Int) - 1) (-1) (-1) = n := by
  unfold Builtin.Slice.slicePlaces
  have h1 : ¬ ((-1 : Int) > 0) := by omega
  have h2 : (- -1 : Int) = 1 := by decide
  simp only [h1, if_false, h2, Int.ediv_one]
  split <;> omega
theorem sliceApplied_rev {sl : Addr} {vk : Value} {n : Nat} {Q : Int × Int × Nat → Shared → Prop} (hs : s.heap.IsSliceOf sl .none .none vk) (pk : IsPart vk (some (-1)))
    (h : Q ((n : Int) - 1, -1, n) s) : wpAny (model prog w) A (Builtin.Slice.sliceApplied (.ref sl) (pure (n : Int))) Q E s := by
  obtain ⟨os, hos, hcs, hds⟩ := id hs
  unfold Builtin.Slice.sliceApplied Builtin.Slice.sliceFields
  refine wpAny_bind (wpAny_bind (wpAny_field hos hds (x := .none) rfl (wpAny_bind (wpAny_field hos hds (x := .none) rfl (wpAny_bind (wpAny_field hos hds (x := vk) rfl (wpAny_pure ?_)))))))
  refine wpAny_bind (HT.slicePart_ pk ?_)
  show wpAny _ _ (if ((-1 : Int) == 0) = true then _ else _) _ _ s
  rw [if_neg (by decide)]
  refine wpAny_bind (HT.slicePart_ .none (wpAny_bind (HT.slicePart_ .none (wpAny_bind (wpAny_pure ?_)))))
  show wpAny _ _ (match Builtin.Slice.sliceAdjust none none (-1) (n : Int) with | (lo, hi) => pure (lo, (-1 : Int), Builtin.Slice.slicePlaces lo hi (-1))) _ _ s
  rw [adjust_rev n]
  show wpAny _ _ (pure ((n : Int) - 1, (-1 : Int), Builtin.Slice.slicePlaces ((n : Int) - 1) (-1) (-1))) _ _ s
  rw [places_rev]
  exact wpAny_pure h
theorem pick_rev (xs : Array Value) : ((List.range xs.size).filterMap fun (m : Nat) => xs[(((xs.size : Nat) : Int) - 1 + (m : Int) * -1).toNat]?).toArray = xs.toList.reverse.toArray := by
  have e : ((List.range xs.size).filterMap fun (m : Nat) => xs[(((xs.size : Nat) : Int) - 1 + (m : Int) * -1).toNat]?) = ((List.range xs.size).map fun k => xs.size - 1 - k).filterMap (xs[·]?) := by
    rw [List.filterMap_map]
    congr 1
    funext m
    show _ = xs[xs.size - 1 - m]?
    have : (((xs.size : Nat) : Int) - 1 + (m : Int) * -1).toNat = xs.size - 1 - m := by omega
    rw [this]
  rw [e, PySem.W.krv_range, List.filterMap_reverse, PySem.W.krv_all]
theorem getItem_tuple_rev {t sl : Addr} {items : Array Value} {vk : Value} {Q : Value → Shared → Prop} (ht : IsTup s.heap t items) (hs : s.heap.IsSliceOf sl .none .none vk) (pk : IsPart vk (some (-1)))
    (h : Q (.ref s.heap.objs.size) { s with heap := s.heap.push { cls := .type "tuple", data := .seq items.toList.reverse.toArray } })
    (hsz : items.size ≤ sizeLine) : wpAny (model prog w) A (getItem (.ref t) (.ref sl)) Q E s := by
  have htake : sizeOk (.seq items.toList.reverse.toArray) := by
    show items.toList.reverse.toArray.size ≤ sizeLine
    rw [List.size_toArray, List.length_reverse, Array.length_toList]
    exact hsz
  obtain ⟨os, hos, hcs, hds⟩ := id hs
  have hTs : s.TypeIs (.ref sl) "slice" := ⟨os, hos, hcs⟩
  unfold getItem
  try with_reducible refine wpAny_holding ?_
  first | refine wpAny_bind (wpAny_pure ?_) | skip
  refine wpAny_bind (wpAny_sequenceKey ht.typeIs (by decide) ?_)
  refine wpAny_bind (wpAny_callSpecial?_slot (name := Str.ofString "__getitem__") ht.typeIs PyProof.Rows.slot_tuple_getitem
    (wpAny_call_entry PyProof.Rows.slot_tuple_getitem ht.typeIs entry_tuple_getitem ?_ (args_tuple_getitem _ _)))
  show wpAny _ _ (Builtin.Tuple.tupleItemsOf (.ref t) >>= _) _ _ s
  refine wpAny_bind (tupleItemsOf_ ht ?_)
  refine wpAny_bind (wpAny_typeOf hTs ?_)
  rw [if_pos (by decide)]
  refine wpAny_bind (sliceApplied_rev hs pk ?_)
  have hno : ¬ ((((items.size : Nat) : Int) - 1 == 0 && (-1 : Int) == 1 && items.size == items.size) = true) := by
    intro q
    rw [Bool.and_eq_true, Bool.and_eq_true] at q
    exact absurd q.1.2 (by decide)
  show wpAny _ _ (if (((items.size : Nat) : Int) - 1 == 0 && (-1 : Int) == 1 && items.size == items.size) = true then _ else _) _ _ s
  rw [if_neg hno, pick_rev]
  first
    | exact wpAny_bind (m := Builtin.Tuple.tupleExact _) (wpAny_newObj_type (wpAny_pure ⟨_, rfl, wpAny_pure h⟩) htake)
    | exact wpAny_bind (m := Builtin.Tuple.tupleExact _) (wpAny_newObj_type (wpAny_bind (wpAny_pure (wpAny_pure ⟨_, rfl, wpAny_pure h⟩))) htake)
    | exact wpAny_bind (wpAny_bind (m := Builtin.Tuple.tupleExact _) (wpAny_newObj_type (wpAny_pure (wpAny_pure ⟨_, rfl, wpAny_pure h⟩)) htake))
    | exact wpAny_bind (wpAny_bind (m := Builtin.Tuple.tupleExact _) (wpAny_newObj_type (wpAny_pure ⟨_, rfl, wpAny_pure h⟩) htake))
end
theorem rev_text (l : List Nat) (u : Tok) : Txt.sliceBy (SX.S l) none none (-1, u) = SX.S l.reverse := by
  have h := step_rev_list (SX.S l) u
  have e : (List.range (SX.S l).length).map (fun k => (SX.S l).cps.getD ((SX.S l).length - 1 - k) 0) = l.reverse := by
    rw [SX.S_len]
    apply List.ext_getElem
    · simp
    · intro i h1 h2
      simp at h1 h2
      rw [List.getElem_map, List.getElem_range, List.getElem_reverse]
      show l.toArray.getD (l.length - 1 - i) 0 = _
      simp only [Array.getD, List.size_toArray, List.getElem_toArray]
      rw [dif_pos (by omega)]
      rfl
  rw [e] at h
  rw [← SX.S_tl (Txt.sliceBy (SX.S l) none none (-1, u)), h]
theorem rps_rev {W : Wd} {μ ν : List Addr} {H : Hp} : ∀ {vs : List V} {ds : List D}, Rps W μ ν H vs ds → Rps W μ ν H vs.reverse ds.reverse
  | _, _, .nil => .nil
  | _, _, .cons h r => by
    rw [List.reverse_cons, List.reverse_cons]
    exact (rps_rev r).append (.cons h .nil)
section
variable {W : Wd} {Φ : Ph} {C : Ct} {k : Nat} {Wx : WX} {X : Cx}
theorem se_rev (g : Gd W Φ C k Wx X) {a0 : Expr} {ra : Env → Hs → R D} {kk : Nat} {p1 p2 p3 pos : Pos} (ha : PE X a0 (tR W Wx ra)) :
    PE X (.Subscript a0 (.Slice none none (some (.UnaryOp .USub (.Constant (.int 1) kk p1) p2)) p3) pos) (tR W Wx fun ρ S => (ra ρ S).bind fun x S => .of S (revD x S)) := by
  refine ⟨fun pins s σ H Q I h => ?_⟩
  obtain ⟨ρ, S, μ, ν, hr, en, h2⟩ := tG_bind (Rel := RelD W) h
  refine Subscript_ (thn (ha.run pins s σ H _ I ⟨ρ, S, μ, ν, hr, en, h2⟩) fun v s1 ⟨x, H1, I1, r1, q1⟩ => ?_)
  obtain ⟨ρ1, dx, S1, μ1, ν1, hr1, en1, rx, h3⟩ := q1
  obtain ⟨d, e, q⟩ := Fin.of h3
  have hst : PO X (some (.UnaryOp .USub (.Constant (.int 1) kk p1) p2)) (tPart (tUn (rU fun i => .int (-i)) (tC (.int 1)))) := po_some (pe_un un_neg pe_int)
  refine wpAny_Slice (thn (po_none.run pins s1 σ H1 (fun o H2 => o = none ∧ H2 = H1) I1 ⟨rfl, rfl⟩) fun vl s2 ⟨l, H2, I2, pl, el, e2⟩ => ?_)
  subst el e2
  refine thn (po_none.run pins s2 σ H2 (fun o H3 => o = none ∧ H3 = H2) I2 ⟨rfl, rfl⟩) fun vu s3 ⟨u, H3, I3, pu, eu, e3⟩ => ?_
  subst eu e3
  refine thn (hst.run pins s3 σ H3 (fun o H4 => o = some (-1) ∧ H4 = H3) I3 ⟨1, rfl, -1, rfl, rfl, rfl⟩) fun vs s4 ⟨o, H4, I4, ps, eo, e4⟩ => ?_
  subst eo e4
  have I5 : Inv X pins σ H4 { s4 with heap := s4.heap.push { cls := .type "slice", data := .fields #[vl, vu, vs] } } := I4.kept (t' := s4.toks) fun b ob q => Heap.get?_push_of_some _ q
  have evl : vl = .none := by cases pl; rfl
  have evu : vu = .none := by cases pu; rfl
  subst evl evu
  have lstc : ∀ (a : Addr) (xs : List V), SqL X.K H4 a xs → (∀ p, H4 p = none → Q (.ref p) (upd H4 p (.lst xs.reverse))) → v = .ref a →
      wpAny (model X.prog X.w) X.A (subscriptTail a0 (.Slice none none (some (.UnaryOp .USub (.Constant (.int 1) kk p1) p2)) p3) v (.ref s4.heap.objs.size)) (EP X pins σ Q) X.xe { s4 with heap := s4.heap.push { cls := .type "slice", data := .fields #[.none, .none, vs] } } := by
    intro a xs hx q ev
    subst ev
    obtain ⟨its, r, ht, hz⟩ := I5.list hx
    have hlen := r.length
    refine tail_any (ops := [.ref a, .ref s4.heap.objs.size]) ht.isList.typeIs (PySem.slot_list_getitem.lookup) ?_ (by with_unfolding_all rfl)
    refine wpAny_getItem_list_slice ht.isList (Heap.IsSliceOf.new _ .none .none vs) pl pu ps (by decide) ?_ (by rw [List.size_toArray]; omega)
    rw [PySem.W.krv_pick]
    refine ⟨.ref _, _, I5.laid (t' := s4.toks) (o := .lst xs.reverse) (fun b ob q => Heap.get?_push_of_some _ q) (Nat.le_refl _) ?_, rfl, q _ (I5.hok.fresh (Nat.le_refl _))⟩
    exact ⟨by rw [List.length_reverse]; exact hz, _, 0, r.reverse, Heap.get?_push_size _ rfl⟩
  unfold revD at e
  split at e
  · rename_i l
    cases e
    cases rx with
    | tup hs rs =>
    obtain rfl := r1
    obtain ⟨its, r, ht, hz⟩ := I5.tuple (g.hK ▸ hs.seq)
    have hlen := r.length
    refine tail_any (ops := [.ref _, .ref s4.heap.objs.size]) ht.typeIs (PyProof.Rows.slot_tuple_getitem.lookup) ?_ (by with_unfolding_all rfl)
    refine getItem_tuple_rev ht (Heap.IsSliceOf.new _ .none .none vs) ps ?_ (by rw [List.size_toArray]; omega)
    refine ⟨.ref _, _, I5.laid (t' := s4.toks) (o := .tup _) (fun b ob q => Heap.get?_push_of_some _ q) (Nat.le_refl _) ⟨?_, _, r.reverse, IsTup.new _ _⟩, rfl, q.tup hr1 (rps_rev rs) _ (I5.hok.fresh (Nat.le_refl _))⟩
    rw [List.length_reverse]; exact hz
  · rename_i l
    cases e
    cases rx with
    | str _ h1 h2 =>
    obtain ⟨t, rfl⟩ := r1
    refine tail_any (ops := [.str _ t, .ref s4.heap.objs.size]) (typeIs_str _ _ _) F.slot_str_getitem.lookup ?_ (by with_unfolding_all rfl)
    obtain ⟨u, hu⟩ : ∃ u, vs = .int (-1) u := by cases ps with | int _ u => exact ⟨u, rfl⟩
    subst hu
    refine wpAny_getItem_str_slice (l := none) (u := none) (st := some (-1, u)) (Heap.IsSliceOf.new _ .none .none (.int (-1) u)) rfl ?_
    have e2 := rev_text l u
    unfold Txt.sliceBy at e2
    show Made.post (if _ then Made.val (.str (SX.S l) t) else Made.str ⟨((slicePicked (SX.S l) none none (some (-1, u))).filterMap ((SX.S l).cps[·]?)).toArray⟩) (EP X pins σ Q) _
    rw [if_neg (by intro z; rw [Bool.and_eq_true] at z; exact absurd (show ((-1 : Int) == 1) = true from z.1) (by decide))]
    rw [if_neg (by intro z; rw [Bool.and_eq_true] at z; exact absurd (show ((-1 : Int) == 1) = true from z.1) (by decide))] at e2
    rw [e2]
    refine ⟨?_, .str _, H4, I5.tok _, ⟨_, rfl⟩, q.val hr1 (.str _ (by rw [List.length_reverse]; exact h1) fun c hc => h2 c (List.mem_reverse.mp hc))⟩
    rw [SX.S_len, List.length_reverse, ← lim_eq]; exact h1
  · rename_i d1 n1 n2
    rw [Option.map_eq_some_iff] at e
    obtain ⟨l, hl, rfl⟩ := e
    cases rx <;> simp only [listD] at hl <;> try (cases hl; done)
    · rename_i h0 _ _ rs
      cases hl
      exact lstc _ _ (.inl (.inl h0)) (q.lst hr1 (rps_rev rs)) r1
    · rename_i hn
      obtain ⟨_, vs', hv, rv⟩ := hr1.read hn hl
      exact lstc _ _ (.inl (.inl hv)) (q.lst hr1 (rps_rev rv)) r1
end
end EW

/-! EW: split, index; list(range(..)); calls of what a name holds. -/
namespace EW
open PySem PySem.Spec PyProof.Rows L2
theorem spl_all {P : Nat → Prop} {b : List Nat} : ∀ (a : List Nat) (k : Nat) (acc : List Nat), (∀ c ∈ acc, P c) → (∀ c ∈ a, P c) → ∀ x ∈ TL.spl b k acc a, ∀ c ∈ x, P c
  | [], k, acc, h1, h2, x, hx => by
    rw [TL.spl_nil, List.mem_singleton] at hx
    subst hx; exact h1
  | c :: r, 0, acc, h1, h2, x, hx => by
    unfold TL.spl at hx
    split at hx
    · rcases List.mem_cons.mp hx with rfl | hx
      · exact h1
      · exact spl_all r _ [] (by simp) (fun d hd => h2 d (List.mem_cons_of_mem _ hd)) x hx
    · exact spl_all r 0 (acc ++ [c]) (fun d hd => by
        rcases List.mem_append.mp hd with hd | hd
        · exact h1 d hd
        · rw [List.mem_singleton] at hd; subst hd; exact h2 d List.mem_cons_self) (fun d hd => h2 d (List.mem_cons_of_mem _ hd)) x hx
  | c :: r, k + 1, acc, h1, h2, x, hx => by
    unfold TL.spl at hx
    exact spl_all r k acc h1 (fun d hd => h2 d (List.mem_cons_of_mem _ hd)) x hx
theorem spl_len {b : List Nat} : ∀ (a : List Nat) (k : Nat) (acc : List Nat), ∀ x ∈ TL.spl b k acc a, x.length ≤ acc.length + a.length
  | [], k, acc, x, hx => by
    rw [TL.spl_nil, List.mem_singleton] at hx
    subst hx; simp
  | c :: r, 0, acc, x, hx => by
    unfold TL.spl at hx
    split at hx
    · rcases List.mem_cons.mp hx with rfl | hx
      · omega
      · have := spl_len r _ [] x hx
        simp at this ⊢; omega
    · have := spl_len r 0 (acc ++ [c]) x hx
      simp at this ⊢; omega
  | c :: r, k + 1, acc, x, hx => by
    unfold TL.spl at hx
    have := spl_len r k acc x hx
    simp at this ⊢; omega
theorem strs_rps {W : Wd} {μ ν : List Addr} {H : Hp} : ∀ {l : List (List Nat)}, (∀ x ∈ l, x.length ≤ lim ∧ ∀ c ∈ x, c < 1114112) → Rps W μ ν H ((l.map SX.S).map V.str) (l.map D.str)
  | [], _ => .nil
  | x :: r, h => .cons (.str x (h x List.mem_cons_self).1 (h x List.mem_cons_self).2) (strs_rps fun y hy => h y (List.mem_cons_of_mem _ hy))
section
variable {W : Wd} {Φ : Ph} {C : Ct} {k : Nat} {Wx : WX} {X : Cx}
theorem se_spl (g : Gd W Φ C k Wx X) {o e : Expr} {ap cp : Pos} {ro re : Env → Hs → R D} (hb : baseOk o = true) (hl : (ap.endLine == cp.line) = true) (ho : PE X o (tR W Wx ro)) (he : PE X e (tR W Wx re)) (hs : isStar e = false) :
    PE X (.Call (.Attribute o "split" ap) [e] [] cp) (tR W Wx fun ρ S => (ro ρ S).bind fun x S => match x with
      | .str _ => (re ρ S).bind fun y S => .of S (splD x y)
      | _ => .bad) := by
  refine PE.imp (pe_split ho he (by rw [star_cons hs]; rfl) (base_ok hb) hl) fun σ H Q h => ?_
  obtain ⟨ρ, S, μ, ν, hr, en, h2⟩ := tG_bind (Rel := RelD W) h
  refine ⟨ρ, S, μ, ν, hr, en, h2.imp fun x H1 ⟨ρ1, dx, S1, μ1, ν1, hr1, en1, rx, h3⟩ => ?_⟩
  dsimp only at h3
  split at h3
  case h_2 => exact h3.elim
  rename_i a
  cases rx with
  | str _ hs1 hs2 =>
  refine ⟨⟨_, rfl⟩, ρ1, S1, μ1, ν1, hr1, en1, (Fin.bind (Rel := RelD W ν1) h3).imp fun y H2 ⟨dy, S2, μ2, m2, hr2, ry, h4⟩ => ?_⟩
  obtain ⟨d, e1, q⟩ := Fin.of h4
  unfold splD at e1
  dsimp only at e1
  split at e1
  case h_2 => cases e1
  rename_i b
  split at e1
  case isFalse => cases e1
  rename_i hc
  cases e1
  simp only [Bool.and_eq_true, Bool.not_eq_true', List.isEmpty_eq_false_iff] at hc
  obtain ⟨⟨c1, c2⟩, c3⟩ := hc
  have c3 := Nat.le_of_ble_eq_true c3
  cases ry with
  | str _ hb1 hb2 =>
  refine ⟨_, _, rfl, rfl, ?_, by show (SX.S a).length + 2 ≤ sizeLine; rw [SX.S_len, ← lim_eq]; exact c3, fun p hp => ?_⟩
  · show ((SX.S b).length == 0) = false
    rw [SX.S_len]
    cases b with
    | nil => exact (c1 rfl).elim
    | cons _ _ => rfl
  · have := q.lst hr2 (strs_rps (l := TL.spl b 0 [] a) fun x hx => ⟨?_, spl_all a 0 [] (by simp) hs2 x hx⟩) p hp
    · rw [← SX.split_S c1 c2] at this
      exact this
    · have := spl_len a 0 [] x hx
      simp at this
      omega
theorem occ_one {l : List Nat} {c : Nat} (h : c ∈ l) : ∃ rest, Builtin.Str.occurrences (SX.S l) (SX.S [c]) 0 (SX.S l).length 1 = l.idxOf c :: rest := by
  have key : ∀ i, PySem.StrLaws.At (SX.S l) (SX.S [c]) (SX.S l).length i ↔ l[i]? = some c := fun i => by
    have := PySem.StrLaws.subAt_one (SX.S l) c i
    have e : (SX.S l).cps.toList[i]? = l[i]? := rfl
    rw [e] at this
    exact this
  have hi := List.idxOf_lt_length_of_mem h
  have hget : l[l.idxOf c]? = some c := by rw [List.getElem?_eq_getElem hi, List.getElem_idxOf]
  rcases PySem.StrLaws.occ_head (SX.S l) (SX.S [c]) 1 (Nat.le_refl _) with ⟨_, hn⟩ | ⟨i, r, e, ha, hk⟩
  · exact ((hn _) ((key _).mpr hget)).elim
  · refine ⟨r, ?_⟩
    rw [e]
    congr 1
    have h1 := (key i).mp ha
    have h2 : ¬ l.idxOf c < i := fun z => hk _ z ((key _).mpr hget)
    have h3 : ¬ i < l.idxOf c := fun z => by
      have := List.not_of_lt_findIdx (p := (· == c)) (xs := l) (i := i) z
      have hl := (List.getElem?_eq_some_iff.mp h1)
      rw [hl.2, beq_self_eq_true] at this
      cases this
    omega
theorem se_sidx (g : Gd W Φ C k Wx X) {o e : Expr} {ap cp : Pos} {ro re : Env → Hs → R D} (hb : baseOk o = true) (hl : (ap.endLine == cp.line) = true) (ho : PE X o (tR W Wx ro)) (he : PE X e (tR W Wx re)) (hs : isStar e = false) :
    PE X (.Call (.Attribute o "index" ap) [e] [] cp) (tR W Wx fun ρ S => (ro ρ S).bind fun x S => match x with
      | .str _ => (re ρ S).bind fun y S => .of S (sidxD x y)
      | _ => .bad) := by
  refine PE.imp (pe_m1 F.slot_str_index F.type_str_index mt_sindex ho he (by rw [star_cons hs]; rfl) (base_ok hb) hl) fun σ H Q h => ?_
  obtain ⟨ρ, S, μ, ν, hr, en, h2⟩ := tG_bind (Rel := RelD W) h
  refine ⟨ρ, S, μ, ν, hr, en, h2.imp fun x H1 ⟨ρ1, dx, S1, μ1, ν1, hr1, en1, rx, h3⟩ => ?_⟩
  dsimp only at h3
  split at h3
  case h_2 => exact h3.elim
  rename_i a
  cases rx with
  | str _ hs1 hs2 =>
  refine ⟨⟨_, rfl⟩, ρ1, S1, μ1, ν1, hr1, en1, (Fin.bind (Rel := RelD W ν1) h3).imp fun y H2 ⟨dy, S2, μ2, m2, hr2, ry, h4⟩ => ?_⟩
  obtain ⟨d, e1, q⟩ := Fin.of h4
  unfold sidxD at e1
  dsimp only at e1
  split at e1
  case h_2 => cases e1
  rename_i c
  split at e1
  case isFalse => cases e1
  rename_i hc
  cases e1
  have hm : c ∈ a := by simpa using hc
  obtain ⟨rest, ho⟩ := occ_one hm
  cases ry with
  | str _ hb1 hb2 => exact ⟨_, _, _, rest, rfl, rfl, ho, q.val hr2 (.int _)⟩
theorem rng_rps {W : Wd} {μ ν : List Addr} {H : Hp} : ∀ (n : Nat) (a : Int), Rps W μ ν H ((List.range n).map fun i => V.int (a + (i : Nat))) (rngL a n)
  | 0, _ => .nil
  | n + 1, a => by
    rw [List.range_succ_eq_map, List.map_cons, List.map_map]
    refine .cons (by rw [show (a + ((0 : Nat) : Int)) = a by omega]; exact .int a) ?_
    have := rng_rps (W := W) (μ := μ) (ν := ν) (H := H) n (a + 1)
    have e : ((fun i => V.int (a + (i : Nat))) ∘ Nat.succ) = fun i : Nat => V.int (a + 1 + (i : Nat)) := by
      funext i
      show V.int (a + ((i + 1 : Nat) : Int)) = _
      congr 1
      omega
    rw [e]
    exact this
theorem se_lrng (g : Gd W Φ C k Wx X) (h0 : C.hot = false) {a b : Expr} {ra rb : Env → Hs → R D} {p1 p2 p3 p4 : Pos} (hx : C.glb "list" = true) (hy : C.glb "range" = true) (ha : PE X a (tR W Wx ra)) (hb : PE X b (tR W Wx rb)) (sa : isStar a = false) (sb : isStar b = false) :
    PE X (.Call (.Name "list" p1) [.Call (.Name "range" p2) [a, b] [] p3] [] p4) (tR W Wx fun ρ S => (ra ρ S).bind fun x S => (rb ρ S).bind fun y S => match x, y with
    | .int i, .int j => if fitL i.natAbs && fitL j.natAbs && fitL (j - i).toNat then .ok (.lst (rngL i (j - i).toNat)) S else .bad
    | _, _ => .bad) := by
  obtain ⟨hg, _, _⟩ := g.glb hx
  obtain ⟨hg2, _, _⟩ := g.glb hy
  refine PE.imp (pe_listRg (g.calm h0) hg (g.bl _ (by decide +kernel)) (prg_2 hg2 (g.bl _ (by decide +kernel)) ha hb (star_cons sa) (star_cons sb) (by rw [star_cons sb]; rfl)) (star_cons rfl)) fun σ H Q h => ?_
  obtain ⟨ρ, S, μ, ν, hr, en, h2⟩ := tG_bind (Rel := RelD W) h
  refine ⟨ρ, S, μ, ν, hr, en, h2.imp fun x H1 ⟨ρ1, dx, S1, μ1, ν1, hr1, en1, rx, h3⟩ => ?_⟩
  refine ⟨ρ1, S1, μ1, ν1, hr1, en1, (Fin.bind (Rel := RelD W ν1) h3).imp fun y H2 ⟨dy, S2, μ2, m2, hr2, ry, h4⟩ => ?_⟩
  obtain ⟨i, rfl⟩ : ∃ i, dx = .int i := by cases dx <;> first | exact ⟨_, rfl⟩ | exact h4.elim
  obtain ⟨j, rfl⟩ : ∃ j, dy = .int j := by cases dy <;> first | exact ⟨_, rfl⟩ | exact h4.elim
  dsimp only at h4
  split at h4
  case isFalse => exact h4.elim
  rename_i hc
  simp only [Bool.and_eq_true, fitL] at hc
  obtain ⟨⟨c1, c2⟩, c3⟩ := hc
  have c1 := Nat.le_of_ble_eq_true c1
  have c2 := Nat.le_of_ble_eq_true c2
  have c3 := Nat.le_of_ble_eq_true c3
  cases rx
  cases ry
  unfold lim at c1 c2 c3
  refine ⟨i, j, rfl, rfl, ⟨by omega, by omega, by omega, by omega, by omega⟩, fun q hq => ?_⟩
  exact (show Aft W μ2 ν1 S2 H2 (.lst (rngL i (j - i).toNat)) Q from h4).lst hr2 (rng_rps _ _) q hq
/-- f() -/
theorem pe_callS0 {CX : CXT} {kc : Nat} {f : Addr} {fd : FuncData} {ps : List Str} {sp : Sp} {E : L2.St → XK} {x : Str} {p pos : Pos} (F : FnOk X.prog X.w X.K X.mg X.base CX kc f fd ps sp) (hr : Room kc X.A) (hg : Gl X x) (hm : X.mg x = some (.ref f)) (hk : PySem.W.keepIn X.K (.ref f) = true) (hb : L2.Binds X.K fd ps []) (hx : ∀ σ, PassesAt CX X σ (E σ))
    (hdb : (x == ("__debug__" : Str)) = false) : PE X (.Call (.Name x p) [] [] pos) (fun σ H Q => sp [] H Q (E σ)) := by
  refine ⟨fun pins s σ H Q I h => ?_⟩
  refine wpAny_Call_Name_kw (ld_glob I hg hm ?_ hdb)
  exact PySem.W.callWith_K0 I.kIn hk (run_fnS F hr hb (hx σ) I .nil h)
theorem se_call0 (g : Gd W Φ C k Wx X) {x : Str} {i : Nat} {p pos : Pos} (hx : C.glb x = true) (hf : (C.dfn x i && !C.hot) = true) :
    PE X (.Call (.Name x p) [] [] pos) (tR W Wx fun ρ S => Φ i [] S) := by
  obtain ⟨hg, hd, _⟩ := g.glb hx
  rw [Bool.and_eq_true, Bool.not_eq_true'] at hf
  obtain ⟨at_, kp, fd, ps, F, hb, hl⟩ := g.fns x i hf.1
  refine PE.imp (pe_callS0 (E := WE Wx) F (g.room hf.2) hg at_ kp hb (fun σ => L2N.passAt g.tk σ) hd) fun σ H Q h => ?_
  obtain ⟨ρ, S, μ, ν, hr, en, h⟩ := h
  refine ⟨hl [] S fun z => ?_, [], S, μ, ν, hr, .nil, h⟩
  have h : Fin W μ ν H (RelD W ν) (Φ i [] S) Q (WE Wx σ) := h
  rw [z] at h
  exact h
def tCallVS (i : Nat) (f : Addr) (sp : Sp) (E : L2.St → XK) (t : TA) : TE := fun σ H Q => σ[i]? = some (some (.ref f)) ∧ t σ H fun vs H1 => sp vs H1 Q (E σ)
theorem pe_callVS {CX : CXT} {kc i : Nat} {f : Addr} {fd : FuncData} {ps : List Str} {sp : Sp} {E : L2.St → XK} {x : Str} {e : Expr} {es : List Expr} {t : TA} {p pos : Pos} (F : FnOk X.prog X.w X.K X.mg X.base CX kc f fd ps sp) (hr : Room kc X.A) (hk : PySem.W.keepIn X.K (.ref f) = true) (hb : L2.Binds X.K fd ps []) (hx : ∀ σ, PassesAt CX X σ (E σ))
    (hN : X.N[i]? = some x) (hv : Vis X.env.scope x) (ha : PA X (e :: es) t) (hd : (x == ("__debug__" : Str)) = false) (hcd : (x == ("__classdict__" : Str)) = false) (he : starEach (e :: es) X.env = (false, eval e X.env) :: starEach es X.env) (hpl : (backTo pos (starEach es X.env)).any (·.1) = false) :
    PE X (.Call (.Name x p) (e :: es) [] pos) (tCallVS i f sp E t) := by
  refine ⟨fun pins s σ H Q I h => ?_⟩
  obtain ⟨hs, h⟩ := h
  refine wpAny_Call_Name_kw (thn ((pe_var (pos := p) (i := i) hN hv hd hcd).run pins s σ H (fun v H1 => v = .ref f ∧ H1 = H) I ⟨.ref f, hs, rfl, rfl⟩) fun u s1 ⟨v, H1, I1, r1, ev, eH⟩ => ?_)
  subst ev
  rw [eH] at I1
  cases r1
  refine PySem.W.callWith_K (h₀ := X.base) I1.ok.mod.kin hk (thn (ha.run pos pins s1 σ H _ I1 h) fun us s2 ⟨vs, H2, I2, r, q⟩ => ⟨I2.kIn, ?_⟩) he hpl
  exact run_fnS F hr hb (hx σ) I2 r q
/-- f(..), f held by a name -/
theorem se_callv (g : Gd W Φ C k Wx X) (h0 : C.hot = false) {x : Str} {i : Nat} {fl : List Nat} {e : Expr} {es : List Expr} {p pos : Pos} {rs : Env → Hs → R (List D)} (hx : C.vis x i = true) (hf : (fl.all fun f => C.F.any fun p => C.dfn p.1 f) = true) (ha : PA X (e :: es) (tRs W Wx rs))
    (hs : isStar e = false) (hpl : (backTo pos (starEach es X.env)).any (·.1) = false) :
    PE X (.Call (.Name x p) (e :: es) [] pos) (tR W Wx fun ρ S => match ρ[i]? with
    | some (some (.fn f)) => if fl.contains f then (rs ρ S).bind fun ds S => Φ f ds S else .bad
    | _ => .bad) := by
  obtain ⟨h1, h2, h3, h4⟩ := g.vis hx
  refine ⟨fun pins s σ H Q I h => ?_⟩
  obtain ⟨ρ, S, μ, ν, hr, en, h⟩ := h
  dsimp only at h
  split at h
  case h_2 => exact h.elim
  rename_i f hfi
  split at h
  case isFalse => exact h.elim
  rename_i hfl
  have hfl : f ∈ fl := by simpa using hfl
  obtain ⟨pr, _, hd⟩ := List.any_eq_true.mp (List.all_eq_true.mp hf f hfl)
  obtain ⟨at_, kp, fd, ps, F, hb, hl⟩ := g.fns pr.1 f hd
  obtain ⟨v, e1, rv⟩ := en.get i _ hfi
  cases rv
  refine (pe_callVS (E := WE Wx) F (g.room h0) kp hb (fun σ => L2N.passAt g.tk σ) h1 h2 ha h3 h4 (star_cons hs) hpl).run pins s σ H Q I ⟨e1, ?_⟩
  obtain ⟨ρ, S, μ, ν, hr, en, h2⟩ := tG_bind (Rel := RelDs W) (show tR W Wx (fun ρ S => (rs ρ S).bind fun ds S => Φ f ds S) σ H Q from ⟨ρ, S, μ, ν, hr, en, h⟩)
  refine ⟨ρ, S, μ, ν, hr, en, h2.imp fun vs H1 ⟨ρ1, ds, S1, μ1, ν1, hr1, en1, rx, h3⟩ => ⟨?_, ds, S1, μ1, ν1, hr1, rx, h3⟩⟩
  rw [rx.length]
  refine hl ds S1 fun z => ?_
  have h3 : Fin W μ1 ν1 H1 (RelD W ν1) (Φ f ds S1) Q (WE Wx σ) := h3
  rw [z] at h3
  exact h3
end
end EW

/-! EW: list(zip(a, b)) of two lists. -/
namespace EW
open PySem PySem.Spec PyProof.Rows L2
theorem zip_no_len : typeLookup (.type "zip") "__len__" = pure none := by rw [typeLookup_type, builtinLookup_eq_fast]; kernel_rfl
theorem zip_no_hint : typeLookup (.type "zip") "__length_hint__" = pure none := by rw [typeLookup_type, builtinLookup_eq_fast]; kernel_rfl
/-- between two turns: as, the tuples so far -/
structure ZS (hb : Heap) (z TI TO i1 i2 l1 l2 S : Addr) (xs ys : Array Value) (i : Nat) (as : List Addr) (h : Heap) : Prop where
  ti : IsPair h TI (.ref i1) (.ref i2)
  t1 : h.IsListIter i1 l1 i
  t2 : h.IsListIter i2 l2 i
  a1 : h.IsList l1 xs
  a2 : h.IsList l2 ys
  zz : (IsZip h z TI TO .none ∧ ∃ a b, IsPair h TO a b) ∨ ∃ T f oT, IsZipHeld h z TI TO T f ∧ h.get? T = some oT ∧ T ≠ z ∧ T ≠ i1 ∧ T ≠ i2 ∧ T ≠ S
  kp : ∀ b o, hb.get? b = some o → h.get? b = some o
  sz : hb.objs.size ≤ h.objs.size
  len : as.length = i
  at_ : ∀ (j : Nat) (t : Addr), as[j]? = some t → ∃ x y, xs[j]? = some x ∧ ys[j]? = some y ∧ IsPair h t x y
  lo : ∀ t ∈ as, hb.objs.size ≤ t ∧ t ≠ z ∧ t ≠ TO ∧ t ≠ i1 ∧ t ≠ i2 ∧ t ≠ S
  nd : as.Nodup
  gt : ∀ t ∈ as, t < h.objs.size
  tl : TO < h.objs.size
/-- what lies apart -/
structure ZA (hb : Heap) (z TI TO i1 i2 l1 l2 S : Addr) : Prop where
  D : ZipApart z TI TO i1 i2 l1 l2
  gz : hb.objs.size ≤ z
  gTO : hb.objs.size ≤ TO
  gi1 : hb.objs.size ≤ i1
  gi2 : hb.objs.size ≤ i2
  gS : hb.objs.size ≤ S
  Sz : S ≠ z
  STI : S ≠ TI
  STO : S ≠ TO
  Si1 : S ≠ i1
  Si2 : S ≠ i2
  Sl1 : S ≠ l1
  Sl2 : S ≠ l2
section
variable {hb : Heap} {z TI TO i1 i2 l1 l2 S : Addr} {xs ys : Array Value} {i : Nat} {as : List Addr} {h h' : Heap}
/-- only the list changes -/
theorem ZS.only (st : ZS hb z TI TO i1 i2 l1 l2 S xs ys i as h) (G : ZA hb z TI TO i1 i2 l1 l2 S) (k : ∀ b o, b ≠ S → h.get? b = some o → h'.get? b = some o) (hs : h.objs.size ≤ h'.objs.size) : ZS hb z TI TO i1 i2 l1 l2 S xs ys i as h' where
  ti := k _ _ (Ne.symm G.STI) st.ti
  t1 := st.t1.at fun o e => k _ o (Ne.symm G.Si1) e
  t2 := st.t2.at fun o e => k _ o (Ne.symm G.Si2) e
  a1 := st.a1.at fun o e => k _ o (Ne.symm G.Sl1) e
  a2 := st.a2.at fun o e => k _ o (Ne.symm G.Sl2) e
  zz := by
    rcases st.zz with ⟨hz, a, b, hTO⟩ | ⟨T, f, oT, hz, hT, r1, r2, r3, r4⟩
    · exact .inl ⟨k _ _ (Ne.symm G.Sz) hz, a, b, k _ _ (Ne.symm G.STO) hTO⟩
    · exact .inr ⟨T, f, oT, k _ _ (Ne.symm G.Sz) hz, k _ _ r4 hT, r1, r2, r3, r4⟩
  kp := fun b o e => k b o (fun q => Nat.lt_irrefl _ (Nat.lt_of_lt_of_le (Heap.lt_size e) (q ▸ G.gS))) (st.kp b o e)
  sz := Nat.le_trans st.sz hs
  len := st.len
  at_ := fun j t e => let ⟨x, y, p, q, r⟩ := st.at_ j t e; ⟨x, y, p, q, k _ _ (st.lo t (List.mem_of_getElem? e)).2.2.2.2.2 r⟩
  lo := st.lo
  nd := st.nd
  gt := fun t ht => Nat.lt_of_lt_of_le (st.gt t ht) hs
  tl := Nat.lt_of_lt_of_le st.tl hs
theorem ZS.next (st : ZS hb z TI TO i1 i2 l1 l2 S xs ys i as h) (G : ZA hb z TI TO i1 i2 l1 l2 S) {x y : Value} (ex : xs[i]? = some x) (ey : ys[i]? = some y) (hS : S < h.objs.size)
    (k : ∀ c o, c ≠ z → c ≠ TO → c ≠ i1 → c ≠ i2 → h.get? c = some o → h'.get? c = some o) (a3 : h'.IsListIter i1 l1 (i + 1)) (a4 : h'.IsListIter i2 l2 (i + 1)) (a5 : IsPair h' h.objs.size x y) (a6 : h'.objs.size = h.objs.size + 1)
    (zz : ∃ T f oT, IsZipHeld h' z TI TO T f ∧ h'.get? T = some oT ∧ T ≠ z ∧ T ≠ i1 ∧ T ≠ i2 ∧ T ≠ S) : ZS hb z TI TO i1 i2 l1 l2 S xs ys (i + 1) (as ++ [h.objs.size]) h' where
  ti := k _ _ G.D.TIz G.D.TITO G.D.TIi1 G.D.TIi2 st.ti
  t1 := a3
  t2 := a4
  a1 := st.a1.at fun o e => k _ o G.D.l1z G.D.l1TO G.D.l1i1 G.D.l1i2 e
  a2 := st.a2.at fun o e => k _ o G.D.l2z G.D.l2TO G.D.l2i1 G.D.l2i2 e
  zz := .inr zz
  kp := fun b o e => by
    have hlt := Heap.lt_size e
    exact k b o (fun q => Nat.lt_irrefl _ (Nat.lt_of_lt_of_le hlt (q ▸ G.gz))) (fun q => Nat.lt_irrefl _ (Nat.lt_of_lt_of_le hlt (q ▸ G.gTO))) (fun q => Nat.lt_irrefl _ (Nat.lt_of_lt_of_le hlt (q ▸ G.gi1))) (fun q => Nat.lt_irrefl _ (Nat.lt_of_lt_of_le hlt (q ▸ G.gi2))) (st.kp b o e)
  sz := by rw [a6]; exact Nat.le_succ_of_le st.sz
  len := by rw [List.length_append, List.length_singleton, st.len]
  at_ := fun j t e => by
    by_cases hj : j < as.length
    · rw [List.getElem?_append_left hj] at e
      obtain ⟨x', y', p, q, r⟩ := st.at_ j t e
      obtain ⟨_, n1, n2, n3, n4, _⟩ := st.lo t (List.mem_of_getElem? e)
      exact ⟨x', y', p, q, k _ _ n1 n2 n3 n4 r⟩
    · rw [List.getElem?_append_right (Nat.le_of_not_lt hj)] at e
      have hj2 : j = as.length := by
        have := (List.getElem?_eq_some_iff.mp e).1
        simp at this
        omega
      subst hj2
      rw [Nat.sub_self] at e
      cases e
      rw [st.len]
      exact ⟨x, y, ex, ey, a5⟩
  lo := fun t ht => by
    rcases List.mem_append.mp ht with ht | ht
    · exact st.lo t ht
    · rw [List.mem_singleton] at ht
      subst ht
      have lz : z < h.objs.size := by rcases st.zz with ⟨hz, _⟩ | ⟨_, _, _, hz, _⟩ <;> exact Heap.lt_size hz
      have l1 : i1 < h.objs.size := by obtain ⟨_, e, _⟩ := st.t1; exact Heap.lt_size e
      have l2 : i2 < h.objs.size := by obtain ⟨_, e, _⟩ := st.t2; exact Heap.lt_size e
      exact ⟨st.sz, Nat.ne_of_gt lz, Nat.ne_of_gt st.tl, Nat.ne_of_gt l1, Nat.ne_of_gt l2, Nat.ne_of_gt hS⟩
  nd := by
    rw [List.nodup_append]
    refine ⟨st.nd, by simp, fun a ha b hb => ?_⟩
    rw [List.mem_singleton] at hb
    subst hb
    exact Nat.ne_of_lt (st.gt a ha)
  gt := fun t ht => by
    rw [a6]
    rcases List.mem_append.mp ht with ht | ht
    · exact Nat.lt_succ_of_lt (st.gt t ht)
    · rw [List.mem_singleton] at ht
      rw [ht]; exact Nat.lt_succ_self _
  tl := by rw [a6]; exact Nat.lt_succ_of_lt st.tl
end
section
variable {prog : Program} {w : World} {A : Around} {R : Result → Shared → Prop} {E : Value → Shared → Prop} {hb : Heap} {z TI TO i1 i2 l1 l2 S : Addr} {xs ys : Array Value}
theorem zip_item {i : Nat} {as : List Addr} {s : Shared} {Q : Option Value → Shared → Prop} (st : ZS hb z TI TO i1 i2 l1 l2 S xs ys i as s.heap) (G : ZA hb z TI TO i1 i2 l1 l2 S) (hi : i < min xs.size ys.size) (hS : S < s.heap.objs.size)
    (hQ : ∀ h', ZS hb z TI TO i1 i2 l1 l2 S xs ys (i + 1) (as ++ [s.heap.objs.size]) h' → (∀ o, s.heap.get? S = some o → h'.get? S = some o) → S < h'.objs.size → Q (some (.ref s.heap.objs.size)) { s with heap := h' }) :
    wpAny (model prog w) A (pyNext (.ref z)) Q E s := by
  have ex := Array.getElem?_eq_getElem (Nat.lt_of_lt_of_le hi (Nat.min_le_left xs.size ys.size))
  have ey := Array.getElem?_eq_getElem (Nat.lt_of_lt_of_le hi (Nat.min_le_right xs.size ys.size))
  have lt : ∀ {c o}, s.heap.get? c = some o → s.heap.objs.size ≠ c := fun e => Nat.ne_of_gt (Heap.lt_size e)
  have n1 : s.heap.objs.size ≠ i1 := let ⟨_, e, _⟩ := st.t1; lt e
  have n2 : s.heap.objs.size ≠ i2 := let ⟨_, e, _⟩ := st.t2; lt e
  rcases st.zz with ⟨hz, a, b, hTO⟩ | ⟨T, f, oT, hz, hT, r1, r2, r3, r4⟩
  · refine wpAny_pyNext_zip_item G.D hz st.ti hTO st.t1 st.t2 st.a1 st.a2 ex ey fun h' a1 a2 a3 a4 a5 a6 hk => ?_
    exact hQ h' (st.next G ex ey hS hk a3 a4 a5 a6 ⟨_, false, _, a1, a5, lt hz, n1, n2, Nat.ne_of_gt hS⟩) (fun o e => hk S o G.Sz G.STO G.Si1 G.Si2 e) (by rw [a6]; exact Nat.lt_succ_of_lt hS)
  · refine wpAny_pyNext_zip_item_held G.D hz hT st.ti st.t1 st.t2 st.a1 st.a2 ex ey fun h' a1 a3 a4 a5 a6 hk => ?_
    exact hQ h' (st.next G ex ey hS (fun c o c1 _ c3 c4 e => hk c o c1 c3 c4 e) a3 a4 a5 a6 ⟨T, true, oT, a1, hk _ _ r1 r2 r3 hT, r1, r2, r3, r4⟩) (fun o e => hk S o G.Sz G.Si1 G.Si2 e) (by rw [a6]; exact Nat.lt_succ_of_lt hS)
theorem zip_end {as : List Addr} {s : Shared} {Q : Option Value → Shared → Prop} (hh : A.handled = none) (st : ZS hb z TI TO i1 i2 l1 l2 S xs ys (min xs.size ys.size) as s.heap) (G : ZA hb z TI TO i1 i2 l1 l2 S)
    (hQ : ∀ h', (∀ b o, hb.get? b = some o → h'.get? b = some o) → (∀ (j : Nat) (t : Addr), as[j]? = some t → ∃ x y, xs[j]? = some x ∧ ys[j]? = some y ∧ IsPair h' t x y) → (∀ o, s.heap.get? S = some o → h'.get? S = some o) → Q none { s with heap := h' }) :
    wpAny (model prog w) A (pyNext (.ref z)) Q E s := by
  have hend : xs[min xs.size ys.size]? = none ∨ ys[min xs.size ys.size]? = none := by
    rcases Nat.le_total xs.size ys.size with h | h
    · exact .inl (Array.getElem?_eq_none (by rw [Nat.min_eq_left h]; exact Nat.le_refl _))
    · exact .inr (Array.getElem?_eq_none (by rw [Nat.min_eq_right h]; exact Nat.le_refl _))
  have fin : ∀ h', (∀ c o, c ≠ z → c ≠ TO → c ≠ i1 → c ≠ i2 → s.heap.get? c = some o → h'.get? c = some o) → Q none { s with heap := h' } := fun h' k => by
    refine hQ h' (fun b o e => ?_) (fun j t e => ?_) fun o e => k S o G.Sz G.STO G.Si1 G.Si2 e
    · have hlt := Heap.lt_size e
      exact k b o (fun q => Nat.lt_irrefl _ (Nat.lt_of_lt_of_le hlt (q ▸ G.gz))) (fun q => Nat.lt_irrefl _ (Nat.lt_of_lt_of_le hlt (q ▸ G.gTO))) (fun q => Nat.lt_irrefl _ (Nat.lt_of_lt_of_le hlt (q ▸ G.gi1))) (fun q => Nat.lt_irrefl _ (Nat.lt_of_lt_of_le hlt (q ▸ G.gi2))) (st.kp b o e)
    · obtain ⟨x, y, p, q, r⟩ := st.at_ j t e
      obtain ⟨_, n1, n2, n3, n4, _⟩ := st.lo t (List.mem_of_getElem? e)
      exact ⟨x, y, p, q, k _ _ n1 n2 n3 n4 r⟩
  rcases st.zz with ⟨hz, a, b, hTO⟩ | ⟨T, f, oT, hz, hT, r1, r2, r3, r4⟩
  · exact wpAny_pyNext_zip_end hh G.D hz st.ti hTO st.t1 st.t2 st.a1 st.a2 hend fun h' hk => fin h' hk
  · exact wpAny_pyNext_zip_end_held hh G.D hz hT st.ti st.t1 st.t2 st.a1 st.a2 hend fun h' hk => fin h' fun c o c1 _ c3 c4 e => hk c o c1 c3 c4 e
/-- what the filled list says -/
def ZDone (hb : Heap) (S : Addr) (xs ys : Array Value) (h' : Heap) (as : List Addr) (acc : Array Value) (c : Nat) : Prop :=
  (∀ b o, hb.get? b = some o → h'.get? b = some o) ∧ (∀ (j : Nat) (t : Addr), as[j]? = some t → ∃ x y, xs[j]? = some x ∧ ys[j]? = some y ∧ IsPair h' t x y) ∧ h'.get? S = some { cls := .type "list", dict := none, data := .seq acc c, slots := #[] } ∧ acc.toList = as.map Value.ref ∧ as.length = min xs.size ys.size ∧ as.Nodup ∧ ∀ t ∈ as, hb.objs.size ≤ t ∧ t ≠ S
theorem zip_loop (hh : A.in1.handled = none) (G : ZA hb z TI TO i1 i2 l1 l2 S) (hn : min xs.size ys.size ≤ sizeLine) (res : Value) : ∀ (k i : Nat) (s : Shared) (as : List Addr) (acc : Array Value) (c : Nat), min xs.size ys.size - i = k → i ≤ min xs.size ys.size → ZS hb z TI TO i1 i2 l1 l2 S xs ys i as s.heap →
    s.heap.get? S = some { cls := .type "list", dict := none, data := .seq acc c, slots := #[] } → acc.toList = as.map Value.ref →
    (∀ h' as' acc' c', ZDone hb S xs ys h' as' acc' c' → R (.ok (.ret res)) { s with heap := h' }) →
    codeAny (model prog w) A (.builtin "list.extend.loop" ⟨[.ref S, .ref z, res], []⟩) R s := by
  intro k
  induction k with
  | zero =>
    intro i s as acc c hk hi st hS hacc hR
    have hin : i = min xs.size ys.size := by omega
    subst hin
    refine codeAny_builtin F.entry_extend_loop ?_
    rw [Around.under_plainId F.plain_extend_loop _]
    show wpAny _ A.in1 (pyNext (.ref z) >>= _) _ _ s
    refine wpAny_bind (zip_end hh st G fun h' k1 k2 k3 => ?_)
    exact wpAny_pure (hR h' as acc c ⟨k1, k2, k3 _ hS, hacc, st.len, st.nd, fun t ht => ⟨(st.lo t ht).1, (st.lo t ht).2.2.2.2.2⟩⟩)
  | succ k ih =>
    intro i s as acc c hk hi st hS hacc hR
    have hlt : i < min xs.size ys.size := by omega
    refine codeAny_builtin F.entry_extend_loop ?_
    rw [Around.under_plainId F.plain_extend_loop _]
    show wpAny _ A.in1 (pyNext (.ref z) >>= _) _ _ s
    refine wpAny_bind (zip_item st G hlt (Heap.lt_size hS) fun h' st' k3 hS' => ?_)
    have hS2 := k3 _ hS
    have hsz : acc.size = i := by rw [← Array.length_toList, hacc, List.length_map, st.len]
    show wpAny _ A.in1 (updateSeq S (·.push (.ref s.heap.objs.size)) >>= _) _ _ { s with heap := h' }
    refine wpAny_bind ?_
    refine wpAny_updateSeq (s := { s with heap := h' }) hS2 rfl (wpAny_pure ⟨plainId_quiet F.plain_extend_loop _, ih (i + 1) { s with heap := h'.update S (Obj.mapSeq (·.push (.ref s.heap.objs.size))) } (as ++ [s.heap.objs.size]) (acc.push (.ref s.heap.objs.size)) _ (by omega) hlt (st'.only G (fun b o hb e => (Heap.get?_update_other _ _ (Ne.symm hb)).trans e) (Nat.le_of_eq (Heap.size_update ..).symm)) (Heap.get?_update_self _ hS2 rfl) (by rw [Array.toList_push, hacc, List.map_append]; rfl) fun h'' as' acc' c' hd => hR h'' as' acc' c' hd⟩)
      (by rw [hsz]; omega) (by show (acc.push _).size ≤ sizeLine + 1; rw [Array.size_push, hsz]; omega)
theorem zip_type {i : Nat} {as : List Addr} {s : Shared} (st : ZS hb z TI TO i1 i2 l1 l2 S xs ys i as s.heap) : s.TypeIs (.ref z) "zip" := by
  rcases st.zz with ⟨hz, _⟩ | ⟨T, f, oT, hz, _⟩
  · exact ⟨_, hz, rfl⟩
  · exact ⟨_, hz, rfl⟩
theorem zip_self {s : Shared} {Q : Value → Shared → Prop} {as : List Addr} (hz : IsZip s.heap z TI TO .none) (h : Q (.ref z) s) : wpAny (model prog w) A (pyIter (.ref z)) Q E s := wpAny_pyIter_zip hz h
theorem zip_extend (hh : A.in1.handled = none) (G : ZA hb z TI TO i1 i2 l1 l2 S) (hn : min xs.size ys.size ≤ sizeLine) {s : Shared} (res : Value) (c₀ : Nat) (st : ZS hb z TI TO i1 i2 l1 l2 S xs ys 0 [] s.heap) (hz : IsZip s.heap z TI TO .none)
    (hS : s.heap.get? S = some { cls := .type "list", data := .seq #[] c₀ })
    (hR : ∀ h' as' acc' c', ZDone hb S xs ys h' as' acc' c' → R (.ok (.ret res)) { s with heap := h' }) :
    wpAny (model prog w) A.in1 (Builtin.List.listExtendWith (.ref S) (.ref z) res)
      (fun fin s' => match fin with | .done f => R (.ok f) s' | .again c' => c'.quiet = true ∧ codeAny (model prog w) A c' R s') (fun e s' => R (.error e) s') s := by
  unfold Builtin.List.listExtendWith
  refine wpAny_bind (wpAny_typeOf (zip_type st) ?_)
  have h1 : Builtin.List.listSameRef (.ref S) (.ref z) = false := by simp [Builtin.List.listSameRef, G.Sz]
  have h2 : (Value.type "zip" == Value.type "list") = false := by decide
  have h3 : (Value.type "zip" == Value.type "tuple") = false := by decide
  simp only [h1, h2, h3, Bool.or_false, Bool.false_eq_true, if_false]
  refine wpAny_bind (wpAny_pyIter_zip hz ?_)
  refine wpAny_bind (wpAny_holding ?_)
  unfold Builtin.List.listLengthHint
  refine wpAny_bind (wpAny_specialOf (zip_type st) zip_no_len ?_)
  show wpAny _ A.in1 (specialOf (Value.ref z) (Str.ofString "__length_hint__") >>= _) _ _ _
  refine wpAny_bind (wpAny_specialOf (zip_type st) zip_no_hint ?_)
  refine wpAny_pure ?_
  show wpAny _ A.in1 (rule "list.extend.makes-room" >>= fun _ => Builtin.List.listTouch (.ref S) >>= fun _ =>
    again (.builtin "list.extend.loop" ⟨[.ref S, .ref z, res], []⟩)) _ _ _
  refine wpAny_bind (wpAny_rule ?_)
  refine wpAny_bind ?_
  show wpAny _ A.in1 (updateSeq S (·.push .none) >>= fun _ => updateSeq S (·.pop)) _ _ _
  refine wpAny_bind (wpAny_updateSeq hS rfl ?_)
  have hS₂ := Heap.get?_update_self (Obj.mapSeq (·.push Value.none)) hS rfl
  refine wpAny_updateSeq (hz := by seq_fits) hS₂ rfl ?_
  have hS₃ := Heap.get?_update_self (Obj.mapSeq (·.pop)) hS₂ rfl
  have oth : ∀ b o, b ≠ S → s.heap.get? b = some o → ((s.heap.update S (Obj.mapSeq (·.push Value.none))).update S (Obj.mapSeq (·.pop))).get? b = some o :=
    fun b o hb e => (Heap.get?_update_other _ _ (Ne.symm hb)).trans ((Heap.get?_update_other _ _ (Ne.symm hb)).trans e)
  refine wpAny_pure ⟨plainId_quiet F.plain_extend_loop _, zip_loop hh G hn res _ 0 _ [] #[] _ rfl (Nat.zero_le _) (st.only G oth ?_) hS₃ rfl fun h' as' acc' c' hd => hR h' as' acc' c' hd⟩
  exact Nat.le_of_eq (by rw [Heap.size_update, Heap.size_update])
theorem zip_init (hh : A.in1.handled = none) (G : ZA hb z TI TO i1 i2 l1 l2 S) (hn : min xs.size ys.size ≤ sizeLine) {s : Shared} (st : ZS hb z TI TO i1 i2 l1 l2 S xs ys 0 [] s.heap) (hz : IsZip s.heap z TI TO .none)
    (hS : s.heap.get? S = some { cls := .type "list", data := .seq #[] })
    (hR : ∀ h' as' acc' c', ZDone hb S xs ys h' as' acc' c' → R (.ok (.ret .none)) { s with heap := h' }) :
    wpAny (model prog w) A.in1 (Builtin.«list.__init__» ⟨[.ref S, .ref z], []⟩)
      (fun fin s' => match fin with | .done f => R (.ok f) s' | .again c' => c'.quiet = true ∧ codeAny (model prog w) A c' R s') (fun e s' => R (.error e) s') s := by
  show wpAny _ A.in1 (do let old ← Builtin.List.listItems (.ref S); Builtin.List.listUpdate (.ref S) (fun _ => #[]); letGo old.toList.reverse; Builtin.List.listExtendWith (.ref S) (.ref z) .none) _ _ s
  refine wpAny_bind ?_
  unfold Builtin.List.listItems
  refine wpAny_bind (wpAny_seqItems hS rfl (wpAny_pure ?_))
  show wpAny _ A.in1 (updateSeq S (fun _ => #[]) >>= fun _ => letGo (#[] : Array Value).toList.reverse >>= fun _ => Builtin.List.listExtendWith (.ref S) (.ref z) .none) _ _ s
  refine wpAny_bind (wpAny_updateSeq hS rfl ?_)
  have hS₂ := Heap.get?_update_self (Obj.mapSeq (fun _ => (#[] : Array Value))) hS rfl
  have oth : ∀ b o, b ≠ S → s.heap.get? b = some o → (s.heap.update S (Obj.mapSeq (fun _ => (#[] : Array Value)))).get? b = some o :=
    fun b o hb e => (Heap.get?_update_other _ _ (Ne.symm hb)).trans e
  refine wpAny_bind (wpAny_letGo ?_)
  exact zip_extend (s := { s with heap := s.heap.update S (Obj.mapSeq (fun _ => (#[] : Array Value))) }) hh G hn .none _ (st.only G oth (Nat.le_of_eq (Heap.size_update ..).symm)) (oth _ _ (Ne.symm G.Sz) hz) hS₂ fun h' as' acc' c' hd => hR h' as' acc' c' hd
end
section
variable {prog : Program} {w : World} {A : Around} {E : Value → Shared → Prop} {s : Shared} {l1 l2 : Addr} {xs ys : Array Value}
theorem za_apart (n l1 l2 : Nat) (h1 : l1 < n) (h2 : l2 < n) : n ≤ n + 4 ∧ n ≤ n + 3 ∧ n ≤ n ∧ n ≤ n + 1 ∧ n ≤ n + 5 ∧ n + 5 ≠ n + 4 ∧ n + 5 ≠ n + 2 ∧ n + 5 ≠ n + 3 ∧ n + 5 ≠ n ∧ n + 5 ≠ n + 1 ∧ n + 5 ≠ l1 ∧ n + 5 ≠ l2 := by omega
/-- list(zip(l1, l2)): the zip is made, then the list -/
theorem call_list_zip {Q : Value → Shared → Prop} (hh : A.in1.in1.handled = none) (hl1 : s.heap.IsList l1 xs) (hl2 : s.heap.IsList l2 ys) (hn : min xs.size ys.size ≤ sizeLine)
    (hQ : ∀ h' as' acc' c', ZDone s.heap (s.heap.objs.size + 5) xs ys h' as' acc' c' → Q (.ref (s.heap.objs.size + 5)) { s with heap := h' }) :
    wpAny (model prog w) A (call (.type "zip") [.ref l1, .ref l2]) (fun v s1 => wpAny (model prog w) A (call (.type "list") [v]) Q E s1) E s := by
  refine call_zip_2 hl1 hl2 fun h1 hz hTI hTO t1 t2 hsz hk => ?_
  have b1 : l1 < s.heap.objs.size := by obtain ⟨o, e, _⟩ := hl1; exact Heap.lt_size e
  have b2 : l2 < s.heap.objs.size := by obtain ⟨o, e, _⟩ := hl2; exact Heap.lt_size e
  have hS : (h1.push { cls := .type "list", data := .seq #[] }).get? h1.objs.size = some { cls := .type "list", data := .seq #[] } := Heap.get?_push_size _ rfl
  rw [hsz] at hS
  have D : ZipApart (s.heap.objs.size + 4) (s.heap.objs.size + 2) (s.heap.objs.size + 3) s.heap.objs.size (s.heap.objs.size + 1) l1 l2 := PySem.W.ktu_apart s.heap.objs.size l1 l2 b1 b2
  have G : ZA s.heap (s.heap.objs.size + 4) (s.heap.objs.size + 2) (s.heap.objs.size + 3) s.heap.objs.size (s.heap.objs.size + 1) l1 l2 (s.heap.objs.size + 5) := by
    obtain ⟨a1, a2, a3, a4, a5, a6, a7, a8, a9, a10, a11, a12⟩ := za_apart s.heap.objs.size l1 l2 b1 b2
    exact ⟨D, a1, a2, a3, a4, a5, a6, a7, a8, a9, a10, a11, a12⟩
  have kp : ∀ b o, h1.get? b = some o → (h1.push { cls := .type "list", data := .seq #[] }).get? b = some o := fun b o e => Heap.get?_push_of_some _ e
  have st : ZS s.heap (s.heap.objs.size + 4) (s.heap.objs.size + 2) (s.heap.objs.size + 3) s.heap.objs.size (s.heap.objs.size + 1) l1 l2 (s.heap.objs.size + 5) xs ys 0 [] (h1.push { cls := .type "list", data := .seq #[] }) :=
    { ti := kp _ _ hTI, t1 := t1.at fun o e => kp _ o e, t2 := t2.at fun o e => kp _ o e, a1 := hl1.at fun o e => kp _ o (hk _ _ e), a2 := hl2.at fun o e => kp _ o (hk _ _ e)
      zz := .inl ⟨kp _ _ hz, _, _, kp _ _ hTO⟩, kp := fun b o e => kp _ _ (hk _ _ e), sz := by rw [Heap.size_push, hsz]; omega, len := rfl, at_ := fun j t e => by simp at e, lo := fun t ht => by simp at ht, nd := List.nodup_nil, gt := fun t ht => by simp at ht
      tl := by rw [Heap.size_push, hsz]; exact Nat.lt_succ_of_lt (Nat.lt_succ_of_lt (Nat.lt_succ_self _)) }
  refine callType_codes (Q₁ := fun obj s₁ => obj = .ref h1.objs.size ∧ s₁ = { s with heap := h1.push { cls := .type "list", data := .seq #[] } }) F.called_list (F.typeCall_list_1 _) F.entry_list_init
    (code_list_new _ ⟨rfl, rfl⟩) fun obj s₁ h₁ => ?_
  obtain ⟨rfl, rfl⟩ := h₁
  rw [hsz]
  refine ⟨⟨_, hS, rfl⟩, F.args_list_init_2 _ _, zip_init (A := A.in1) hh G hn (s := { s with heap := h1.push { cls := .type "list", data := .seq #[] } }) st (kp _ _ hz) hS fun h' as' acc' c' hd => ?_⟩
  exact ⟨rfl, hQ h' as' acc' c' hd⟩
end
def putP : Hp → List Addr → List (V × V) → Hp
  | H, a :: as, p :: ps => putP (upd H a (.tup [p.1, p.2])) as ps
  | H, _, _ => H
theorem putP_off : ∀ (as : List Addr) (ps : List (V × V)) (H : Hp) {b : Addr}, b ∉ as → putP H as ps b = H b
  | [], _, _, _, _ => by unfold putP; rfl
  | _ :: _, [], _, _, _ => by unfold putP; rfl
  | a :: as, p :: ps, H, b, h => by
    unfold putP
    rw [putP_off as ps _ (fun z => h (List.mem_cons_of_mem _ z)), upd_ne (fun z => h (by rw [z]; exact List.mem_cons_self))]
theorem putP_at : ∀ (as : List Addr) (ps : List (V × V)) (H : Hp), as.Nodup → ∀ {j : Nat} {t : Addr} {p : V × V}, as[j]? = some t → ps[j]? = some p → putP H as ps t = some (.tup [p.1, p.2])
  | [], _, _, _, j, t, p, e, _ => by simp at e
  | _ :: _, [], _, _, j, t, p, _, e => by simp at e
  | a :: as, q :: ps, H, nd, 0, t, p, e1, e2 => by
    cases e1
    cases e2
    unfold putP
    rw [putP_off as ps _ (List.nodup_cons.mp nd).1, upd_same]
  | a :: as, q :: ps, H, nd, j + 1, t, p, e1, e2 => by
    unfold putP
    exact putP_at as ps _ (List.nodup_cons.mp nd).2 (by simpa using e1) (by simpa using e2)
theorem zips_laid {X : Cx} {pins : List (Addr × Obj)} {σ : L2.St} {H : Hp} {s : Shared} {h' : Heap} {xs ys : List V} {vs us : List Value} {acc : Array Value} {c : Nat} {as : List Addr} {S : Addr} (I : Inv X pins σ H s) (rx : Vals xs vs) (ry : Vals ys us) (hz : min xs.length ys.length ≤ sizeLine) (hS : s.heap.objs.size ≤ S)
    (d : ZDone s.heap S vs.toArray us.toArray h' as acc c) :
    ∃ H' : Hp, (∀ b o, H b = some o → H' b = some o) ∧ H S = none ∧ (∀ t ∈ as, H t = none) ∧ H' S = some (.lst (as.map V.ref)) ∧ as.length = min xs.length ys.length ∧ (∀ (j : Nat) (t : Addr) (x y : V), as[j]? = some t → xs[j]? = some x → ys[j]? = some y → H' t = some (.tup [x, y])) ∧ Inv X pins σ H' { s with heap := h' } := by
  obtain ⟨k1, k2, k3, k4, k5, k6, k7⟩ := d
  have lx := rx.length
  have ly := ry.length
  have hlen : as.length = min xs.length ys.length := by rw [k5, List.size_toArray, List.size_toArray, lx, ly]
  have hSn : S ∉ as := fun z => (k7 _ z).2 rfl
  have new : ∀ t ∈ as, H t = none := fun t ht => I.hok.fresh (k7 t ht).1
  have newS : H S = none := I.hok.fresh hS
  let ps := xs.zip ys
  have zip_at : ∀ (j : Nat) (x y : V), xs[j]? = some x → ys[j]? = some y → ps[j]? = some (x, y) := fun j x y ex ey => by
    show (xs.zip ys)[j]? = _
    rw [List.getElem?_zip_eq_some]
    exact ⟨ex, ey⟩
  have atP : ∀ (j : Nat) (t : Addr) (x y : V), as[j]? = some t → xs[j]? = some x → ys[j]? = some y → putP (upd H S (.lst (as.map V.ref))) as ps t = some (.tup [x, y]) := fun j t x y et ex ey => putP_at as ps _ k6 et (zip_at j x y ex ey)
  have off : ∀ b, b ∉ as → b ≠ S → putP (upd H S (.lst (as.map V.ref))) as ps b = H b := fun b h1 h2 => by rw [putP_off as ps _ h1, upd_ne h2]
  have low : ∀ b o, s.heap.get? b = some o → b ∉ as ∧ b ≠ S := fun b o e => ⟨fun z => absurd (Heap.lt_size e) (Nat.not_lt.mpr (k7 b z).1), fun z => absurd (Heap.lt_size e) (Nat.not_lt.mpr (z ▸ hS))⟩
  have kp : ∀ b u, H b = some u → (putP (upd H S (.lst (as.map V.ref))) as ps) b = some u := fun b u e => by
    rw [off b (fun z => by rw [new b z] at e; cases e) (fun z => by rw [z, newS] at e; cases e)]
    exact e
  have eS : putP (upd H S (.lst (as.map V.ref))) as ps S = some (.lst (as.map V.ref)) := by rw [putP_off as ps _ hSn, upd_same]
  refine ⟨putP (upd H S (.lst (as.map V.ref))) as ps, kp, newS, new, eS, hlen, atP, ?_⟩
  refine I.call' (ch := []) rfl ⟨fun b o q _ _ _ => k1 b o q, fun b o q _ _ _ => ⟨o.slots, k1 b o q⟩, fun b o q n _ => ?_, fun b o q _ => ⟨o, k1 b o q⟩, fun b xs q => kp b _ q, fun b o u q => kp b _ q, fun b ps q => ⟨#[], by rw [kp b _ q]; simp⟩⟩ (fun b u q => ?_) I.bare fun b z => by simp at z
  · obtain ⟨z1, z2⟩ := low b o q
    rw [off b z1 z2]
    exact n
  · by_cases hb : b ∈ as
    · obtain ⟨j, hj, e1⟩ := List.getElem_of_mem hb
      have e1 : as[j]? = some b := by rw [List.getElem?_eq_getElem hj, e1]
      obtain ⟨v1, u1, f1, f2, f3⟩ := k2 j b e1
      have f1 : vs[j]? = some v1 := by simpa using f1
      have f2 : us[j]? = some u1 := by simpa using f2
      have hx : j < xs.length := by rw [lx]; exact (List.getElem?_eq_some_iff.mp f1).1
      have hy : j < ys.length := by rw [ly]; exact (List.getElem?_eq_some_iff.mp f2).1
      rw [atP j b _ _ e1 (List.getElem?_eq_getElem hx) (List.getElem?_eq_getElem hy)] at q
      cases q
      obtain ⟨v2, g1, g2⟩ := rx.get (List.getElem?_eq_getElem hx)
      obtain ⟨u2, g3, g4⟩ := ry.get (List.getElem?_eq_getElem hy)
      rw [f1] at g1
      rw [f2] at g3
      cases g1
      cases g3
      exact ⟨by show 2 ≤ sizeLine; decide, [v1, u1], .cons g2 (.cons g4 .nil), ⟨_, f3, rfl, _, rfl⟩⟩
    · by_cases hb2 : b = S
      · rw [hb2] at q ⊢
        rw [eS] at q
        cases q
        refine ⟨by rw [List.length_map, hlen]; exact hz, acc.toList, c, by rw [k4]; exact LiI.vals_refs as, ?_⟩
        rw [Array.toArray_toList]
        exact k3
      · rw [off b hb hb2] at q
        exact (I.hok b u q).stay (fun d v _ y => k1 d v y) (fun d y => kp d _ y) fun d xs y => kp d _ y
section
variable {W : Wd} {Φ : Ph} {C : Ct} {k : Nat} {Wx : WX} {X : Cx}
theorem zip_rps {W : Wd} {μ ν : List Addr} {H H' : Hp} (m : Mo μ H μ H') : ∀ {xs ys : List V} {l1 l2 : List D} {as : List Addr}, Rps W μ ν H xs l1 → Rps W μ ν H ys l2 → as.length = min xs.length ys.length → (∀ t ∈ as, t ∉ μ ∧ t ∉ ν) → (∀ (j : Nat) (t : Addr) (x y : V), as[j]? = some t → xs[j]? = some x → ys[j]? = some y → H' t = some (.tup [x, y])) →
    Rps W μ ν H' (as.map V.ref) (zipL l1 l2)
  | [], ys, _, l2, as, .nil, _, h, _, _ => by
    have : as = [] := List.eq_nil_of_length_eq_zero (by simpa using h)
    subst this
    exact .nil
  | _ :: _, [], _ :: _, _, as, .cons _ _, .nil, h, _, _ => by
    have : as = [] := List.eq_nil_of_length_eq_zero (by simpa using h)
    subst this
    exact .nil
  | x :: xs, y :: ys, _ :: _, _ :: _, [], .cons _ _, .cons _ _, h, _, _ => by simp at h
  | x :: xs, y :: ys, _ :: _, _ :: _, t :: as, .cons a b, .cons a2 b2, h, hn, hq => by
    refine .cons (.tup (.inl ⟨hq 0 t x y rfl rfl rfl, (hn t List.mem_cons_self).1, (hn t List.mem_cons_self).2⟩) (.cons (a.mo m) (.cons (a2.mo m) .nil))) ?_
    exact zip_rps m b b2 (by simp at h; omega) (fun u hu => hn u (List.mem_cons_of_mem _ hu)) fun j t x y e1 e2 e3 => hq (j + 1) t x y (by simpa using e1) (by simpa using e2) (by simpa using e3)
theorem HR.stands {W : Wd} {μ ν : List Addr} {S : Hs} {H : Hp} (h : HR W μ ν S H) {a : Addr} (ha : a ∈ μ) : ∃ o, H a = some o := by
  obtain ⟨n, hn, e⟩ := List.getElem_of_mem ha
  have hS : n < S.length := by rw [← h.len]; exact hn
  exact (h.cell n a S[n] (by rw [List.getElem?_eq_getElem hn, e]) (List.getElem?_eq_getElem hS)).there
theorem se_lzip (g : Gd W Φ C k Wx X) (h0 : C.hot = false) {a b : Expr} {rs : Env → Hs → R (List D)} {p1 p2 p3 p4 : Pos} (hx : C.glb "list" = true) (hy : C.glb "zip" = true) (ha : PA X [a, b] (tRs W Wx rs)) (sa : isStar a = false) (sb : isStar b = false) :
    PE X (.Call (.Name "list" p1) [.Call (.Name "zip" p2) [a, b] [] p3] [] p4) (tR W Wx fun ρ S => (rs ρ S).bind fun ds S => match ds with
    | [x, y] => match listD x S, listD y S with
      | some l, some m => if fitL l.length then .ok (.lst (zipL l m)) S else .bad
      | _, _ => .bad
    | _ => .bad) := by
  obtain ⟨hg, _, _⟩ := g.glb hx
  obtain ⟨hg2, _, _⟩ := g.glb hy
  refine ⟨fun pins s σ H Q I h => ?_⟩
  obtain ⟨ρ, S, μ, ν, hr, en, h2⟩ := tG_bind (Rel := RelDs W) h
  refine Call_ (ld_blt I hg (g.bl _ (by decide +kernel)) boot_list (PyProof.Rows.callWith_type1 (args_cons ?_ (star_cons rfl)) (star_cons rfl)))
  refine Call_ (ld_blt I hg2 (g.bl _ (by decide +kernel)) PyProof.Rows.boot_zip (PyProof.Rows.callWith_type1 (thn (ha.run p3 pins s σ H _ I ⟨ρ, S, μ, ν, hr, en, h2⟩) fun us s1 ⟨vs, H1, I1, r1, q1⟩ => ?_) (star_cons sa) (by rw [star_cons sb]; rfl)))
  obtain ⟨ρ1, ds, S1, μ1, ν1, hr1, en1, rx, h3⟩ := q1
  dsimp only at h3
  cases rx with
  | nil => exact h3.elim
  | cons e1 rx => cases rx with
    | nil => exact h3.elim
    | cons e2 rx => cases rx with
      | cons _ _ => exact h3.elim
      | nil =>
        dsimp only at h3
        split at h3
        case h_2 => exact h3.elim
        rename_i l m hl hm
        split at h3
        case isFalse => exact h3.elim
        rename_i hf
        have hf := Nat.le_of_ble_eq_true hf
        have lst_of : ∀ {v : V} {d : D} {l : List D}, Rp W μ1 ν1 H1 v d → listD d S1 = some l → ∃ (a : Addr) (xs : List V), v = .ref a ∧ SqL X.K H1 a xs ∧ Rps W μ1 ν1 H1 xs l := fun {v d l} rv hl => by
          cases rv <;> simp only [listD] at hl <;> try (cases hl; done)
          · rename_i h0 _ _ rr
            cases hl
            exact ⟨_, _, rfl, .inl (.inl h0), rr⟩
          · rename_i hn
            obtain ⟨_, us, hv, rr⟩ := hr1.read hn hl
            exact ⟨_, us, rfl, .inl (.inl hv), rr⟩
        obtain ⟨a1, xs, rfl, qx, rrx⟩ := lst_of e1 hl
        obtain ⟨a2, ys, rfl, qy, rry⟩ := lst_of e2 hm
        cases r1 with
        | cons v1 r1 => cases r1 with
          | cons v2 r1 =>
            cases r1
            cases v1
            cases v2
            obtain ⟨its, rv, p1', _⟩ := I1.list qx
            obtain ⟨its2, rv2, p2', _⟩ := I1.list qy
            have hmin : min xs.length ys.length ≤ sizeLine := by
              rw [← lim_eq]
              exact Nat.le_trans (Nat.min_le_left _ _) (by rw [rrx.length]; exact hf)
            refine wpAny_mono (call_list_zip (Q := EP X pins σ Q) (I1.ok.hd (g.calm h0)) p1'.isList p2'.isList (by rw [List.size_toArray, List.size_toArray, ← rv.length, ← rv2.length]; exact hmin) fun h' as' acc' c' hd => ?_) (fun v s2 hv => ?_) fun _ _ z => z
            · obtain ⟨H', z1, z2, z3, z4, z5, z6, J⟩ := zips_laid I1 rv rv2 hmin (Nat.le_add_right _ 5) hd
              have mo : Mo μ1 H1 μ1 H' := ⟨List.prefix_rfl, fun b o e n => ⟨.inl (z1 b o e), n⟩⟩
              have nin : ∀ t, H1 t = none → t ∉ μ1 ∧ t ∉ ν1 := fun t ht => ⟨hr1.fresh ht, hr1.nfresh ht⟩
              have hr2 : HR W μ1 ν1 S1 H' := hr1.same mo (fun c hc => by obtain ⟨o, q⟩ := hr1.stands hc; rw [q]; exact z1 c o q) (fun c hc => by obtain ⟨o, q, _⟩ := (hr1.dj c hc).2; rw [q]; exact z1 c o q) (hr1.tabs.ext z1)
              refine ⟨.ref _, H', J, rfl, h3 (.ref _) μ1 H' mo hr2 (.lst z4 (nin _ z2).1 (nin _ z2).2 ?_)⟩
              exact zip_rps mo rrx rry z5 (fun t ht => nin t (z3 t ht)) z6
            · exact args_nil hv
end
end EW

/-! EW, part 10: the checker's theorem for expressions. -/
namespace EW
open PySem PySem.Spec PyProof.Rows L2
section
variable {W : Wd} {Φ : Ph} {C : Ct} {k : Nat} {Wx : WX} {X : Cx}

theorem relN_eq {scope : Scope} {env : PySem.Env} (hk : env.scope.kind = .function) : (relabel scope env).names = relN scope.names env.scope.names := by
  unfold relabel relN Env.kindOf
  simp only [hk]
  congr 1
  funext x
  cases x.2 <;> rfl
theorem relN_keep {sc : List (Str × NameKind)} : ∀ {names : List (Str × NameKind)} {x : Str} {k : NameKind}, k ≠ NameKind.free → names.lookup x = some k → (relN names sc).lookup x = some k
  | [], _, _, _, h => by simp at h
  | (n, k₀) :: r, x, k, hk, h => by
    unfold relN
    rw [List.map_cons]
    rw [List.lookup_cons] at h ⊢
    split at h
    · rename_i q
      cases h
      have : ((if (k₀ == .free && sc.lookup n == some .cell) = true then (n, NameKind.cell) else (n, k₀)) : Str × NameKind) = (n, k₀) := by
        rw [if_neg]
        simp [hk]
      rw [this]
      simp only [q]
    · rename_i q
      have hn : (if (k₀ == .free && sc.lookup n == some .cell) = true then (n, NameKind.cell) else (n, k₀)).1 = n := by split <;> rfl
      rw [hn, q]
      exact relN_keep hk h

theorem takes0N {X : Cx} : L2N.Takes X (fun _ _ _ _ => False) := fun _ _ x => by
  obtain ⟨_, _, _, _, _, _, _, _, _, _, _, _, _, _, _, _, z⟩ := x
  exact z.elim
theorem Gd.blk (g : Gd W Φ C k Wx X) {scope : Scope} (hk : scope.kind = .function) (s : Shared) (H : Hp) (Cc : Addr) (cl : List (Str × Addr)) (fp : List Addr) (hh : C.hot = true → ∃ x1, HX (X.blk s H scope (compEnvC scope cl Cc X.env) fp) x1) :
    Gd W Φ (C.inner (relN scope.names C.sc)) k (fun _ _ _ _ => False) (X.blk s H scope (compEnvC scope cl Cc X.env) fp) where
  hK := g.hK
  N := g.N
  nd := g.nd
  kind := hk
  sc := by
    show (relabel scope X.env).names = relN scope.names C.sc
    rw [relN_eq g.kind, g.sc]
  calm := g.calm
  hx := hh
  room := g.room
  hu := g.hu
  tk := takes0N
  fns := g.fns
  val := g.val
  bl := g.bl
  wrd := fun X' l x d0 tb h n body scope p lpos pos ce sc Wx' hsc hg hd hl hc => g.wrd X' ⟨l.prog, l.w, l.K, l.mg, l.base, l.A, l.stack, l.N, l.code, l.qual⟩ x d0 tb h n body scope p lpos pos ce sc Wx' hsc hg hd hl hc
  iso := fun y tb h => by cases h

theorem fs_ok {e : Expr} {env : PySem.Env} (h : noSet e = true) (x : Value) : foldedSetIterable e env x = pure x := by
  cases e <;> first | rfl | cases h

theorem evT_and {m : Nat} {ca cb : E} (ρ : Env) (S : Hs) : evT (ev Φ (m + 1)) (.and ca cb) ρ S = (evT (ev Φ m) ca ρ S).bind fun k S => if k then evT (ev Φ m) cb ρ S else .ok false S := by
  show ((ev Φ m ca ρ S).bind fun x S => match tru x S with | some true => ev Φ m cb ρ S | some false => R.ok x S | none => .bad).bind (fun d S => .of S (tru d S)) = ((ev Φ m ca ρ S).bind fun d S => .of S (tru d S)).bind _
  cases ev Φ m ca ρ S with
  | bad => rfl
  | exc x S' => rfl
  | ok d S' =>
    dsimp only [R.bind]
    cases q : tru d S' with
    | none => rfl
    | some b => cases b with
      | true => rfl
      | false => dsimp only [R.of]; rw [q]; rfl
theorem evT_or {m : Nat} {ca cb : E} (ρ : Env) (S : Hs) : evT (ev Φ (m + 1)) (.or ca cb) ρ S = (evT (ev Φ m) ca ρ S).bind fun k S => if k then .ok true S else evT (ev Φ m) cb ρ S := by
  show ((ev Φ m ca ρ S).bind fun x S => match tru x S with | some true => R.ok x S | some false => ev Φ m cb ρ S | none => .bad).bind (fun d S => .of S (tru d S)) = ((ev Φ m ca ρ S).bind fun d S => .of S (tru d S)).bind _
  cases ev Φ m ca ρ S with
  | bad => rfl
  | exc x S' => rfl
  | ok d S' =>
    dsimp only [R.bind]
    cases q : tru d S' with
    | none => rfl
    | some b => cases b with
      | true => dsimp only [R.of]; rw [q]; rfl
      | false => rfl
theorem evT_not {m : Nat} {ca : E} (ρ : Env) (S : Hs) : evT (ev Φ (m + 1)) (.not ca) ρ S = (evT (ev Φ m) ca ρ S).bind fun k S => .ok (!k) S := by
  show ((evT (ev Φ m) ca ρ S).bind fun k S => .ok (.bl (!k)) S).bind (fun d S => .of S (tru d S)) = _
  cases evT (ev Φ m) ca ρ S <;> rfl
theorem evT_ite {m : Nat} {cc ca cb : E} (ρ : Env) (S : Hs) : evT (ev Φ (m + 1)) (.ite cc ca cb) ρ S = (evT (ev Φ m) cc ρ S).bind fun k S => if k then evT (ev Φ m) ca ρ S else evT (ev Φ m) cb ρ S := by
  show ((evT (ev Φ m) cc ρ S).bind fun k S => if k then ev Φ m ca ρ S else ev Φ m cb ρ S).bind (fun d S => .of S (tru d S)) = _
  cases evT (ev Φ m) cc ρ S with
  | ok b S' => cases b <;> rfl
  | _ => rfl

/-- a run that gives bools, as a test -/
theorem bl_test {r : Env → Hs → R D} (hb : ∀ ρ S d S', r ρ S = .ok d S' → ∃ b, d = .bl b) : ∀ σ H Q, tRb W Wx (fun ρ S => (r ρ S).bind fun d S => .of S (tru d S)) σ H Q → tR W Wx r σ H fun x H' => ∃ c, x = .bl c ∧ Q c H' := fun σ H Q ⟨ρ, S, μ, ν, hr, en, h⟩ => by
  dsimp only at h
  refine ⟨ρ, S, μ, ν, hr, en, ?_⟩
  cases q : r ρ S with
  | bad => rw [q] at h; exact h
  | exc x S' => rw [q] at h; exact h
  | ok d S' =>
    obtain ⟨b, rfl⟩ := hb _ _ _ _ q
    rw [q] at h
    intro v μ' H' m hr' rv
    cases rv
    exact ⟨b, rfl, h b μ' H' m hr' rfl⟩
theorem cmp_bl {ra rb : Env → Hs → R D} {f : D → D → Hs → Option Bool} : ∀ (ρ : Env) (S : Hs) (d : D) (S' : Hs), ((ra ρ S).bind fun x S => (rb ρ S).bind fun y S => R.of S ((f x y S).map D.bl)) = .ok d S' → ∃ b, d = .bl b := fun ρ S d S' h => by
  obtain ⟨x, S1, _, h⟩ := R.bind_ok h
  obtain ⟨y, S2, _, h⟩ := R.bind_ok h
  cases q : f x y S2 with
  | none => rw [q] at h; cases h
  | some b => rw [q] at h; cases h; exact ⟨b, rfl⟩
def chainR (f f' : D → D → Hs → Option Bool) (ra rb rc : Env → Hs → R D) (ρ : Env) (S : Hs) : R D := (ra ρ S).bind fun x S => (rb ρ S).bind fun y S => match f x y S with
    | some true => (rc ρ S).bind fun z S => .of S ((f' y z S).map .bl)
    | some false => .ok (.bl false) S
    | none => .bad
theorem chain_bl {f f' : D → D → Hs → Option Bool} {ra rb rc : Env → Hs → R D} (ρ : Env) (S : Hs) (d : D) (S' : Hs) (h : chainR f f' ra rb rc ρ S = .ok d S') : ∃ b, d = .bl b := by
  unfold chainR at h
  obtain ⟨x, S1, _, h⟩ := R.bind_ok h
  obtain ⟨y, S2, _, h⟩ := R.bind_ok h
  split at h
  · obtain ⟨z, S3, _, h⟩ := R.bind_ok h
    cases q : f' y z S3 with
    | none => rw [q] at h; cases h
    | some b => rw [q] at h; cases h; exact ⟨b, rfl⟩
  · cases h; exact ⟨false, rfl⟩
  · cases h
theorem tchain {f f' : D → D → Hs → Option Bool} {ra rb rc : Env → Hs → R D} : ∀ σ H Q, tR W Wx (chainR f f' ra rb rc) σ H Q → tChain (rC W f) (rC W f') (tR W Wx ra) (tR W Wx rb) (tR W Wx rc) σ H Q := fun σ H Q h => by
  obtain ⟨ρ, S, μ, ν, hr, en, h2⟩ := tG_bind (Rel := RelD W) h
  refine ⟨ρ, S, μ, ν, hr, en, h2.imp fun x H1 ⟨ρ1, dx, S1, μ1, ν1, hr1, en1, rx, h3⟩ => ?_⟩
  refine ⟨ρ1, S1, μ1, ν1, hr1, en1, (Fin.bind (Rel := RelD W ν1) h3).imp fun y H2 ⟨dy, S2, μ2, m2, hr2, ry, h4⟩ => ?_⟩
  split at h4
  · rename_i e
    refine ⟨S2, μ2, ν1, dx, dy, true, hr2, rx.mo m2, ry, e, true, rfl, ?_⟩
    rw [if_pos rfl]
    refine ⟨ρ1, S2, μ2, ν1, hr2, en1.mo m2, (Fin.bind (Rel := RelD W ν1) h4).imp fun z H3 ⟨dz, S3, μ3, m3, hr3, rz, h5⟩ => ?_⟩
    obtain ⟨b, e2, q⟩ := Fin.ofB h5 hr3
    exact ⟨S3, μ3, ν1, dy, dz, b, hr3, ry.mo m3, rz, e2, q⟩
  · rename_i e
    refine ⟨S2, μ2, ν1, dx, dy, false, hr2, rx.mo m2, ry, e, false, rfl, ?_⟩
    rw [if_neg Bool.false_ne_true]
    exact Fin.ok (Rel := RelD W ν1) h4 hr2 (.bl false)
  · exact h4.elim

theorem pw_one_and {a : Expr} {pos : Pos} {t : TT} (h : PT X a t) : PW X (.BoolOp .And [a] pos) t := pw_and1 h
theorem own_ok {N : List Str} : ∀ {own : List Nat}, (own.filterMap fun i => (N[i]?).map fun x => (x, i)).map (·.2) = own → True := fun _ => trivial

def isBO : Expr → Bool
  | .BoolOp .. => true
  | _ => false
structure EOk (W : Wd) (Φ : Ph) (Wx : WX) (X : Cx) (e : Expr) (c : E) : Prop where
  pe : ∀ m, PE X e (tR W Wx (ev Φ m c))
  pt : ∀ m, PT X e (tRb W Wx (evT (ev Φ m) c))
  pw : isBO e = true → ∀ m, PW X e (tRb W Wx (evT (ev Φ m) c))
theorem pw_zero {e : Expr} {c : E} : PW X e (tRb W Wx (evT (ev Φ 0) c)) := ⟨fun _ _ _ _ _ _ _ h => by obtain ⟨ρ, S, μ, ν, hr, en, h⟩ := h; exact h.elim⟩

theorem chkI_ok (g : Gd W Φ C k Wx X) {f : Expr → E → Bool} (ih : ∀ (e : Expr) (c : E), f e c = true → ∀ m, PE X e (tR W Wx (ev Φ m c))) (st : ∀ (e : Expr) (c : E), f e c = true → isStar e = false) (tg : Expr) (e : Expr) (it : I) (h : chkI f C tg e it = true) :
    (∀ m, PI X tg e (tI W Wx (evI (ev Φ m) it))) ∧ ∀ x, foldedSetIterable e X.env x = pure x := by
  cases it with
  | rng1 ca =>
    unfold chkI at h
    dsimp only at h
    split at h
    · rename_i x p a p2
      simp only [Bool.and_eq_true, decide_eq_true_eq] at h
      exact ⟨fun m => si_rng1 g h.1.2 h.1.1 (ih a ca h.2 m) (st a ca h.2), fun _ => rfl⟩
    · cases h
  | rng2 ca cb =>
    unfold chkI at h
    dsimp only at h
    split at h
    · rename_i x p a b p2
      simp only [Bool.and_eq_true, decide_eq_true_eq] at h
      obtain ⟨⟨⟨h1, h2⟩, h3⟩, h4⟩ := h
      exact ⟨fun m => si_rng2 g h2 h1 (ih a ca h3 m) (st a ca h3) (ih b cb h4 m) (st b cb h4), fun _ => rfl⟩
    · cases h
  | seq c =>
    unfold chkI at h
    dsimp only at h
    rw [Bool.and_eq_true] at h
    exact ⟨fun m => si_seq g.hK (ih e c h.1 m), fs_ok h.2⟩
  | enum c =>
    unfold chkI at h
    dsimp only at h
    split at h
    · rename_i elts kk tpos x p a p2
      simp only [Bool.and_eq_true, decide_eq_true_eq] at h
      have h3 := h.2
      simp only [chks, Bool.and_eq_true] at h3
      exact ⟨fun m => si_enum g h.1.2 h.1.1 (pa_gen (fun e c h => ih e c h m) st [a] [c] h.2) (st a c h3.1), fun _ => rfl⟩
    · cases h
  | zip ca cb =>
    unfold chkI at h
    dsimp only at h
    split at h
    · rename_i elts kk tpos x p a b p2
      simp only [Bool.and_eq_true, decide_eq_true_eq] at h
      have h3 := h.2
      simp only [chks, Bool.and_eq_true] at h3
      exact ⟨fun m => si_zip2 g h.1.2 h.1.1 (pa_gen (fun e c h => ih e c h m) st [a, b] [ca, cb] h.2) (st a ca h3.1) (st b cb h3.2.1), fun _ => rfl⟩
    · cases h
  | zip3 ca cb cc =>
    unfold chkI at h
    dsimp only at h
    split at h
    · rename_i elts kk tpos x p a b d p2
      simp only [Bool.and_eq_true, decide_eq_true_eq] at h
      have h3 := h.2
      simp only [chks, Bool.and_eq_true] at h3
      exact ⟨fun m => si_zip3 g h.1.2 h.1.1 (pa_gen (fun e c h => ih e c h m) st [a, b, d] [ca, cb, cc] h.2) (st a ca h3.1) (st b cb h3.2.1) (st d cc h3.2.2.1), fun _ => rfl⟩
    · cases h

theorem chkI_okX {x1 : Addr} (g : Gd W Φ C k Wx X) {f : Expr → E → Bool} (ih : ∀ (e : Expr) (c : E), f e c = true → ∀ m, PE X e (tR W Wx (ev Φ m c))) (st : ∀ (e : Expr) (c : E), f e c = true → isStar e = false) (tg : Expr) (e : Expr) (it : I) (hz : isZip it = true) (h : chkI f C tg e it = true) :
    (∀ m, PIX X x1 tg e (tI W Wx (evI (ev Φ m) it))) ∧ ∀ x, foldedSetIterable e X.env x = pure x := by
  cases it <;> first | (cases hz; done) | skip
  rename_i ca cb
  unfold chkI at h
  dsimp only at h
  split at h
  · rename_i elts kk tpos x p a b p2
    simp only [Bool.and_eq_true, decide_eq_true_eq] at h
    have h3 := h.2
    simp only [chks, Bool.and_eq_true] at h3
    exact ⟨fun m => si_zip2X g h.1.2 h.1.1 (pa_gen (fun e c h => ih e c h m) st [a, b] [ca, cb] h.2) (st a ca h3.1) (st b cb h3.2.1), fun _ => rfl⟩
  · cases h

/-- what the rules of a comprehension give -/
theorem lc_parts {n : Nat} (g : Gd W Φ C k Wx X) (ihE : ∀ (e : Expr) (c : E), chkE n C e c = true → ∀ m, PE X e (tR W Wx (ev Φ m c))) {elt tg iter : Expr} {ifs : List Expr} {scope : Scope} {own : List Nat} {t : T} {it : I} {c : Option E} {ce : E} {pos : Pos}
    (ihB : ∀ (X' : Cx), Gd W Φ (C.inner (relN scope.names C.sc)) k (fun _ _ _ _ => False) X' → ∀ (e : Expr) (c : E), chkE n (C.inner (relN scope.names C.sc)) e c = true → EOk W Φ (fun _ _ _ _ => False) X' e c)
    (h : ((!C.hot || isZip it) && decide ((own.filterMap fun i => (C.N[i]?).map fun x => (x, i)).map (·.2) = own) && blkC C.N ⟨.function, C.sc, false, false, []⟩ scope (own.filterMap fun i => (C.N[i]?).map fun x => (x, i)) && chkI (chkE n C) C tg iter it && chkT 8 { C with sc := scope.names } own tg t && (match ifs, c with
        | [], none => true
        | [i], some ci => chkE n (C.inner (relN scope.names C.sc)) i ci
        | _, _ => false) && chkE n (C.inner (relN scope.names C.sc)) elt ce) = true) (m : Nat) :
    ∃ te : TE, PE X (.ListComp elt [⟨tg, iter, ifs, 0⟩] scope pos) te ∧
      (∀ {i : Nat} {y : Str} {py spos : Pos}, X.N[i]? = some y → X.env.scope.names.lookup y = some .local → swapsWith (.ListComp elt [⟨tg, iter, ifs, 0⟩] scope pos) (some (.Name y py)) spos.line X.env = pure true →
        PS X (.Assign [.Name y py] (.ListComp elt [⟨tg, iter, ifs, 0⟩] scope pos) spos) (tAsg te (gName i))) ∧
      (∀ σ H Q, tR W Wx (ev Φ (m + 1) (.comp own t it c ce)) σ H Q → te σ H Q) ∧
      ∀ σ H Q, tR W Wx (ev Φ (m + 1) (.mcomp own t it c ce)) σ H Q → te σ H Q := by
  simp only [Bool.and_eq_true] at h
  obtain ⟨⟨⟨⟨⟨⟨h0, h1⟩, h2⟩, h3⟩, h4⟩, h5⟩, h6⟩ := h
  have h1 := of_decide_eq_true h1
  have hb : BlkOk X.N X.env.scope scope (own.filterMap fun i => (C.N[i]?).map fun x => (x, i)) := by
    refine blkOk_by ?_
    rw [g.N]
    unfold blkC at h2 ⊢
    rw [g.sc]
    exact h2
  have hk := hb.kind
  have hloc : ∀ x, (scope.names.lookup x = some NameKind.local → (relabel scope X.env).names.lookup x = some .local) ∧ (scope.names.lookup x = some NameKind.cell → (relabel scope X.env).names.lookup x = some .cell ∧ (scope.names.lookup x == some NameKind.cell) = true) := fun x =>
    ⟨fun q => by rw [relN_eq g.kind]; exact relN_keep (by decide) q, fun q => ⟨by rw [relN_eq g.kind]; exact relN_keep (by decide) q, by rw [q]; rfl⟩⟩
  have pg := fun (s : Shared) (H : Hp) (Cc : Addr) (cl : List (Str × Addr)) (fp : List Addr) (hc : (X.blk s H scope (compEnvC scope cl Cc X.env) fp).calm = true ∨ ∃ x1, HX (X.blk s H scope (compEnvC scope cl Cc X.env) fp) x1) => pg_of (X := X.blk s H scope (compEnvC scope cl Cc X.env) fp) (C := { C with sc := scope.names }) g.nd g.N hloc hc 8 t tg h4
  have pts := fun (s : Shared) (H : Hp) (Cc : Addr) (cl : List (Str × Addr)) (fp : List Addr) (hh : C.hot = true → ∃ x1, HX (X.blk s H scope (compEnvC scope cl Cc X.env) fp) x1) =>
    show PTs (X.blk s H scope (compEnvC scope cl Cc X.env) fp) ifs (tRb W (fun _ _ _ _ => False) (evCs (ev Φ m) c)) from by
      split at h5
      · exact ⟨fun pins s σ H Q I hq => pts_nil.run pins s σ H Q I (by obtain ⟨ρ, S, μ, ν, hr, en, h⟩ := hq; exact Fin.ok (Rel := RelB) h hr rfl)⟩
      · rename_i i ci
        exact pts_one ((ihB _ (g.blk hk s H Cc cl fp hh) i ci h5).pt m)
      · cases h5
  have pel := fun (s : Shared) (H : Hp) (Cc : Addr) (cl : List (Str × Addr)) (fp : List Addr) (hh : C.hot = true → ∃ x1, HX (X.blk s H scope (compEnvC scope cl Cc X.env) fp) x1) => (ihB _ (g.blk hk s H Cc cl fp hh) elt ce h6).pe m
  have imp := comp_imp (W := W) (Wx := Wx) (X := X) (n := 8) (C' := { C with sc := scope.names }) (tg := tg) (t := t) (c := c) (e := ce) (rec := ev Φ m) (ri := evI (ev Φ m) it) (own := own.filterMap fun i => (C.N[i]?).map fun x => (x, i)) g.hK (by rw [h1]; exact h4)
  have impM := comp_impM (W := W) (Wx := Wx) (X := X) (n := 8) (C' := { C with sc := scope.names }) (tg := tg) (t := t) (c := c) (e := ce) (rec := ev Φ m) (ri := evI (ev Φ m) it) (own := own.filterMap fun i => (C.N[i]?).map fun x => (x, i)) g.hK (by rw [h1]; exact h4)
  refine ⟨_, ?_, ?_, fun σ H Q hq => imp σ H Q (by rw [h1]; exact hq), fun σ H Q hq => impM σ H Q (by rw [h1]; exact hq)⟩
  · cases hot : C.hot with
    | false =>
      obtain ⟨hi, hs⟩ := chkI_ok g (fun e c h m => ihE e c h m) (fun e c h => chk_star h) tg iter it h3
      exact pe_lc (g.calm hot) g.nd (hi m) hb (fun s H Cc cl fp => pg s H Cc cl fp (.inl (g.calm hot))) (fun s H Cc cl fp => pts s H Cc cl fp fun z => by rw [hot] at z; cases z) (fun s H Cc cl fp => pel s H Cc cl fp fun z => by rw [hot] at z; cases z) hs
    | true =>
      obtain ⟨x1, hx⟩ := g.hx hot
      obtain ⟨hi, hs⟩ := chkI_okX (x1 := x1) g (fun e c h m => ihE e c h m) (fun e c h => chk_star h) tg iter it (by simpa [hot] using h0) h3
      exact pe_lcX hx g.nd (hi m) hb (fun s H Cc cl fp z => pg s H Cc cl fp (.inr ⟨_, z⟩)) (fun s H Cc cl fp z => pts s H Cc cl fp fun _ => ⟨_, z⟩) (fun s H Cc cl fp z => pel s H Cc cl fp fun _ => ⟨_, z⟩) hs
  · intro i y py spos hy hyl hsw
    cases hot : C.hot with
    | false =>
      obtain ⟨hi, hs⟩ := chkI_ok g (fun e c h m => ihE e c h m) (fun e c h => chk_star h) tg iter it h3
      exact ps_setLc (g.calm hot) g.nd hy hyl hsw (hi m) hb (fun s H Cc cl fp => pg s H Cc cl fp (.inl (g.calm hot))) (fun s H Cc cl fp => pts s H Cc cl fp fun z => by rw [hot] at z; cases z) (fun s H Cc cl fp => pel s H Cc cl fp fun z => by rw [hot] at z; cases z) hs
    | true =>
      obtain ⟨x1, hx⟩ := g.hx hot
      obtain ⟨hi, hs⟩ := chkI_okX (x1 := x1) g (fun e c h m => ihE e c h m) (fun e c h => chk_star h) tg iter it (by simpa [hot] using h0) h3
      exact ps_setLcX hx g.nd hy hyl hsw (hi m) hb (fun s H Cc cl fp z => pg s H Cc cl fp (.inr ⟨_, z⟩)) (fun s H Cc cl fp z => pts s H Cc cl fp fun _ => ⟨_, z⟩) (fun s H Cc cl fp z => pel s H Cc cl fp fun _ => ⟨_, z⟩) hs

/-- THE CHECKER'S THEOREM -/
theorem chkE_ok : ∀ (n : Nat) {C : Ct} {k : Nat} {Wx : WX} {X : Cx} (e : Expr) (c : E), Gd W Φ C k Wx X → chkE n C e c = true → EOk W Φ Wx X e c
  | 0, _, _, _, _, _, _, _, h => by cases h
  | n + 1, C, k, Wx, X, e, c, g, h => by
    have ihE : ∀ (e : Expr) (c : E), chkE n C e c = true → ∀ m, PE X e (tR W Wx (ev Φ m c)) := fun e c h => (chkE_ok n e c g h).pe
    have ihT : ∀ (e : Expr) (c : E), chkE n C e c = true → ∀ m, PT X e (tRb W Wx (evT (ev Φ m) c)) := fun e c h => (chkE_ok n e c g h).pt
    have ihW : ∀ (e : Expr) (c : E), chkE n C e c = true → isBO e = true → ∀ m, PW X e (tRb W Wx (evT (ev Φ m) c)) := fun e c h => (chkE_ok n e c g h).pw
    have gen : plainT e = true → isBO e = false → (∀ m, PE X e (tR W Wx (ev Φ m c))) → EOk W Φ Wx X e c := fun hp hb he => ⟨he, fun m => pt_gen g.hK (he m) (isTrue_gen hp), fun z => by rw [hb] at z; cases z⟩
    unfold chkE at h
    split at h
    case h_1 => exact gen rfl rfl fun m => match m with
      | 0 => pe_zero
      | m + 1 => PE.imp pe_non fun σ H Q ⟨ρ, S, μ, ν, hr, en, h⟩ => Fin.ok (Rel := RelD W ν) h hr .non
    case h_2 b _ _ b' =>
      have := eq_of_beq h
      subst this
      exact gen rfl rfl fun m => match m with
        | 0 => pe_zero
        | m + 1 => PE.imp pe_bl fun σ H Q ⟨ρ, S, μ, ν, hr, en, h⟩ => Fin.ok (Rel := RelD W ν) h hr (.bl _)
    case h_3 =>
      have := of_decide_eq_true h
      subst this
      exact gen rfl rfl fun m => match m with
        | 0 => pe_zero
        | m + 1 => PE.imp pe_int fun σ H Q ⟨ρ, S, μ, ν, hr, en, h⟩ => Fin.ok (Rel := RelD W ν) h hr (.int _)
    case h_4 x _ _ l =>
      rw [Bool.and_eq_true] at h
      have := of_decide_eq_true h.1
      subst this
      have hs := h.2
      unfold okS at hs
      rw [Bool.and_eq_true, List.all_eq_true] at hs
      exact gen rfl rfl fun m => match m with
        | 0 => pe_zero
        | m + 1 => PE.imp pe_str fun σ H Q ⟨ρ, S, μ, ν, hr, en, h⟩ => Fin.ok (Rel := RelD W ν) h hr (.str l (Nat.le_of_ble_eq_true hs.1) fun c hc => Nat.le_of_ble_eq_true (hs.2 c hc))
    case h_5 x p i =>
      obtain ⟨h1, h2, h3, h4⟩ := g.vis h
      exact gen rfl rfl fun m => match m with
        | 0 => pe_zero
        | m + 1 => PE.imp (pe_var h1 h2 h3 h4) fun σ H Q ⟨ρ, S, μ, ν, hr, en, h⟩ => by
          have h : Fin W μ ν H (RelD W ν) (match ρ[i]? with | some (some d) => R.ok d S | _ => .bad) Q (WE Wx σ) := h
          split at h
          · rename_i d e
            obtain ⟨v, p, q⟩ := en.get i d e
            exact ⟨v, p, h.ok hr q⟩
          · exact h.elim
    case h_6 x p d =>
      rw [Bool.and_eq_true] at h
      obtain ⟨h1, h2, h3⟩ := g.glb h.1
      obtain ⟨u, v, e1, r, rp⟩ := g.val x d h.2
      exact gen rfl rfl fun m => match m with
        | 0 => pe_zero
        | m + 1 => PE.imp (pe_glob h1 e1 r h2) fun σ H Q ⟨ρ, S, μ, ν, hr, en, h⟩ => Fin.ok (Rel := RelD W ν) h hr (rp μ ν H)
    case h_7 a op b p o ca cb =>
      simp only [Bool.and_eq_true] at h
      exact gen rfl rfl fun m => match m with
        | 0 => pe_zero
        | m + 1 => PE.imp (pe_op (opR_of g.hK h.1.1) (ihE a ca h.1.2 m) (ihE b cb h.2 m)) two_bin
    case h_8 a p ca =>
      exact gen rfl rfl fun m => match m with
        | 0 => pe_zero
        | m + 1 => PE.imp (pe_un un_neg (ihE a ca h m)) fun σ H Q h => by
          obtain ⟨ρ, S, μ, ν, hr, en, h2⟩ := tG_bind (Rel := RelD W) h
          refine ⟨ρ, S, μ, ν, hr, en, h2.imp fun x H1 ⟨ρ1, dx, S1, μ1, ν1, hr1, en1, rx, h3⟩ => ?_⟩
          cases rx <;> first | exact (Fin.bad h3).elim | exact ⟨_, rfl, Fin.ok (Rel := RelD W ν1) h3 hr1 (.int _)⟩
    case h_9 a p ca =>
      exact ⟨fun m => match m with
        | 0 => pe_zero
        | m + 1 => se_not g.hK (ihE a ca h m), fun m => match m with
        | 0 => pt_zero
        | m + 1 => st_not (ihT a ca h m) evT_not, nofun⟩
    case h_10 a op b p o ca cb =>
      simp only [Bool.and_eq_true] at h
      exact ⟨fun m => match m with
        | 0 => pe_zero
        | m + 1 => PE.imp (pe_cmpR (cpR_of g.hK g.hu h.1.1) (ihE a ca h.1.2 m) (ihE b cb h.2 m) (cp_mark (chk_noset h.2))) two_cmp, fun m => match m with
        | 0 => pt_zero
        | m + 1 => PT.imp (pt_cmpR (cpR_of g.hK g.hu h.1.1) (ihE a ca h.1.2 m) (ihE b cb h.2 m) (cp_mark (chk_noset h.2))) fun σ H Q h => two_cmp (W := W) σ H _ (bl_test cmp_bl σ H Q h), nofun⟩
    case h_11 a op op' b d p o o' ca cb cd =>
      simp only [Bool.and_eq_true] at h
      obtain ⟨⟨⟨⟨h1, h2⟩, h3⟩, h4⟩, h5⟩ := h
      exact ⟨fun m => match m with
        | 0 => pe_zero
        | m + 1 => PE.imp (pe_chain (cpR_of g.hK g.hu h1) (cpR_of g.hK g.hu h2) (ihE a ca h3 m) (ihE b cb h4 m) (ihE d cd h5 m) (cp_last (chk_noset h5))) tchain, fun m => match m with
        | 0 => pt_zero
        | m + 1 => PT.imp (pt_chain (cpR_of g.hK g.hu h1) (cpR_of g.hK g.hu h2) (ihE a ca h3 m) (ihE b cb h4 m) (ihE d cd h5 m) (cp_last (chk_noset h5))) fun σ H Q h => tchain (W := W) σ H _ (bl_test chain_bl σ H Q h), nofun⟩
    case h_12 a b p ca cb =>
      rw [Bool.and_eq_true] at h
      have w : ∀ m, PW X (.BoolOp .And [a, b] p) (tRb W Wx (evT (ev Φ m) (.and ca cb))) := fun m => match m with
        | 0 => pw_zero
        | m + 1 => st_and (ihT a ca h.1 m) (pw_and1 (ihT b cb h.2 m)) evT_and
      exact ⟨fun m => match m with
        | 0 => pe_zero
        | m + 1 => se_and g.hK (ihE a ca h.1 m) (pe_one (ihE b cb h.2 m)), fun m => (w m).pt, fun _ => w⟩
    case h_13 a b d r p ca cb =>
      rw [Bool.and_eq_true] at h
      have w : ∀ m, PW X (.BoolOp .And (a :: b :: d :: r) p) (tRb W Wx (evT (ev Φ m) (.and ca cb))) := fun m => match m with
        | 0 => pw_zero
        | m + 1 => st_and (ihT a ca h.1 m) (ihW _ cb h.2 rfl m) evT_and
      exact ⟨fun m => match m with
        | 0 => pe_zero
        | m + 1 => se_and g.hK (ihE a ca h.1 m) (ihE _ cb h.2 m), fun m => (w m).pt, fun _ => w⟩
    case h_14 a b p ca cb =>
      rw [Bool.and_eq_true] at h
      have w : ∀ m, PW X (.BoolOp .Or [a, b] p) (tRb W Wx (evT (ev Φ m) (.or ca cb))) := fun m => match m with
        | 0 => pw_zero
        | m + 1 => st_or (ihT a ca h.1 m) (pw_or1 (ihT b cb h.2 m)) evT_or
      exact ⟨fun m => match m with
        | 0 => pe_zero
        | m + 1 => se_or g.hK (ihE a ca h.1 m) (pe_one (ihE b cb h.2 m)), fun m => (w m).pt, fun _ => w⟩
    case h_15 a b d r p ca cb =>
      rw [Bool.and_eq_true] at h
      have w : ∀ m, PW X (.BoolOp .Or (a :: b :: d :: r) p) (tRb W Wx (evT (ev Φ m) (.or ca cb))) := fun m => match m with
        | 0 => pw_zero
        | m + 1 => st_or (ihT a ca h.1 m) (ihW _ cb h.2 rfl m) evT_or
      exact ⟨fun m => match m with
        | 0 => pe_zero
        | m + 1 => se_or g.hK (ihE a ca h.1 m) (ihE _ cb h.2 m), fun m => (w m).pt, fun _ => w⟩
    case h_16 t a b p ct ca cb =>
      simp only [Bool.and_eq_true] at h
      obtain ⟨⟨h1, h2⟩, h3⟩ := h
      exact ⟨fun m => match m with
        | 0 => pe_zero
        | m + 1 => se_ite (ihT t ct h1 m) (ihE a ca h2 m) (ihE b cb h3 m), fun m => match m with
        | 0 => pt_zero
        | m + 1 => st_if (ihT t ct h1 m) (ihT a ca h2 m) (ihT b cb h3 m) evT_ite, nofun⟩
    case h_17 es j p cs =>
      rw [Bool.and_eq_true] at h
      exact gen rfl rfl fun m => match m with
        | 0 => pe_zero
        | m + 1 => se_tup (pa_of (fun e c h => ihE e c h m) es cs h.2) fun ρ S ds S' e => by
          rw [evs_len e, ← chks_len h.2]
          exact Nat.le_trans (Nat.le_of_ble_eq_true h.1) (by decide)
    case h_18 es p cs =>
      rw [Bool.and_eq_true] at h
      exact gen rfl rfl fun m => match m with
        | 0 => pe_zero
        | m + 1 => se_lst (pa_of (fun e c h => ihE e c h m) es cs h.2) fun ρ S ds S' e => by
          rw [evs_len e, ← chks_len h.2]
          exact Nat.le_trans (Nat.le_of_ble_eq_true h.1) (by decide)
    case h_19 es p cs =>
      rw [Bool.and_eq_true] at h
      exact gen rfl rfl fun m => match m with
        | 0 => pe_zero
        | m + 1 => se_mlst (pa_of (fun e c h => ihE e c h m) es cs h.2) fun ρ S ds S' e => by
          rw [evs_len e, ← chks_len h.2]
          exact Nat.le_trans (Nat.le_of_ble_eq_true h.1) (by decide)
    case h_20 a lo hi p2 p ca clo chi =>
      simp only [Bool.and_eq_true] at h
      obtain ⟨⟨h1, h2⟩, h3⟩ := h
      exact gen rfl rfl fun m => match m with
        | 0 => pe_zero
        | m + 1 => se_slc g.hK (ihE a ca h1 m) (po_of (fun e c h => ihE e c h m) h2) (po_of (fun e c h => ihE e c h m) h3)
    case h_21 a i p ca ci =>
      simp only [Bool.and_eq_true] at h
      obtain ⟨⟨h1, h2⟩, h3⟩ := h
      exact gen rfl rfl fun m => match m with
        | 0 => pe_zero
        | m + 1 => se_idx g.hK g.hu (ihE a ca h2 m) (ihE i ci h3 m) h1
    case h_22 x p1 a y p2 p3 ca t =>
      simp only [Bool.and_eq_true, decide_eq_true_eq] at h
      obtain ⟨⟨⟨⟨⟨⟨h1, h2⟩, h3⟩, h4⟩, h5⟩, h6⟩, h7⟩ := h
      exact gen rfl rfl fun m => match m with
        | 0 => pe_zero
        | m + 1 => se_isi g h2 h1 h4 h3 (by simpa using h5) (fun n z => by subst z; cases h6) (ihE a ca h7 m) (chk_star h7)
    case h_23 x p1 e es p2 f cs =>
      simp only [Bool.and_eq_true] at h
      obtain ⟨⟨h1, h2⟩, h3⟩ := h
      cases cs with
      | nil => simp [chks] at h3
      | cons c cs =>
        have h3' := h3
        simp only [chks, Bool.and_eq_true] at h3'
        exact gen rfl rfl fun m => match m with
          | 0 => pe_zero
          | m + 1 => se_call g h1 (by rw [Bool.and_eq_true]; exact h2) (pa_of (fun e c h => ihE e c h m) (e :: es) (c :: cs) h3) (chk_star h3'.1) (star_any (fun _ _ => chk_star) h3'.2)
    case h_24 x p1 e es p2 b cs =>
      simp only [Bool.and_eq_true] at h
      obtain ⟨⟨h1, h2⟩, h3⟩ := h
      cases cs with
      | nil => simp [chks] at h3
      | cons c cs =>
        have h3' := h3
        simp only [chks, Bool.and_eq_true] at h3'
        split at h2
        · rename_i mm kk hb
          rw [Bool.and_eq_true] at h2
          exact gen rfl rfl fun m => match m with
            | 0 => pe_zero
            | m + 1 => se_fn g (by rw [Bool.and_eq_true]; exact h1) hb (of_decide_eq_true h2.1) (pa_of (fun e c h => ihE e c h m) (e :: es) (c :: cs) h3) (chk_star h3'.1) (star_any (fun _ _ => chk_star) h3'.2)
        · split at h2
          · rename_i mm kk hb
            rw [Bool.and_eq_true] at h2
            exact gen rfl rfl fun m => match m with
              | 0 => pe_zero
              | m + 1 => se_ty g (by rw [Bool.and_eq_true]; exact h1) hb (of_decide_eq_true h2.1) (pa_of (fun e c h => ihE e c h m) (e :: es) (c :: cs) h3) (chk_star h3'.1) (star_any (fun _ _ => chk_star) h3'.2)
          · cases h2
    case h_25 o name ap es cp mt co cs =>
      simp only [Bool.and_eq_true] at h
      obtain ⟨⟨⟨⟨h1, h2⟩, h3⟩, h4⟩, h5⟩ := h
      exact gen rfl rfl fun m => match m with
        | 0 => pe_zero
        | m + 1 => se_mth g h1 h2 h3 (ihE o co h4 m) h5 (pa_of (fun e c h => ihE e c h m) es cs h5)
    case h_26 elt tg iter ifs scope p own t it c ce =>
      exact gen rfl rfl fun m => match m with
        | 0 => pe_zero
        | m + 1 => by
          obtain ⟨te, h1, _, imp, _⟩ := lc_parts (pos := p) g ihE (fun X' g' e c h => chkE_ok n e c g' h) h m
          exact PE.imp h1 imp
    case h_27 p t =>
      have : t = false := by simpa using h
      subst this
      exact gen rfl rfl fun m => match m with
        | 0 => pe_zero
        | m + 1 => se_mdic
    case h_28 o name ap e cp co c =>
      simp only [Bool.and_eq_true, decide_eq_true_eq] at h
      obtain ⟨⟨⟨⟨rfl, h2⟩, h3⟩, h4⟩, h5⟩ := h
      exact gen rfl rfl fun m => match m with
        | 0 => pe_zero
        | m + 1 => se_get1 g h2 h3 (ihE o co h4 m) (ihE e c h5 m) (chk_star h5)
    case h_29 o name ap e f cp co c cf =>
      simp only [Bool.and_eq_true, decide_eq_true_eq] at h
      obtain ⟨⟨⟨⟨⟨rfl, h2⟩, h3⟩, h4⟩, h5⟩, h6⟩ := h
      exact gen rfl rfl fun m => match m with
        | 0 => pe_zero
        | m + 1 => se_get2 g h2 h3 (ihE o co h4 m) (ihE e c h5 m) (ihE f cf h6 m) (chk_star h5) (chk_star h6)
    case h_30 x p1 body scope lpos p2 d0 tb ce =>
      simp only [Bool.and_eq_true] at h
      obtain ⟨⟨⟨⟨h1, h2⟩, h3⟩, h4⟩, h5⟩ := h
      obtain ⟨hg, hd, _⟩ := g.glb h2
      exact gen rfl rfl fun m => match m with
        | 0 => pe_zero
        | m + 1 => g.wrd X (.refl X) x d0 tb h3 n body scope p1 lpos p2 ce C.sc Wx g.sc hg hd h4 h5
    case h_31 x p1 en p2 y p3 p4 i tb =>
      simp only [Bool.and_eq_true, decide_eq_true_eq] at h
      obtain ⟨⟨⟨⟨h1, h2⟩, h3⟩, h4⟩, h5⟩ := h
      exact gen rfl rfl fun m => match m with
        | 0 => pe_zero
        | m + 1 => se_isx g h1 h2 h3 h4 h5
    case h_32 o name ap e cp co ce =>
      simp only [Bool.and_eq_true, decide_eq_true_eq] at h
      obtain ⟨⟨⟨⟨rfl, h2⟩, h3⟩, h4⟩, h5⟩ := h
      exact gen rfl rfl fun m => match m with
        | 0 => pe_zero
        | m + 1 => se_join g h2 h3 (ihE o co h4 m) (ihE e ce h5 m) (chk_star h5)
    case h_33 x p1 e es p2 i fl cs =>
      simp only [Bool.and_eq_true, Bool.not_eq_true'] at h
      obtain ⟨⟨⟨h1, h2⟩, h3⟩, h4⟩ := h
      cases cs with
      | nil => simp [chks] at h4
      | cons c cs =>
        have h4' := h4
        simp only [chks, Bool.and_eq_true] at h4'
        exact gen rfl rfl fun m => match m with
          | 0 => pe_zero
          | m + 1 => se_callv g h2 h1 h3 (pa_of (fun e c h => ihE e c h m) (e :: es) (c :: cs) h4) (chk_star h4'.1) (star_any (fun _ _ => chk_star) h4'.2)
    case h_34 o name ap e cp co ce =>
      simp only [Bool.and_eq_true, decide_eq_true_eq] at h
      obtain ⟨⟨⟨⟨rfl, h2⟩, h3⟩, h4⟩, h5⟩ := h
      exact gen rfl rfl fun m => match m with
        | 0 => pe_zero
        | m + 1 => se_spl g h2 h3 (ihE o co h4 m) (ihE e ce h5 m) (chk_star h5)
    case h_35 o name ap e cp co ce =>
      simp only [Bool.and_eq_true, decide_eq_true_eq] at h
      obtain ⟨⟨⟨⟨rfl, h2⟩, h3⟩, h4⟩, h5⟩ := h
      exact gen rfl rfl fun m => match m with
        | 0 => pe_zero
        | m + 1 => se_sidx g h2 h3 (ihE o co h4 m) (ihE e ce h5 m) (chk_star h5)
    case h_36 a kk p1 p2 p3 p4 ca =>
      exact gen rfl rfl fun m => match m with
        | 0 => pe_zero
        | m + 1 => se_rev g (ihE a ca h m)
    case h_37 x p1 y p2 a b p3 p4 ca cb =>
      simp only [Bool.and_eq_true, decide_eq_true_eq, Bool.not_eq_true'] at h
      obtain ⟨⟨⟨⟨⟨⟨rfl, rfl⟩, h3⟩, h4⟩, h5⟩, h6⟩, h7⟩ := h
      exact gen rfl rfl fun m => match m with
        | 0 => pe_zero
        | m + 1 => se_lrng g h5 h3 h4 (ihE a ca h6 m) (ihE b cb h7 m) (chk_star h6) (chk_star h7)
    case h_38 x p1 p2 f =>
      rw [Bool.and_eq_true] at h
      exact gen rfl rfl fun m => match m with
        | 0 => pe_zero
        | m + 1 => se_call0 g h.1 h.2
    case h_39 x p1 y p2 a b p3 p4 ca cb =>
      simp only [Bool.and_eq_true, decide_eq_true_eq, Bool.not_eq_true'] at h
      obtain ⟨⟨⟨⟨⟨⟨rfl, rfl⟩, h3⟩, h4⟩, h5⟩, h6⟩, h7⟩ := h
      exact gen rfl rfl fun m => match m with
        | 0 => pe_zero
        | m + 1 => se_lzip g h5 h3 h4 (pa_of (fun e c h => ihE e c h m) [a, b] [ca, cb] (by simp only [chks, Bool.and_eq_true]; exact ⟨h6, h7, trivial⟩)) (chk_star h6) (chk_star h7)
    case h_40 elt tg iter ifs scope p own t it c ce =>
      exact gen rfl rfl fun m => match m with
        | 0 => pe_zero
        | m + 1 => by
          obtain ⟨te, h1, _, _, imp⟩ := lc_parts (pos := p) g ihE (fun X' g' e c h => chkE_ok n e c g' h) h m
          exact PE.imp h1 imp
    case h_41 => cases h
end
end EW

/-! EW, part 11: statements. -/
namespace EW
open PySem PySem.Spec PyProof.Rows L2

inductive FV where
  | nx (σ : L2.St) | rt (v : V) | bk (σ : L2.St) | ct (σ : L2.St)
def RelF (W : Wd) (ν μ : List Addr) (H : Hp) : FV → Fl → Prop
  | .nx σ, .nx ρ => En W μ ν H σ ρ
  | .rt v, .rt d => Rp W μ ν H v d
  | .bk σ, .bk ρ => En W μ ν H σ ρ
  | .ct σ, .ct ρ => En W μ ν H σ ρ
  | _, _ => False
def endQ (Dn : Ends) : FV → Hp → Prop
  | .nx σ, H => Dn.nx σ H
  | .rt v, H => Dn.rt v H
  | .bk σ, H => Dn.bk σ H
  | .ct σ, H => Dn.ct σ H
abbrev cW (E0 : XK) : WX := fun cls d _ H => E0 cls d H
/-- the reading of a statement that the interpreter runs as r -/
abbrev tS (W : Wd) (E0 : XK) (r : Env → Hs → R Fl) : TS := fun Dn σ H => tG W (cW E0) (RelF W) r σ H (endQ Dn)

/-- what a def's context says more -/
structure Gs (W : Wd) (Φ : Ph) (C : Ct) (k : Nat) (E0 : XK) (X : Cx) : Prop extends Gd W Φ C k (cW E0) X where
  po : C.hot = false → PassesOwn (model X.prog X.w) X.A X.env X.xe
  fnA : ∀ x, X.fn x = true
  exc : C.hot = false → ∀ x n, C.val x (.cls n) = true → ∃ bm, PySem.W.excIn X.K (W.ca n) bm "ValueError.__new__" = true ∧ ExcBaseFacts "ValueError" "ValueError.__new__" "ValueError.__init__" bm ∧ PySem.W.keepIn X.K (.ref (W.ca n)) = true ∧ Raises X (.ref (W.ca n))

def noComp : Expr → Bool
  | .ListComp .. => false
  | .SetComp .. => false
  | .DictComp .. => false
  | _ => true
def isTup : Expr → Bool
  | .Tuple .. => true
  | _ => false
/-- two names at once -/
def par2 (C : Ct) (tg e : Expr) (t : T) (c : E) (f : Expr → E → Bool) : Bool := match tg, e, t, c with
  | .Tuple [.Name x px, .Name y py] _ _, .Tuple [a, b] _ _, .tup [.nm i, .nm j], .tup [ca, cb] =>
    decide (C.N[i]? = some x) && decide (C.N[j]? = some y) && !(Nat.beq i j) && decide (C.sc.lookup x = some .local) && decide (C.sc.lookup y = some .local) && decide (px.line = py.line) &&
      !(isStar a) && !(isStar b) && !(foldedForSure 8 a && foldedForSure 8 b) && !(constantsAlone 8 a && constantsAlone 8 b) && f a ca && f b cb
  | _, _, _, _ => false
/-- three names at once -/
def par3 (C : Ct) (tg e : Expr) (t : T) (c : E) (f : Expr → E → Bool) : Bool := match tg, e, t, c with
  | .Tuple [.Name x px, .Name y py, .Name z pz] _ _, .Tuple [a, b, d] _ _, .tup [.nm i, .nm j, .nm l], .tup [ca, cb, cd] =>
    decide (C.N[i]? = some x) && decide (C.N[j]? = some y) && decide (C.N[l]? = some z) && !(Nat.beq i j) && !(Nat.beq i l) && !(Nat.beq j l) && decide (C.sc.lookup x = some .local) && decide (C.sc.lookup y = some .local) && decide (C.sc.lookup z = some .local) && decide (px.line = py.line) && decide (px.line = pz.line) &&
      !(isStar a) && !(isStar b) && !(isStar d) && !(foldedForSure 8 a && foldedForSure 8 b && foldedForSure 8 d) && !(constantsAlone 8 a && constantsAlone 8 b && constantsAlone 8 d) && f a ca && f b cb && f d cd
  | _, _, _, _ => false
def nameOf (sc : List (Str × NameKind)) : Expr → Option Str
  | .Name id _ => if sc.lookup id == some .local then some id else none
  | _ => none
/-- the tuple's stores go one after another -/
def noSwap (C : Ct) (tg e : Expr) : Bool := match tg, e with
  | .Tuple ts _ _, .Tuple vs _ _ => (!(ts.length == 2 || ts.length == 3)) || vs.length != ts.length || (!(vs.any isStar) && (!((ts.filterMap (nameOf C.sc)).length == ts.length) || vs.all (foldedForSure 8)))
  | .Tuple _ _ _, _ => true
  | _, _ => false

def chkB (f : Stmt → S → Bool) : List Stmt → List S → Bool
  | [], [] => true
  | s :: r, c :: cs => f s c && chkB f r cs
  | _, _ => false

def allOwn (C : Ct) : List Nat := List.range C.N.length

/-- name = a comprehension, on one line -/
def lcSwap (C : Ct) (x : Str) (q : Pos) (e : Expr) : Bool := match e with
  | .ListComp _ _ scope p => decide (C.sc.lookup x = some .local) && (q.line == p.line) && !(scope.names.any fun (n, k) => n == x && (k == .local || k == .cell))
  | _ => false

def chkS (n : Nat) (C : Ct) (s : Stmt) (c : S) : Bool := match n with
  | 0 => false
  | n + 1 => match s, c with
    | .Assign [.Name x q] e _, .set (.nm i) ce => chkT 8 C (allOwn C) (.Name x q) (.nm i) && chkE 60 C e ce
    | .Assign [.Subscript o i _] e _, .set (.sub co ci) ce => noComp e && ixOk i && chkE 60 C e ce && chkE 60 C o co && chkE 60 C i ci
    | .Assign [.Tuple ts j q] e _, .set (.tup ts') ce => (noSwap C (.Tuple ts j q) e && chkT 8 C (allOwn C) (.Tuple ts j q) (.tup ts') && chkE 60 C e ce) || (!C.hot && par2 C (.Tuple ts j q) e (.tup ts') ce (chkE 60 C)) || (!C.hot && par3 C (.Tuple ts j q) e (.tup ts') ce (chkE 60 C))
    | .AugAssign (.Name x q) .Add e _, .aug i .add ce => chkT 8 C (allOwn C) (.Name x q) (.nm i) && chkE 60 C e ce
    | .AugAssign (.Name x q) .Sub e _, .aug i .sub ce => chkT 8 C (allOwn C) (.Name x q) (.nm i) && chkE 60 C e ce
    | .Expr e _, .expr ce => noComp e && chkE 60 C e ce
    | .Return (some e) _, .ret ce => chkE 60 C e ce
    | .Return none _, .retN => true
    | .If t a b _, .ifs ct ca cb => chkE 60 C t ct && chkB (chkS n C) a ca && chkB (chkS n C) b cb
    | .For tg it b [] _, .for_ t ci cb => (chkI (chkE 60 C) C tg it ci && !C.hot) && chkT 8 C (allOwn C) tg t && chkB (chkS n C) b cb
    | .While t b [] _, .while_ ct cb => (chkE 60 C t ct && !C.hot) && chkB (chkS n C) b cb
    | .Break _, .brk => true
    | .Continue _, .cnt => true
    | .Pass _, .pass => true
    | .Raise (some (.Call (.Name x _) [.Constant (.str _) _ _] [] _)) none _, .raise i => (C.glb x && !C.hot) && C.val x (.cls i)
    | .Raise (some (.Call (.Name x _) [e] [] _)) none _, .raiseE i ce => (C.glb x && !C.hot) && C.val x (.cls i) && chkE 60 C e ce
    | .AugAssign (.Name x q) .Add e _, .ext i ce => chkT 8 C (allOwn C) (.Name x q) (.nm i) && chkE 60 C e ce
    | _, .bad => true
    | _, _ => false

section
variable {W : Wd} {Φ : Ph} {C : Ct} {k : Nat} {E0 : XK} {X : Cx}

theorem sw_no {e : Expr} {t : Option Expr} {l : Nat} {env : PySem.Env} (h : noComp e = true) : swapsWith e t l env = pure false := by
  cases e <;> first | rfl | cases h
theorem sw_tup {e : Expr} {ts : List Expr} {j l : Nat} {p : Pos} {env : PySem.Env} : swapsWithSole [.Tuple ts j p] e l env = pure false := by
  show swapsWith e (some (.Tuple ts j p)) l env = pure false
  cases e <;> rfl
theorem sw_sub {e o i : Expr} {l : Nat} {p : Pos} {env : PySem.Env} (h : noComp e = true) : swapsWithSole [.Subscript o i p] e l env = pure false := by
  show swapsWith e (some (.Subscript o i p)) l env = pure false
  exact sw_no h
theorem sw_lc {elt : Expr} {gs : List Comprehension} {scope : Scope} {p q : Pos} {x : Str} {l : Nat} {env : PySem.Env} : swapsWith (.ListComp elt gs scope p) (some (.Name x q)) l env = pure (env.blockKind == .function && env.kindOf x == some .local && q.line == p.line && !(scope.names.any fun (n, k) => n == x && (k == .local || k == .cell))) := rfl

theorem ps_no {s : Stmt} : PS X s (fun _ _ _ => False) := ps_never
theorem ps_zero {s : Stmt} {c : S} {wf : Nat} {ve : E → Env → Hs → R D} : PS X s (tS W E0 (es ve wf 0 c)) := PS.imp ps_never fun Dn σ H ⟨ρ, S, μ, ν, hr, en, h⟩ => h

theorem flats_set {d : D} : ∀ {l : List D} (_ : D.flats l = true) (_ : d.flat = true) (j : Nat), D.flats (l.set j d) = true
  | [], h, _, _ => h
  | a :: r, h, hd, 0 => by
    simp only [D.flats, Bool.and_eq_true] at h
    simp only [List.set_cons_zero, D.flats, Bool.and_eq_true]
    exact ⟨hd, h.2⟩
  | a :: r, h, hd, j + 1 => by
    simp only [D.flats, Bool.and_eq_true] at h
    simp only [List.set_cons_succ, D.flats, Bool.and_eq_true]
    exact ⟨h.1, flats_set h.2 hd j⟩
/-- a value, then what is done with it -/
theorem tS_bind {r : Env → Hs → R D} {f : Env → D → Hs → R Fl} {Dn : Ends} {σ : L2.St} {H : Hp} {Q : V → Hp → Prop} (h : tS W E0 (fun ρ S => (r ρ S).bind fun d S => f ρ d S) Dn σ H)
    (i : ∀ v H1 ρ d S μ ν, HR W μ ν S H1 → En W μ ν H1 σ ρ → Rp W μ ν H1 v d → Fin W μ ν H1 (RelF W ν) (f ρ d S) (endQ Dn) E0 → Q v H1) : tR W (cW E0) r σ H Q := by
  obtain ⟨ρ, S, μ, ν, hr, en, h2⟩ := tG_bind (Rel := RelD W) h
  exact ⟨ρ, S, μ, ν, hr, en, h2.imp fun v H1 ⟨ρ1, d, S1, μ1, ν1, hr1, en1, rx, h3⟩ => i v H1 ρ1 d S1 μ1 ν1 hr1 en1 rx h3⟩

theorem own_mem {x : Str} {q : Pos} {i : Nat} {n : Nat} {own : List Nat} (h : chkT n C own (.Name x q) (.nm i) = true) : C.N[i]? = some x ∧ (C.sc.lookup x = some .local ∨ C.sc.lookup x = some .cell) := by
  cases n with
  | zero => cases h
  | succ n =>
    unfold chkT at h
    simp only [Bool.and_eq_true, decide_eq_true_eq] at h
    refine ⟨h.1.1, ?_⟩
    have := h.1.2
    split at this
    · rename_i q; exact .inl q
    · rename_i q; exact .inr q
    · cases this
theorem Gs.loc (g : Gs W Φ C k E0 X) : ∀ x, (C.sc.lookup x = some .local → X.env.scope.names.lookup x = some .local) ∧ (C.sc.lookup x = some .cell → X.env.scope.names.lookup x = some .cell ∧ X.fn x = true) := fun x => by
  rw [g.sc]
  exact ⟨id, fun q => ⟨q, g.fnA x⟩⟩
theorem Gs.name (g : Gs W Φ C k E0 X) {x : Str} {i : Nat} (h : C.N[i]? = some x ∧ (C.sc.lookup x = some .local ∨ C.sc.lookup x = some .cell)) : X.N[i]? = some x ∧ L2.Loc X.env.scope x := by
  refine ⟨by rw [g.N]; exact h.1, ?_⟩
  unfold L2.Loc
  rw [g.sc]
  exact h.2
theorem Gs.block (g : Gs W Φ C k E0 X) : X.env.blockKind = .function := by
  unfold PySem.Env.blockKind
  rw [g.kind]; rfl

/-- x = e -/
theorem ss_name (g : Gs W Φ C k E0 X) {x : Str} {q pos : Pos} {e : Expr} {i : Nat} {ce : E} {m : Nat} (hn : C.N[i]? = some x ∧ (C.sc.lookup x = some .local ∨ C.sc.lookup x = some .cell)) (he : chkE 60 C e ce = true) :
    PS X (.Assign [.Name x q] e pos) (tS W E0 fun ρ S => (ev Φ m ce ρ S).bind fun d S => (setT (ev Φ m) (.nm i) d ρ S).bind fun ρ S => .ok (.nx ρ) S) := by
  obtain ⟨h1, h2⟩ := g.name hn
  have fin : ∀ {Dn : Ends} {σ : L2.St} {H : Hp}, tS W E0 (fun ρ S => (ev Φ m ce ρ S).bind fun d S => (setT (ev Φ m) (.nm i) d ρ S).bind fun ρ S => .ok (.nx ρ) S) Dn σ H → tR W (cW E0) (ev Φ m ce) σ H fun v H1 => gName i v σ H1 Dn.nx := fun h => tS_bind h fun v H1 ρ d S μ ν hr en rv h => by
    have h : Fin W μ ν H1 (RelF W ν) ((R.of S (setN 8 (.nm i) d ρ)).bind fun ρ S => R.ok (Fl.nx ρ) S) (endQ _) E0 := h
    unfold setN at h
    dsimp only at h
    split at h
    · exact h (.nx _) μ H1 .refl hr (en.set rv)
    · exact h.elim
  have tt := (chkE_ok 60 e ce g.toGd he).pe m
  have ord : swapsWith e (some (.Name x q)) pos.line X.env = pure false → PS X (.Assign [.Name x q] e pos) (tS W E0 fun ρ S => (ev Φ m ce ρ S).bind fun d S => (setT (ev Φ m) (.nm i) d ρ S).bind fun ρ S => .ok (.nx ρ) S) := fun hs =>
    PS.imp (ps_set g.nd h1 h2 tt hs (.inl (g.fnA x))) fun Dn σ H h => fin h
  by_cases hc : noComp e = true
  · exact ord (sw_no hc)
  · cases e <;> first | exact (hc rfl).elim | skip
    · rename_i elt gens scope p
      cases hb : (X.env.blockKind == .function && X.env.kindOf x == some .local && q.line == p.line && !(scope.names.any fun (n, k) => n == x && (k == .local || k == .cell))) with
      | false => exact ord (by rw [sw_lc, hb])
      | true =>
        unfold chkE at he
        split at he <;> first | (rename_i z; cases z; done) | skip
        all_goals first | (cases he; done) | skip
        all_goals
          rename_i own t it c ce' z
          cases z
          have hyl : X.env.scope.names.lookup x = some .local := by
            simp only [Bool.and_eq_true] at hb
            exact beq_iff_eq.mp hb.1.1.2
          match m with
          | 0 => exact PS.imp ps_never fun Dn σ H ⟨ρ, S, μ, ν, hr, en, h⟩ => h
          | m + 1 =>
            obtain ⟨te, _, h4, imp, impM⟩ := lc_parts (pos := p) g.toGd (fun e c h => (chkE_ok 59 e c g.toGd h).pe) (fun X' g' e c h => chkE_ok 59 e c g' h) he m
            first
              | exact PS.imp (h4 h1 hyl (by rw [sw_lc, hb])) fun Dn σ H h => imp σ H _ (fin h)
              | exact PS.imp (h4 h1 hyl (by rw [sw_lc, hb])) fun Dn σ H h => impM σ H _ (fin h)
    · unfold chkE at he; split at he <;> first | (rename_i z; cases z; done) | cases he
    · unfold chkE at he; split at he <;> first | (rename_i z; cases z; done) | cases he

def setTL (ve : E → Env → Hs → R D) (o i : E) (d : D) (ρ : Env) (S : Hs) : R Env := (ve o ρ S).bind fun x S => (ve i ρ S).bind fun k S => match x, k with
    | .cell n, .int j => match putL S n j d with
      | some S => .ok ρ S
      | none => .bad
    | _, _ => .bad
def setTD (ve : E → Env → Hs → R D) (o i : E) (d : D) (ρ : Env) (S : Hs) : R Env := (ve o ρ S).bind fun x S => (ve i ρ S).bind fun k S => match x with
    | .cell n => match putD S n k d with
      | some S => .ok ρ S
      | none => .bad
    | _ => .bad
theorem setT_is (ve : E → Env → Hs → R D) (o i : E) (d : D) (ρ : Env) (S : Hs) : setT ve (.sub o i) d ρ S = setTL ve o i d ρ S ∨ setT ve (.sub o i) d ρ S = setTD ve o i d ρ S := by
  unfold setT setTL setTD
  dsimp only
  cases ve o ρ S with
  | bad => exact .inl rfl
  | exc x S' => exact .inl rfl
  | ok x S1 =>
    dsimp only [R.bind]
    cases ve i ρ S1 with
    | bad => exact .inl rfl
    | exc x S' => exact .inl rfl
    | ok y S2 =>
      dsimp only
      cases x <;> first | exact .inr rfl | skip
      rename_i n
      dsimp only
      cases y <;> first | exact .inr rfl | skip
      rename_i j
      unfold putC
      dsimp only
      cases cellL S2 n with
      | some l => exact .inl rfl
      | none => exact .inr rfl
theorem PS.or {X : Cx} {st : Stmt} {t t' : TS} (h : PS X st t) (h' : PS X st t') : PS X st (fun D σ H => t D σ H ∨ t' D σ H) := ⟨fun pins s σ H D I q => q.elim (h.run pins s σ H D I) (h'.run pins s σ H D I)⟩
/-- o[i] = e, o a list -/
theorem ss_subL (g : Gs W Φ C k E0 X) {o i e : Expr} {q pos : Pos} {co ci ce : E} {m : Nat} (hn : noComp e = true) (hx : ixOk i = true) (he : chkE 60 C e ce = true) (ho : chkE 60 C o co = true) (hi : chkE 60 C i ci = true) :
    PS X (.Assign [.Subscript o i q] e pos) (tS W E0 fun ρ S => (ev Φ m ce ρ S).bind fun d S => (setTL (ev Φ m) co ci d ρ S).bind fun ρ S => .ok (.nx ρ) S) := by
  have te := (chkE_ok 60 e ce g.toGd he).pe m
  have to := (chkE_ok 60 o co g.toGd ho).pe m
  have ti := (chkE_ok 60 i ci g.toGd hi).pe m
  refine PS.imp (ps_asg te (pg_sub to ti set_list (ha := by intro v; cases i <;> first | rfl | cases hx)) (hs := sw_sub hn)) fun Dn σ H h => ?_
  refine tS_bind h fun v H1 ρ d S μ ν hr en rv h1 => ?_
  have h1 : Fin W μ ν H1 (RelF W ν) ((setTL (ev Φ m) co ci d ρ S).bind fun ρ S => .ok (.nx ρ) S) (endQ Dn) E0 := h1
  unfold setTL at h1
  refine ⟨ρ, S, μ, ν, hr, en, ?_⟩
  -- the object
  cases qo : ev Φ m co ρ S with
  | bad => rw [qo] at h1; exact h1.elim
  | exc x S' => rw [qo] at h1; exact h1
  | ok x S1 =>
    rw [qo] at h1
    intro vo μ1 H2 m1 hr1 ro
    have h1 := Fin.from h1 m1
    refine ⟨ρ, S1, μ1, ν, hr1, en.mo m1, ?_⟩
    dsimp only [R.bind] at h1
    cases qi : ev Φ m ci ρ S1 with
    | bad => rw [qi] at h1; exact h1.elim
    | exc x S' => rw [qi] at h1; exact h1
    | ok y S2 =>
      rw [qi] at h1
      intro vi μ2 H3 m2 hr2 ri
      have h1 := Fin.from h1 m2
      dsimp only [R.bind] at h1
      have ro := ro.mo m2
      have rv := (rv.mo m1).mo m2
      rcases ro with _ | _ | _ | _ | _ | _ | _ | @⟨a, n, hn'⟩ | _ | _ | _ | _ <;> first | exact (Fin.bad h1).elim | skip
      rcases ri with _ | _ | ⟨j⟩ | _ | _ | _ | _ | _ | _ | _ | _ | _ <;> first | exact (Fin.bad h1).elim | skip
      dsimp only at h1
      obtain ⟨S', hS⟩ : ∃ S', putL S2 n j d = some S' := by
        cases hS : putL S2 n j d with
        | none => rw [hS] at h1; exact h1.elim
        | some S' => exact ⟨S', rfl⟩
      rw [hS] at h1
      unfold putL at hS
      split at hS
      case h_2 => cases hS
      rename_i l hl
      split at hS
      case h_2 => cases hS
      rename_i jj hj
      split at hS
      case isFalse => cases hS
      rename_i hf
      cases hS
      obtain ⟨fl, vs, hv, rvs⟩ := hr2.read hn' hl
      have fl' : D.flats (l.set jj d) = true := flats_set fl hf jj
      obtain ⟨m3, hr3⟩ := hr2.put hn' (rvs.set rv jj) fl'
      exact ⟨a, vs, _, jj, rfl, rfl, hv, by rw [rvs.length]; exact hj, h1 (.nx σ) μ2 _ m3 hr3 (((en.mo m1).mo m2).mo m3)⟩
/-- o[k] = e, o a dict -/
theorem ss_subD (g : Gs W Φ C k E0 X) {o i e : Expr} {q pos : Pos} {co ci ce : E} {m : Nat} (hn : noComp e = true) (he : chkE 60 C e ce = true) (ho : chkE 60 C o co = true) (hi : chkE 60 C i ci = true) :
    PS X (.Assign [.Subscript o i q] e pos) (tS W E0 fun ρ S => (ev Φ m ce ρ S).bind fun d S => (setTD (ev Φ m) co ci d ρ S).bind fun ρ S => .ok (.nx ρ) S) := by
  have te := (chkE_ok 60 e ce g.toGd he).pe m
  have to := (chkE_ok 60 o co g.toGd ho).pe m
  have ti := (chkE_ok 60 i ci g.toGd hi).pe m
  have hu := g.hu
  refine PS.imp (ps_dput (by omega) to ti te (sw_no hn)) fun Dn σ H h => ?_
  refine tS_bind h fun v H1 ρ d S μ ν hr en rv h1 => ?_
  have h1 : Fin W μ ν H1 (RelF W ν) ((setTD (ev Φ m) co ci d ρ S).bind fun ρ S => .ok (.nx ρ) S) (endQ Dn) E0 := h1
  unfold setTD at h1
  refine ⟨ρ, S, μ, ν, hr, en, ?_⟩
  cases qo : ev Φ m co ρ S with
  | bad => rw [qo] at h1; exact h1.elim
  | exc x S' => rw [qo] at h1; exact h1
  | ok x S1 =>
    rw [qo] at h1
    intro vo μ1 H2 m1 hr1 ro
    have h1 := Fin.from h1 m1
    refine ⟨ρ, S1, μ1, ν, hr1, en.mo m1, ?_⟩
    dsimp only [R.bind] at h1
    cases qi : ev Φ m ci ρ S1 with
    | bad => rw [qi] at h1; exact h1.elim
    | exc x S' => rw [qi] at h1; exact h1
    | ok y S2 =>
      rw [qi] at h1
      intro vi μ2 H3 m2 hr2 ri
      have h1 := Fin.from h1 m2
      dsimp only [R.bind] at h1
      have ro := ro.mo m2
      have rv := (rv.mo m1).mo m2
      rcases ro with _ | _ | _ | _ | _ | _ | _ | @⟨a, n, hn'⟩ | _ | _ | _ | _ <;> first | exact (Fin.bad h1).elim | skip
      dsimp only at h1
      obtain ⟨S', hS⟩ : ∃ S', putD S2 n y d = some S' := by
        cases hS : putD S2 n y d with
        | none => rw [hS] at h1; exact h1.elim
        | some S' => exact ⟨S', rfl⟩
      rw [hS] at h1
      unfold putD at hS
      split at hS
      case h_2 => cases hS
      rename_i t ks vs hc
      split at hS
      case isFalse => cases hS
      rename_i hf
      cases hS
      simp only [Bool.and_eq_true, Bool.not_eq_true'] at hf
      obtain ⟨⟨⟨rfl, hk⟩, hfl⟩, hlen⟩ := hf
      obtain ⟨kk, rfl, kr⟩ := kr_of ri hk
      unfold cellD at hc
      split at hc
      case h_2 => cases hc
      rename_i t' ks' vs' hs'
      cases hc
      obtain ⟨ff, kvs, hv, k1, r1⟩ := hr2.cell n a _ hn' hs'
      have hl : kvs.length < sizeLine := by
        have := k1.length
        rw [List.length_map] at this
        rw [← lim_eq, this]
        exact Nat.le_of_ble_eq_true hlen
      obtain ⟨m3, hr3⟩ := hr2.putC (u := .dK (putK kvs kk v)) (c0 := .dic false (storeD ks vs y d).1 (storeD ks vs y d).2) hn' fun m3 => by
        obtain ⟨s1, s2⟩ := store_ok kr (rv.mo m3) k1 (r1.mo m3)
        exact ⟨flats_store hfl ff, putK kvs kk v, upd_same, s1, s2⟩
      exact ⟨a, _, rfl, .inl ⟨kvs, kk, hv, rfl, hl, rfl⟩, h1 (.nx σ) μ2 _ m3 hr3 (((en.mo m1).mo m2).mo m3)⟩
/-- o[i] = e -/
theorem ss_sub (g : Gs W Φ C k E0 X) {o i e : Expr} {q pos : Pos} {co ci ce : E} {m : Nat} (hn : noComp e = true) (hx : ixOk i = true) (he : chkE 60 C e ce = true) (ho : chkE 60 C o co = true) (hi : chkE 60 C i ci = true) :
    PS X (.Assign [.Subscript o i q] e pos) (tS W E0 fun ρ S => (ev Φ m ce ρ S).bind fun d S => (setT (ev Φ m) (.sub co ci) d ρ S).bind fun ρ S => .ok (.nx ρ) S) := by
  refine PS.imp (PS.or (ss_subL g (m := m) hn hx he ho hi) (ss_subD g (m := m) hn he ho hi)) fun Dn σ H h => ?_
  obtain ⟨ρ, S, μ, ν, hr, en, h⟩ := h
  dsimp only at h
  cases qe : ev Φ m ce ρ S with
  | bad => rw [qe] at h; exact h.elim
  | exc x S' => rw [qe] at h; exact .inl ⟨ρ, S, μ, ν, hr, en, by dsimp only; rw [qe]; exact h⟩
  | ok d S0 =>
    rw [qe] at h
    have h : Fin W μ ν H (RelF W ν) ((setT (ev Φ m) (.sub co ci) d ρ S0).bind fun ρ S => .ok (.nx ρ) S) (endQ Dn) E0 := h
    rcases setT_is (ev Φ m) co ci d ρ S0 with e | e
    · rw [e] at h
      exact .inl ⟨ρ, S, μ, ν, hr, en, by dsimp only; rw [qe]; exact h⟩
    · rw [e] at h
      exact .inr ⟨ρ, S, μ, ν, hr, en, by dsimp only; rw [qe]; exact h⟩
end
end EW

/-! EW, part 12: further statements; the checker's theorem for statements. -/
namespace EW
open PySem PySem.Spec PyProof.Rows L2
section
variable {W : Wd} {Φ : Ph} {C : Ct} {k : Nat} {E0 : XK} {X : Cx}

theorem fm_len {f g : Expr → Option Str} (h : ∀ e, (f e).isSome = true → (g e).isSome = true) : ∀ ts : List Expr, (ts.filterMap f).length ≤ (ts.filterMap g).length
  | [] => Nat.le_refl _
  | e :: r => by
    have ih := fm_len h r
    rw [List.filterMap_cons, List.filterMap_cons]
    have he := h e
    cases hf : f e with
    | none => cases g e <;> simp <;> omega
    | some x =>
      rw [hf] at he
      cases hg : g e with
      | none => rw [hg] at he; exact absurd (he rfl) (by simp)
      | some y => simp only [List.length_cons]; omega
theorem swapped_no {C : Ct} {ts : List Expr} {j : Nat} {p : Pos} {e : Expr} {env : PySem.Env} (hsc : env.scope.names = C.sc) (h : noSwap C (.Tuple ts j p) e = true) : swappedStores [.Tuple ts j p] e env = pure none := by
  by_cases hv : ∃ vs j2 p2, e = .Tuple vs j2 p2
  · obtain ⟨vs, j2, p2, rfl⟩ := hv
    unfold noSwap at h
    dsimp only at h
    unfold swappedStores
    dsimp only
    by_cases h1 : (!(ts.length == 2 || ts.length == 3) || vs.length != ts.length || env.blockKind != .function) = true
    · rw [if_pos h1]
    · rw [if_neg h1]
      have h1' : (!(ts.length == 2 || ts.length == 3)) = false ∧ (vs.length != ts.length) = false := by
        simp only [Bool.or_eq_true, not_or, Bool.not_eq_true] at h1
        exact ⟨h1.1.1, h1.1.2⟩
      rw [h1'.1, h1'.2] at h
      simp only [Bool.false_or, Bool.and_eq_true, Bool.not_eq_true', Bool.or_eq_true] at h
      obtain ⟨h2, h3⟩ := h
      have hf : ∀ f : Expr → Bool, (∀ e, f e = isStar e) → ¬ vs.any f = true := fun f hf => by
        rw [show f = isStar from funext hf, h2]; exact Bool.false_ne_true
      rw [if_neg (hf _ fun e => by cases e <;> rfl)]
      have kk : ∀ id, env.kindOf id = C.sc.lookup id := fun id => by unfold PySem.Env.kindOf; rw [hsc]
      by_cases h4 : vs.all (foldedForSure 8) = true
      · split
        · rfl
        · first | rfl | rw [if_pos h4]
      · have h3 : ((ts.filterMap (nameOf C.sc)).length == ts.length) = false := h3.resolve_right h4
        rw [if_pos]
        have a2 := List.length_filterMap_le (nameOf C.sc) ts
        have hlt : (ts.filterMap (nameOf C.sc)).length ≠ ts.length := by
          intro z
          rw [z] at h3
          simp at h3
        rw [Bool.or_eq_true]
        refine .inl (bne_iff_ne.mpr fun z => hlt (Nat.le_antisymm a2 ?_))
        rw [← z]
        refine fm_len (fun e q => ?_) ts
        cases e <;> first | (cases q; done) | skip
        rename_i id pos
        dsimp only at q
        unfold nameOf
        dsimp only
        rw [kk] at q
        split at q
        · rename_i q2
          rw [Bool.and_eq_true] at q2
          rw [if_pos q2.1]; rfl
        · cases q
  · unfold swappedStores
    cases e <;> first | rfl | exact (hv ⟨_, _, _, rfl⟩).elim

/-- a, b = .. one after another -/
theorem ss_tup (g : Gs W Φ C k E0 X) {ts : List Expr} {j : Nat} {q pos : Pos} {e : Expr} {ts' : List T} {ce : E} {m : Nat} (hs : noSwap C (.Tuple ts j q) e = true) (ht : chkT 8 C (allOwn C) (.Tuple ts j q) (.tup ts') = true) (he : chkE 60 C e ce = true) :
    PS X (.Assign [.Tuple ts j q] e pos) (tS W E0 fun ρ S => (ev Φ m ce ρ S).bind fun d S => (setT (ev Φ m) (.tup ts') d ρ S).bind fun ρ S => .ok (.nx ρ) S) := by
  have te := (chkE_ok 60 e ce g.toGd he).pe m
  have tg := pg_of (C := C) g.nd g.N g.loc g.cm 8 (.tup ts') (.Tuple ts j q) ht
  refine PS.imp (ps_asg te tg sw_tup (swapped_no g.sc hs)) fun Dn σ H h => ?_
  refine tS_bind h fun v H1 ρ d S μ ν hr en rv h1 => ?_
  have h1 : Fin W μ ν H1 (RelF W ν) ((R.of S (setN 8 (.tup ts') d ρ)).bind fun ρ S => .ok (.nx ρ) S) (endQ Dn) E0 := h1
  cases hset : setN 8 (.tup ts') d ρ with
  | none => rw [hset] at h1; exact h1.elim
  | some ρ' =>
    rw [hset] at h1
    exact g.hK ▸ gT_ok 8 8 (.tup ts') (.Tuple ts j q) d v σ ρ ρ' Dn.nx ht hset rv en fun σ' en' _ => h1 (.nx σ') μ H1 .refl hr en'

theorem swapped_par {x y : Str} {px py q p2 : Pos} {a b : Expr} {j j2 : Nat} {env : PySem.Env} (hb : env.blockKind = .function) (hx : env.kindOf x = some .local) (hy : env.kindOf y = some .local) (hl : px.line = py.line) (hne : x ≠ y)
    (sa : isStar a = false) (sb : isStar b = false) (hf : (foldedForSure 8 a && foldedForSure 8 b) = false) (hc : (constantsAlone 8 a && constantsAlone 8 b) = false) :
    swappedStores [.Tuple [.Name x px, .Name y py] j q] (.Tuple [a, b] j2 p2) env = pure (some [x, y]) := by
  unfold swappedStores
  dsimp only
  rw [if_neg (by rw [hb]; simp)]
  have h1 : ∀ f : Expr → Bool, (∀ e, f e = isStar e) → ¬ [a, b].any f = true := fun f hf => by
    rw [show f = isStar from funext hf]; simp [sa, sb]
  rw [if_neg (h1 _ fun e => by cases e <;> rfl)]
  have e1 : (List.filterMap (fun | .Name id pos => if (env.kindOf id == some .local && pos.line == (([Expr.Name x px, Expr.Name y py].head?.map (·.pos.line)).getD 0)) = true then some id else none | _ => none : Expr → Option Str) [Expr.Name x px, Expr.Name y py]) = [x, y] := by
    simp [List.filterMap_cons, hx, hy, Expr.pos, hl]
  have e2 : ∀ f : Expr → Option Str, (∀ e, f e = (match e with | .Name id pos => if (env.kindOf id == some .local && pos.line == (([Expr.Name x px, Expr.Name y py].head?.map (·.pos.line)).getD 0)) = true then some id else none | _ => none)) → List.filterMap f [Expr.Name x px, Expr.Name y py] = [x, y] := fun f hf => by
    rw [show f = _ from funext hf]; exact e1
  rw [e2 _ fun e => by cases e <;> rfl]
  rw [if_neg]
  · rw [if_neg (by simpa using hf), if_neg (by simpa using hc)]
  · have : (x == y) = false := by simpa using hne
    have hd : [x, y].eraseDups = [x, y] := by
      have h2 : (y == x) = false := by simpa using Ne.symm hne
      simp [List.eraseDups_cons, h2]
    rw [hd]; simp

theorem ss_par (g : Gs W Φ C k E0 X) (h0 : C.hot = false) {tg e : Expr} {pos : Pos} {t : T} {ce : E} {m : Nat} (h : par2 C tg e t ce (chkE 60 C) = true) :
    PS X (.Assign [tg] e pos) (tS W E0 fun ρ S => (ev Φ m ce ρ S).bind fun d S => (setT (ev Φ m) t d ρ S).bind fun ρ S => .ok (.nx ρ) S) := by
  unfold par2 at h
  split at h
  case h_2 => cases h
  rename_i x px y py jt pt a b j2 p2 i j ca cb
  simp only [Bool.and_eq_true, decide_eq_true_eq, Bool.not_eq_true'] at h
  obtain ⟨⟨⟨⟨⟨⟨⟨⟨⟨⟨⟨h1, h2⟩, h3⟩, h4⟩, h5⟩, h6⟩, h7⟩, h8⟩, h9⟩, h10⟩, h11⟩, h12⟩ := h
  have hij : i ≠ j := fun z => by subst z; simp at h3
  have hxy : x ≠ y := fun z => by
    subst z
    have hN := g.nd
    rw [g.N] at hN
    exact hij (nodup_ix hN h1 h2)
  have kx : X.env.kindOf x = some .local := by unfold PySem.Env.kindOf; rw [g.sc]; exact h4
  have ky : X.env.kindOf y = some .local := by unfold PySem.Env.kindOf; rw [g.sc]; exact h5
  match m with
  | 0 => exact PS.imp ps_never fun Dn σ H ⟨ρ, S, μ, ν, hr, en, h⟩ => h
  | m + 1 =>
  have pa := pa_of (W := W) (Φ := Φ) (Wx := cW E0) (X := X) (C := C) (n := 60) (m := m) (fun e c h => (chkE_ok 60 e c g.toGd h).pe m) [a, b] [ca, cb] (by simp only [chks, Bool.and_eq_true]; exact ⟨h11, h12, trivial⟩)
  refine PS.imp (ps_par (g.calm h0) g.nd (by rw [g.N]; exact h1) (by rw [g.N]; exact h2) hij kx ky pa (swapped_par g.block kx ky h6 hxy h7 h8 h9 h10)) fun Dn σ H h => ?_
  obtain ⟨ρ, S, μ, ν, hr, en, h⟩ := h
  refine ⟨ρ, S, μ, ν, hr, en, ?_⟩
  have h : Fin W μ ν H (RelF W ν) (((evs (ev Φ m) [ca, cb] ρ S).bind fun ds S => R.ok (D.tup ds) S).bind fun d S => (setT (ev Φ (m + 1)) (.tup [.nm i, .nm j]) d ρ S).bind fun ρ S => .ok (.nx ρ) S) (endQ Dn) E0 := h
  cases qv : evs (ev Φ m) [ca, cb] ρ S with
  | bad => rw [qv] at h; exact h.elim
  | exc x S' => rw [qv] at h; exact h
  | ok ds S1 =>
    rw [qv] at h
    have hlen := evs_len qv
    intro vs μ1 H1 m1 hr1 rvs
    have h : Fin W μ ν H (RelF W ν) ((R.of S1 (setN 8 (.tup [.nm i, .nm j]) (.tup ds) ρ)).bind fun ρ S => .ok (.nx ρ) S) (endQ Dn) E0 := h
    cases rvs with
    | nil => cases hlen
    | cons r1 rvs => cases rvs with
      | nil => cases hlen
      | cons r2 rvs => cases rvs with
        | cons _ _ => cases hlen
        | nil =>
          refine ⟨_, _, rfl, ?_⟩
          rename_i d1 w2 d2 _
          cases hset : setN 8 (.tup [.nm i, .nm j]) (.tup [d1, d2]) ρ with
          | none => rw [hset] at h; exact h.elim
          | some ρ' =>
            rw [hset] at h
            have e3 : ρ' = (ρ.set i (some d1)).set j (some d2) := by
              simp only [setN, setN.setNs] at hset
              split at hset
              · simp only [Option.bind_some] at hset
                split at hset
                · simp only [Option.bind_some, Option.some.injEq] at hset; exact hset.symm
                · cases hset
              · cases hset
            subst e3
            exact h (.nx _) μ1 H1 m1 hr1 (((en.mo m1).set r1).set r2)

theorem swapped_par3 {x y z : Str} {px py pz q p2 : Pos} {a b d : Expr} {j j2 : Nat} {env : PySem.Env} (hb : env.blockKind = .function) (hx : env.kindOf x = some .local) (hy : env.kindOf y = some .local) (hz : env.kindOf z = some .local) (hl : px.line = py.line) (hl2 : px.line = pz.line) (hne : x ≠ y) (hne2 : x ≠ z) (hne3 : y ≠ z)
    (sa : isStar a = false) (sb : isStar b = false) (sd : isStar d = false) (hf : (foldedForSure 8 a && foldedForSure 8 b && foldedForSure 8 d) = false) (hc : (constantsAlone 8 a && constantsAlone 8 b && constantsAlone 8 d) = false) :
    swappedStores [.Tuple [.Name x px, .Name y py, .Name z pz] j q] (.Tuple [a, b, d] j2 p2) env = pure (some [x, y, z]) := by
  unfold swappedStores
  dsimp only
  rw [if_neg (by rw [hb]; simp)]
  have h1 : ∀ f : Expr → Bool, (∀ e, f e = isStar e) → ¬ [a, b, d].any f = true := fun f hf => by
    rw [show f = isStar from funext hf]; simp [sa, sb, sd]
  rw [if_neg (h1 _ fun e => by cases e <;> rfl)]
  have e1 : (List.filterMap (fun | .Name id pos => if (env.kindOf id == some .local && pos.line == (([Expr.Name x px, Expr.Name y py, Expr.Name z pz].head?.map (·.pos.line)).getD 0)) = true then some id else none | _ => none : Expr → Option Str) [Expr.Name x px, Expr.Name y py, Expr.Name z pz]) = [x, y, z] := by
    simp [List.filterMap_cons, hx, hy, hz, Expr.pos, ← hl, ← hl2]
  have e2 : ∀ f : Expr → Option Str, (∀ e, f e = (match e with | .Name id pos => if (env.kindOf id == some .local && pos.line == (([Expr.Name x px, Expr.Name y py, Expr.Name z pz].head?.map (·.pos.line)).getD 0)) = true then some id else none | _ => none)) → List.filterMap f [Expr.Name x px, Expr.Name y py, Expr.Name z pz] = [x, y, z] := fun f hf => by
    rw [show f = _ from funext hf]; exact e1
  rw [e2 _ fun e => by cases e <;> rfl]
  rw [if_neg]
  · rw [if_neg (by simpa [and_assoc] using hf), if_neg (by simpa [and_assoc] using hc)]
  · have hd : [x, y, z].eraseDups = [x, y, z] := by
      have h2 : (y == x) = false := by simpa using Ne.symm hne
      have h3 : (z == x) = false := by simpa using Ne.symm hne2
      have h4 : (z == y) = false := by simpa using Ne.symm hne3
      simp [List.eraseDups_cons, h2, h3, h4]
    rw [hd]; simp
theorem ss_par3 (g : Gs W Φ C k E0 X) (h0 : C.hot = false) {tg e : Expr} {pos : Pos} {t : T} {ce : E} {m : Nat} (h : par3 C tg e t ce (chkE 60 C) = true) :
    PS X (.Assign [tg] e pos) (tS W E0 fun ρ S => (ev Φ m ce ρ S).bind fun d S => (setT (ev Φ m) t d ρ S).bind fun ρ S => .ok (.nx ρ) S) := by
  unfold par3 at h
  split at h
  case h_2 => cases h
  rename_i x px y py z pz jt pt a b d j2 p2 i j l ca cb cd
  simp only [Bool.and_eq_true, decide_eq_true_eq, Bool.not_eq_true'] at h
  obtain ⟨⟨⟨⟨⟨⟨⟨⟨⟨⟨⟨⟨⟨⟨⟨⟨⟨⟨h1, h2⟩, h3⟩, hij⟩, hil⟩, hjl⟩, h4⟩, h5⟩, h6⟩, l1⟩, l2⟩, s1⟩, s2⟩, s3⟩, f1⟩, f2⟩, c1⟩, c2⟩, c3⟩ := h
  have hij : i ≠ j := fun z => by subst z; simp at hij
  have hil : i ≠ l := fun z => by subst z; simp at hil
  have hjl : j ≠ l := fun z => by subst z; simp at hjl
  have nd : ∀ {x y : Str} {i j : Nat}, i ≠ j → C.N[i]? = some x → C.N[j]? = some y → x ≠ y := fun hij h1 h2 z => by
    subst z
    have hN := g.nd
    rw [g.N] at hN
    exact hij (nodup_ix hN h1 h2)
  have kk : ∀ {x}, C.sc.lookup x = some .local → X.env.kindOf x = some .local := fun h => by unfold PySem.Env.kindOf; rw [g.sc]; exact h
  match m with
  | 0 => exact PS.imp ps_never fun Dn σ H ⟨ρ, S, μ, ν, hr, en, h⟩ => h
  | m + 1 =>
  have pa := pa_of (W := W) (Φ := Φ) (Wx := cW E0) (X := X) (C := C) (n := 60) (m := m) (fun e c h => (chkE_ok 60 e c g.toGd h).pe m) [a, b, d] [ca, cb, cd] (by simp only [chks, Bool.and_eq_true]; exact ⟨c1, c2, c3, trivial⟩)
  refine PS.imp (ps_par3 (g.calm h0) g.nd (by rw [g.N]; exact h1) (by rw [g.N]; exact h2) (by rw [g.N]; exact h3) hij hil hjl (kk h4) (kk h5) (kk h6) pa (swapped_par3 g.block (kk h4) (kk h5) (kk h6) l1 l2 (nd hij h1 h2) (nd hil h1 h3) (nd hjl h2 h3) s1 s2 s3 f1 f2)) fun Dn σ H h => ?_
  obtain ⟨ρ, S, μ, ν, hr, en, h⟩ := h
  refine ⟨ρ, S, μ, ν, hr, en, ?_⟩
  have h : Fin W μ ν H (RelF W ν) (((evs (ev Φ m) [ca, cb, cd] ρ S).bind fun ds S => R.ok (D.tup ds) S).bind fun d S => (setT (ev Φ (m + 1)) (.tup [.nm i, .nm j, .nm l]) d ρ S).bind fun ρ S => .ok (.nx ρ) S) (endQ Dn) E0 := h
  cases qv : evs (ev Φ m) [ca, cb, cd] ρ S with
  | bad => rw [qv] at h; exact h.elim
  | exc x S' => rw [qv] at h; exact h
  | ok ds S1 =>
    rw [qv] at h
    have hlen := evs_len qv
    intro vs μ1 H1 m1 hr1 rvs
    have h : Fin W μ ν H (RelF W ν) ((R.of S1 (setN 8 (.tup [.nm i, .nm j, .nm l]) (.tup ds) ρ)).bind fun ρ S => .ok (.nx ρ) S) (endQ Dn) E0 := h
    obtain ⟨d1, d2, d3, rfl⟩ : ∃ d1 d2 d3, ds = [d1, d2, d3] := by
      match ds, hlen with
      | [d1, d2, d3], _ => exact ⟨_, _, _, rfl⟩
    cases rvs with
    | cons r1 rvs => cases rvs with
      | cons r2 rvs => cases rvs with
        | cons r3 rvs =>
          cases rvs
          refine ⟨_, _, _, rfl, ?_⟩
          cases hset : setN 8 (.tup [.nm i, .nm j, .nm l]) (.tup [d1, d2, d3]) ρ with
          | none => rw [hset] at h; exact h.elim
          | some ρ' =>
            rw [hset] at h
            have e3 : ρ' = ((ρ.set i (some d1)).set j (some d2)).set l (some d3) := by
              simp only [setN, setN.setNs] at hset
              split at hset
              · simp only [Option.bind_some] at hset
                split at hset
                · simp only [Option.bind_some] at hset
                  split at hset
                  · simp only [Option.bind_some, Option.some.injEq] at hset; exact hset.symm
                  · cases hset
                · cases hset
              · cases hset
            subst e3
            exact h (.nx _) μ1 H1 m1 hr1 ((((en.mo m1).set r1).set r2).set r3)

/-! ### the rest -/
theorem iopR_of {o : Op} {op : Operator} (h : (op = .Add ∧ o = .add) ∨ (op = .Sub ∧ o = .sub)) : OpR X (inplaceOp op) (fun x y H Q => ∃ S μ ν dx dy d, HR W μ ν S H ∧ Rp W μ ν H x dx ∧ Rp W μ ν H y dy ∧ augD o dx dy = some d ∧ Aft W μ ν S H d Q) := by
  rcases h with ⟨rfl, rfl⟩ | ⟨rfl, rfl⟩
  · refine OpR.imp (OpR.or iop_add iop_add_str) fun x y H Q hq => ?_
    obtain ⟨S, μ, ν, dx, dy, d, h, rx, ry, e, q⟩ := hq
    unfold augD at e
    cases rx <;> cases ry <;> simp only at e <;> try (cases e; done)
    · cases e; exact .inl ⟨_, _, rfl, rfl, q.val h (.int _)⟩
    · rename_i l1 h1 g1 l2 h2 g2
      split at e
      · rename_i hf
        cases e
        refine .inr ⟨_, _, rfl, rfl, by rw [str_len, str_len]; exact fitL_le hf, ?_⟩
        rw [str_app]
        exact q.val h (.str _ (by rw [List.length_append]; exact Nat.le_of_ble_eq_true hf) fun c hc => (List.mem_append.mp hc).elim (g1 c) (g2 c))
      · cases e
  · refine OpR.imp iop_sub fun x y H Q hq => ?_
    obtain ⟨S, μ, ν, dx, dy, d, h, rx, ry, e, q⟩ := hq
    unfold augD at e
    cases rx <;> cases ry <;> simp only at e <;> try (cases e; done)
    cases e; exact ⟨_, _, rfl, rfl, q.val h (.int _)⟩
theorem ss_aug (g : Gs W Φ C k E0 X) {x : Str} {q pos : Pos} {e : Expr} {i : Nat} {ce : E} {o : Op} {op : Operator} {m : Nat} (ho : (op = .Add ∧ o = .add) ∨ (op = .Sub ∧ o = .sub)) (hn : C.N[i]? = some x ∧ (C.sc.lookup x = some .local ∨ C.sc.lookup x = some .cell)) (he : chkE 60 C e ce = true) :
    PS X (.AugAssign (.Name x q) op e pos) (tS W E0 fun ρ S => match ρ[i]? with
      | some (some x) => (ev Φ m ce ρ S).bind fun y S => match augD o x y with
        | some z => .ok (.nx (ρ.set i (some z))) S
        | none => .bad
      | _ => .bad) := by
  obtain ⟨h1, h2⟩ := g.name hn
  have te := (chkE_ok 60 e ce g.toGd he).pe m
  refine PS.imp (ps_aug g.nd h1 h2 te (ti := _) (fun pins s σ H x y v u Q I rx ry q => augR (iopR_of (W := W) ho) I rx ry q) (.inl (g.fnA x))) fun Dn σ H h => ?_
  obtain ⟨ρ, S, μ, ν, hr, en, h⟩ := h
  dsimp only at h
  split at h
  case h_2 => exact h.elim
  rename_i d hd
  obtain ⟨v, e1, rv⟩ := en.get i d hd
  refine ⟨v, e1, ρ, S, μ, ν, hr, en, (Fin.bind (Rel := RelD W ν) h).imp fun y H1 ⟨dy, S1, μ1, m1, hr1, ry, h2⟩ => ?_⟩
  cases ha : augD o d dy with
  | none => rw [ha] at h2; exact h2.elim
  | some z =>
    rw [ha] at h2
    exact ⟨S1, μ1, ν, d, dy, z, hr1, rv.mo m1, ry, ha, fun w μ2 H2 m2 hr2 rw' => h2 (.nx _) μ2 H2 m2 hr2 (((en.mo m1).mo m2).set rw')⟩

theorem ss_expr (g : Gs W Φ C k E0 X) {e : Expr} {pos : Pos} {ce : E} {m : Nat} (hn : noComp e = true) (he : chkE 60 C e ce = true) : PS X (.Expr e pos) (tS W E0 fun ρ S => (ev Φ m ce ρ S).bind fun _ S => .ok (.nx ρ) S) :=
  PS.imp (ps_expr ((chkE_ok 60 e ce g.toGd he).pe m) (sw_no hn)) fun Dn σ H h => tS_bind h fun v H1 ρ d S μ ν hr en rv h1 => h1 (.nx σ) μ H1 .refl hr en
theorem ss_ret (g : Gs W Φ C k E0 X) {e : Expr} {pos : Pos} {ce : E} {m : Nat} (he : chkE 60 C e ce = true) : PS X (.Return (some e) pos) (tS W E0 fun ρ S => (ev Φ m ce ρ S).bind fun d S => .ok (.rt d) S) :=
  PS.imp (ps_ret ((chkE_ok 60 e ce g.toGd he).pe m)) fun Dn σ H h => tS_bind h fun v H1 ρ d S μ ν hr en rv h1 => h1 (.rt v) μ H1 .refl hr rv

theorem ss_nil {rec : S → Env → Hs → R Fl} : PSs X [] (tS W E0 (evB rec [])) := PSs.imp pss_nil fun Dn σ H ⟨ρ, S, μ, ν, hr, en, h⟩ => h (.nx σ) μ H .refl hr en
theorem ss_cons {st : Stmt} {rest : List Stmt} {c : S} {cs : List S} {rec : S → Env → Hs → R Fl} (h1 : PS X st (tS W E0 (rec c))) (h2 : PSs X rest (tS W E0 (evB rec cs))) : PSs X (st :: rest) (tS W E0 (evB rec (c :: cs))) :=
  PSs.imp (pss_cons h1 h2) fun Dn σ H h => by
    obtain ⟨ρ, S, μ, ν, hr, en, h2⟩ := tG_bind (Rel := RelF W) h
    refine ⟨ρ, S, μ, ν, hr, en, h2.imp fun fv H1 ⟨ρ1, f, S1, μ1, ν1, hr1, en1, rf, h3⟩ => ?_⟩
    cases f <;> cases fv <;> first | exact rf.elim | skip
    · exact ⟨_, S1, μ1, ν1, hr1, rf, h3⟩
    · exact h3 (.rt _) μ1 H1 .refl hr1 rf
    · exact h3 (.bk _) μ1 H1 .refl hr1 rf
    · exact h3 (.ct _) μ1 H1 .refl hr1 rf
theorem ss_all {f : Stmt → S → Bool} {rec : S → Env → Hs → R Fl} (ih : ∀ st c, f st c = true → PS X st (tS W E0 (rec c))) : ∀ (sts : List Stmt) (cs : List S), chkB f sts cs = true → PSs X sts (tS W E0 (evB rec cs))
  | [], [], _ => ss_nil
  | [], _ :: _, h => by simp [chkB] at h
  | _ :: _, [], h => by simp [chkB] at h
  | st :: sts, c :: cs, h => by
    simp only [chkB, Bool.and_eq_true] at h
    exact ss_cons (ih st c h.1) (ss_all ih sts cs h.2)

theorem ss_if {t : Expr} {a b : List Stmt} {pos : Pos} {rt : Env → Hs → R Bool} {ra rb : Env → Hs → R Fl} (hc : PT X t (tRb W (cW E0) rt)) (ha : PSs X a (tS W E0 ra)) (hb : PSs X b (tS W E0 rb)) :
    PS X (.If t a b pos) (tS W E0 fun ρ S => (rt ρ S).bind fun k S => if k then ra ρ S else rb ρ S) := PS.imp (ps_if hc ha hb) fun Dn σ H h => by
  obtain ⟨ρ, S, μ, ν, hr, en, h2⟩ := tG_bind (Rel := fun _ => RelB) h
  refine ⟨ρ, S, μ, ν, hr, en, h2.imp fun x H1 ⟨ρ1, dx, S1, μ1, ν1, hr1, en1, rx, h3⟩ => ?_⟩
  cases rx
  cases x with
  | true => rw [if_pos rfl]; exact ⟨ρ1, S1, μ1, ν1, hr1, en1, h3⟩
  | false => rw [if_neg Bool.false_ne_true]; exact ⟨ρ1, S1, μ1, ν1, hr1, en1, h3⟩

/-- behind a loop's turn -/
theorem loop_end {Dn : Ends} {μ ν : List Addr} {H : Hp} {r : R Fl} {f : Fl → Hs → R Fl} {N : L2.St → Hp → Prop} (h : Fin W μ ν H (RelF W ν) (r.bind f) (endQ Dn) E0)
    (hn : ∀ (ρ : Env) (S1 : Hs) (σ : L2.St) (μ1 : List Addr) (H1 : Hp), Mo μ H μ1 H1 → HR W μ1 ν S1 H1 → En W μ1 ν H1 σ ρ → (Fin W μ1 ν H1 (RelF W ν) (f (.nx ρ) S1) (endQ Dn) E0 ∨ Fin W μ1 ν H1 (RelF W ν) (f (.ct ρ) S1) (endQ Dn) E0) → N σ H1)
    (hb : ∀ ρ S, f (.bk ρ) S = .ok (.nx ρ) S) (hr : ∀ d S, f (.rt d) S = .ok (.rt d) S) : Fin W μ ν H (RelF W ν) r (endQ { Dn with nx := N, ct := N, bk := Dn.nx }) E0 := by
  refine (Fin.bind (Rel := RelF W ν) h).imp fun fv H1 ⟨fl, S1, μ1, m1, hr1, rf, h2⟩ => ?_
  cases fl <;> cases fv <;> first | exact rf.elim | skip
  · exact hn _ S1 _ μ1 H1 m1 hr1 rf (.inl h2)
  · rw [hr] at h2; exact h2 (.rt _) μ1 H1 .refl hr1 rf
  · rw [hb] at h2; exact h2 (.nx _) μ1 H1 .refl hr1 rf
  · exact hn _ S1 _ μ1 H1 m1 hr1 rf (.inr h2)

theorem forG_succ {t : T} {cb : List S} {rec : S → Env → Hs → R Fl} {f : Nat → Hs → Option (Option D)} {n i : Nat} {ρ : Env} {S : Hs} : forG rec t cb f (n + 1) i ρ S = match f i S with
    | none => .bad
    | some none => .ok (.nx ρ) S
    | some (some x) => match setN 8 t x ρ with
      | none => .bad
      | some ρ => (evB rec cb ρ S).bind fun g S => match g with
        | .nx ρ => forG rec t cb f n (i + 1) ρ S
        | .ct ρ => forG rec t cb f n (i + 1) ρ S
        | .bk ρ => .ok (.nx ρ) S
        | .rt d => .ok (.rt d) S := rfl
theorem forL_G {t : T} {cb : List S} {rec : S → Env → Hs → R Fl} {xs : List D} : ∀ (n i : Nat) (ρ : Env) (S : Hs), n + i = xs.length → forG rec t cb (Wk.vals xs).at (n + 1) i ρ S = forL rec t cb (xs.drop i) ρ S
  | 0, i, ρ, S, h => by
    rw [forG_succ, vals_at (by omega), List.getElem?_eq_none (by omega), List.drop_eq_nil_of_le (by omega)]; rfl
  | n + 1, i, ρ, S, h => by
    have hi : i < xs.length := by omega
    rw [forG_succ, vals_at (by omega), List.getElem?_eq_getElem hi, List.drop_eq_getElem_cons hi]
    dsimp only
    rw [forL]
    have ih : ∀ ρ S, forG rec t cb (Wk.vals xs).at (n + 1) (i + 1) ρ S = forL rec t cb (xs.drop (i + 1)) ρ S := fun ρ S => forL_G n (i + 1) ρ S (by omega)
    first
      | (simp only [ih]; done)
      | (simp only [ih]; rfl)
theorem forW_G {t : T} {cb : List S} {rec : S → Env → Hs → R Fl} {wf : Nat} {w : Wk} {ρ : Env} {S : Hs} : ∃ N, forW rec wf t cb w ρ S = forG rec t cb w.at N 0 ρ S := by
  cases w with
  | vals xs => exact ⟨xs.length + 1, (forL_G xs.length 0 ρ S (by omega)).symm⟩
  | dyn f => exact ⟨wf, rfl⟩
theorem ss_for (g : Gs W Φ C k E0 X) (h0 : C.hot = false) {tg it : Expr} {b : List Stmt} {pos : Pos} {t : T} {cb : List S} {rec : S → Env → Hs → R Fl} {wf : Nat} {ri : Env → Hs → R Wk} (hi : PI X tg it (tI W (cW E0) ri)) (hs : ∀ x, foldedSetIterable it X.env x = pure x) (ht : chkT 8 C (allOwn C) tg t = true)
    (hb : PSs X b (tS W E0 (evB rec cb))) : PS X (.For tg it b [] pos) (tS W E0 fun ρ S => (ri ρ S).bind fun w S => forW rec wf t cb w ρ S) := by
  have hg := pg_of (C := C) g.nd g.N g.loc g.cm 8 t tg ht
  refine PS.imp (ps_for (g.po h0) (g.calm h0) hi hg hb hs) fun Dn σ H h => ?_
  obtain ⟨ρ, S, μ, ν, hr, en, h2⟩ := tG_bind (Rel := fun ν μ H J w => ItOk W ν μ H J w) h
  refine ⟨ρ, S, μ, ν, hr, en, h2.imp fun J H1 ⟨ρ1, w, S1, μ1, ν1, hr1, en1, itk, h3⟩ => ?_⟩
  obtain ⟨N, hN⟩ := forW_G (t := t) (cb := cb) (rec := rec) (wf := wf) (w := w) (ρ := ρ1) (S := S1)
  dsimp only at h3
  rw [hN] at h3
  let Inv : Nat → Nat → L2.St → Hp → Prop := fun i m σ H => ∃ ρ S μ, HR W μ ν1 S H ∧ Mo μ1 H1 μ H ∧ En W μ ν1 H σ ρ ∧ Fin W μ ν1 H (RelF W ν1) (forG rec t cb w.at m i ρ S) (endQ Dn) E0
  refine ⟨Inv, ⟨N, ρ1, S1, μ1, hr1, .refl, en1, h3⟩, fun i m σ H hI => ?_⟩
  obtain ⟨ρ2, S2, μ2, hr2, m2, en2, h4⟩ := hI
  cases m with
  | zero => exact h4.elim
  | succ m =>
  rw [forG_succ] at h4
  cases hat : w.at i S2 with
  | none => rw [hat] at h4; exact h4.elim
  | some o =>
  rw [hat] at h4
  cases o with
  | some x0 =>
    obtain ⟨hgo, hy⟩ := itk.go i x0 μ2 ν1 S2 H hat m2 .refl hr2
    refine .inr ⟨hgo, fun σ' H' => Inv (i + 1) m σ' H', fun σ' H' z => ⟨m, Nat.lt_succ_self m, z⟩, fun x H' hy' => ?_⟩
    obtain ⟨m3, hr3, rx⟩ := hy x H' hy'
    dsimp only at h4
    cases hset : setN 8 t x0 ρ2 with
    | none => rw [hset] at h4; exact h4.elim
    | some ρ3 =>
      rw [hset] at h4
      dsimp only at h4
      refine g.hK ▸ gT_ok 8 8 t tg x0 x σ ρ2 ρ3 _ ht hset rx (en2.mo m3) fun σ3 en3 _ => ?_
      refine ⟨ρ3, S2, μ2, ν1, hr3, en3, loop_end (Fin.from h4 m3) (fun ρ4 S4 σ4 μ4 H4 m4 hr4 en4 h5 => ?_) (fun _ _ => rfl) fun _ _ => rfl⟩
      exact ⟨ρ4, S4, μ4, hr4, (m2.trans m3).trans m4, en4, h5.elim id id⟩
  | none => exact .inl ⟨itk.stop i μ2 ν1 S2 H hat m2 .refl hr2, h4 (.nx σ) μ2 H .refl hr2 en2⟩

theorem ss_while (g : Gs W Φ C k E0 X) (h0 : C.hot = false) {c : Expr} {b : List Stmt} {pos : Pos} {cc : E} {cb : List S} {ve : E → Env → Hs → R D} {rec : S → Env → Hs → R Fl} {wf : Nat} (hc : PT X c (tRb W (cW E0) (evT ve cc))) (hb : PSs X b (tS W E0 (evB rec cb))) :
    PS X (.While c b [] pos) (tS W E0 fun ρ S => whileL ve rec cc cb wf ρ S) := by
  refine PS.imp (ps_while (g.po h0) hc hb) fun Dn σ H h => ?_
  let Inv : Nat → L2.St → Hp → Prop := fun m σ H => ∃ ρ S μ ν, HR W μ ν S H ∧ En W μ ν H σ ρ ∧ Fin W μ ν H (RelF W ν) (whileL ve rec cc cb m ρ S) (endQ Dn) E0
  refine ⟨Inv, ⟨wf, h⟩, fun m σ H hI => ?_⟩
  obtain ⟨ρ, S, μ, ν, hr, en, h1⟩ := hI
  cases m with
  | zero => exact h1.elim
  | succ m =>
    unfold whileL at h1
    refine ⟨ρ, S, μ, ν, hr, en, (Fin.bind (Rel := RelB) h1).imp fun x H1 ⟨kk, S1, μ1, m1, hr1, rx, h3⟩ => ?_⟩
    cases rx
    cases x with
    | false =>
      rw [if_neg Bool.false_ne_true]
      exact h3 (.nx σ) μ1 H1 .refl hr1 (en.mo m1)
    | true =>
      rw [if_pos rfl]
      refine ⟨fun σ' H' => Inv m σ' H', fun σ' H' z => ⟨m, Nat.lt_succ_self m, z⟩, ρ, S1, μ1, ν, hr1, en.mo m1, loop_end h3 (fun ρ4 S4 σ4 μ4 H4 m4 hr4 en4 h5 => ?_) (fun _ _ => rfl) fun _ _ => rfl⟩
      exact ⟨ρ4, S4, μ4, ν, hr4, en4, h5.elim id id⟩

theorem ss_raise (g : Gs W Φ C k E0 X) (h0 : C.hot = false) {x m : Str} {j : Nat} {p p2 p3 pos : Pos} {i : Nat} (hx : C.glb x = true) (hv : C.val x (.cls i) = true) :
    PS X (.Raise (some (.Call (.Name x p) [.Constant (.str m) j p2] [] p3)) none pos) (tS W E0 fun ρ S => .exc ⟨i, []⟩ S) := by
  obtain ⟨hg, hd, _⟩ := g.glb hx
  obtain ⟨u, v, e1, r, rp⟩ := g.val x (.cls i) hv
  have ev : v = .ref (W.ca i) := by cases rp [] [] (fun _ => none); rfl
  subst ev
  have eu : u = .ref (W.ca i) := r
  subst eu
  obtain ⟨bm, h1, h2, h3, h4⟩ := g.exc h0 x i hv
  refine PS.imp (L2N.ps_raise (g.calm h0) g.tk (L2N.pmk_own h2 h1 e1 h3 h4 hg hd)) fun Dn σ H ⟨ρ, S, μ, ν, hr, en, h⟩ => ?_
  exact h _ none μ H .refl hr ⟨rfl, rfl, rfl⟩
/-- X(e), the text e -/
theorem pmk_ownE {X : Cx} {Cc : Addr} {bmB : List Value} {B newId initId : String} {x : Str} {e : Expr} {te : TE} {p pos : Pos} (F : ExcBaseFacts B newId initId bmB) (q : PySem.W.excIn X.K Cc bmB newId = true) (gC : X.mg x = some (.ref Cc)) (kC : PySem.W.keepIn X.K (.ref Cc) = true) (r : Raises X (.ref Cc)) (hg : Gl X x)
    (he : PE X e te) (hs : starEach [e] X.env = (false, eval e X.env) :: starEach [] X.env) (hdb : (x == ("__debug__" : Str)) = false) : L2N.PMk X (.Call (.Name x p) [e] [] pos) (fun σ H Q => te σ H fun _ H1 => Q (.ref Cc) none H1) := by
  intro pins s σ H Q I h
  refine wpAny_Call_Name_kw (ld_glob I hg gC ?_ hdb)
  refine PySem.W.callWith_K (h₀ := X.base) I.ok.mod.kin kC ?_ hs (by rfl)
  rw [hs]
  show wpAny _ _ (spliced ((false, eval e X.env) :: backTo pos (starEach [] X.env))) _ _ s
  refine Calls.spliced_cons (thn (he.run pins s σ H _ I h) fun u s1 ⟨v, H1, I1, r1, q1⟩ => ?_)
  refine Calls.spliced_nil ⟨I1.kIn, ?_⟩
  show wpAny _ _ (call (.ref Cc) [u]) _ _ _
  obtain ⟨bm, N, nm, qn, bs, hdct, sn, sub, ab, col, dd, k0, k1, k2, k3, k5, mN, hC, hN, hni, T⟩ := exc_obj I1.kIn q
  refine wpAny_call_exc_subT F T hC hN hni (fun h' e hm => ?_) (by show 1 ≤ sizeLine; rw [sizeLine_eq]; omega)
  exact L2N.mk_of I1 hm r q1 (I1.hok.gone hm.new)
theorem ss_raiseE (g : Gs W Φ C k E0 X) (h0 : C.hot = false) {x : Str} {e : Expr} {p p3 pos : Pos} {i : Nat} {ce : E} {m : Nat} (hx : C.glb x = true) (hv : C.val x (.cls i) = true) (he : chkE 60 C e ce = true) :
    PS X (.Raise (some (.Call (.Name x p) [e] [] p3)) none pos) (tS W E0 fun ρ S => (ev Φ m ce ρ S).bind fun d S => match d with
      | .str _ => .exc ⟨i, []⟩ S
      | _ => .bad) := by
  obtain ⟨hg, hd, _⟩ := g.glb hx
  obtain ⟨u, v, e1, r, rp⟩ := g.val x (.cls i) hv
  have ev : v = .ref (W.ca i) := by cases rp [] [] (fun _ => none); rfl
  subst ev
  have eu : u = .ref (W.ca i) := r
  subst eu
  obtain ⟨bm, h1, h2, h3, h4⟩ := g.exc h0 x i hv
  refine PS.imp (L2N.ps_raise (g.calm h0) g.tk (pmk_ownE h2 h1 e1 h3 h4 hg ((chkE_ok 60 e ce g.toGd he).pe m) (star_cons (chk_star he)) hd)) fun Dn σ H h => ?_
  refine tS_bind h fun v H1 ρ d S μ ν hr en rv h => ?_
  split at h
  · exact h _ none μ H1 .refl hr ⟨rfl, rfl, rfl⟩
  · exact h.elim
theorem ss_ext (g : Gs W Φ C k E0 X) {x : Str} {q pos : Pos} {e : Expr} {i : Nat} {ce : E} {m : Nat} (hn : C.N[i]? = some x ∧ (C.sc.lookup x = some .local ∨ C.sc.lookup x = some .cell)) (he : chkE 60 C e ce = true) :
    PS X (.AugAssign (.Name x q) .Add e pos) (tS W E0 fun ρ S => match ρ[i]? with
    | some (some (.cell n)) => (ev Φ m ce ρ S).bind fun d S => match d with
      | .lst mm => match cellL S n with
        | some l => if D.flats mm && fitL (l.length + mm.length) then .ok (.nx ρ) (S.set n (.lst (l ++ mm))) else .bad
        | none => .bad
      | _ => .bad
    | _ => .bad) := by
  obtain ⟨h1, h2⟩ := g.name hn
  have te := (chkE_ok 60 e ce g.toGd he).pe m
  refine PS.imp (ps_aug g.nd h1 h2 te (ti := _) (fun pins s σ H x y v u Q I rx ry q => augR iop_ext I rx ry q) (.inl (g.fnA x))) fun Dn σ H h => ?_
  obtain ⟨ρ, S, μ, ν, hr, en, h⟩ := h
  dsimp only at h
  split at h
  case h_2 => exact h.elim
  rename_i n hd
  obtain ⟨v, e1, rv⟩ := en.get i _ hd
  refine ⟨v, e1, ρ, S, μ, ν, hr, en, (Fin.bind (Rel := RelD W ν) h).imp fun y H1 ⟨dy, S1, μ1, m1, hr1, ry, h2⟩ => ?_⟩
  have rv1 := rv.mo m1
  cases rv with
  | @cell a _ hm =>
  split at h2
  case h_2 => exact h2.elim
  rename_i mm
  split at h2
  case h_2 => exact h2.elim
  rename_i l hl
  split at h2
  case isFalse => exact h2.elim
  rename_i hc
  rw [Bool.and_eq_true] at hc
  have hc2 := Nat.le_of_ble_eq_true hc.2
  cases rv1 with
  | cell hm1 =>
  obtain ⟨f, us, hv, rv⟩ := hr1.read hm1 hl
  cases ry with
  | lst h0 k1 k2 rr =>
  obtain ⟨m2, hr2⟩ := hr1.put hm1 (rv.append rr) (flats_app f hc.1)
  refine ⟨a, _, us, _, rfl, rfl, hv, h0, by rw [rv.length, rr.length, ← lim_eq]; exact hc2, ?_⟩
  have en2 := (en.mo m1).mo m2
  have es : σ.set i (some (V.ref a)) = σ := by
    apply List.ext_getElem?
    intro j
    by_cases hj : i = j
    · subst hj
      have : i < σ.length := (List.getElem?_eq_some_iff.mp e1).1
      rw [List.getElem?_set_self this, e1]
    · rw [List.getElem?_set_ne hj]
  show Dn.nx (σ.set i (some (V.ref a))) _
  rw [es]
  exact h2 (.nx σ) _ _ m2 hr2 en2
end
end EW

/-! EW, part 13: the checker's theorem for statements; defs; the whole program. -/
namespace EW
open PySem PySem.Spec PyProof.Rows L2
section
variable {W : Wd} {Φ : Ph} {C : Ct} {k : Nat} {E0 : XK} {X : Cx}

/-- THE CHECKER'S THEOREM for statements -/
theorem chkS_ok (g : Gs W Φ C k E0 X) {wf m : Nat} : ∀ (n : Nat) (s : Stmt) (c : S), chkS n C s c = true → ∀ j, PS X s (tS W E0 (es (ev Φ m) wf j c))
  | 0, _, _, h, _ => by cases h
  | n + 1, s, c, h, 0 => ps_zero
  | n + 1, s, c, h, j + 1 => by
    have ih : ∀ (s : Stmt) (c : S), chkS n C s c = true → PS X s (tS W E0 (es (ev Φ m) wf j c)) := fun s c h => chkS_ok g n s c h j
    unfold chkS at h
    split at h
    case h_1 x q e p i ce =>
      rw [Bool.and_eq_true] at h
      exact ss_name g (own_mem h.1) h.2
    case h_2 o i q e p co ci ce =>
      simp only [Bool.and_eq_true] at h
      obtain ⟨⟨⟨⟨h1, h2⟩, h3⟩, h4⟩, h5⟩ := h
      exact ss_sub g h1 h2 h3 h4 h5
    case h_3 ts jj q e p ts' ce =>
      simp only [Bool.and_eq_true, Bool.or_eq_true] at h
      rcases h with (⟨⟨h2, h3⟩, h4⟩ | ⟨h0, h2⟩) | ⟨h0, h2⟩
      · exact ss_tup g h2 h3 h4
      · exact ss_par g (by simpa using h0) h2
      · exact ss_par3 g (by simpa using h0) h2
    case h_4 x q e p i ce =>
      rw [Bool.and_eq_true] at h
      exact ss_aug g (.inl ⟨rfl, rfl⟩) (own_mem h.1) h.2
    case h_5 x q e p i ce =>
      rw [Bool.and_eq_true] at h
      exact ss_aug g (.inr ⟨rfl, rfl⟩) (own_mem h.1) h.2
    case h_6 e p ce =>
      rw [Bool.and_eq_true] at h
      exact ss_expr g h.1 h.2
    case h_7 e p ce => exact ss_ret g h
    case h_8 p => exact PS.imp ps_retN fun Dn σ H ⟨ρ, S, μ, ν, hr, en, h⟩ => h (.rt _) μ H .refl hr (show Rp W μ ν H .non .non from .non)
    case h_9 t a b p ct ca cb =>
      simp only [Bool.and_eq_true] at h
      exact ss_if ((chkE_ok 60 t ct g.toGd h.1.1).pt m) (ss_all ih a ca h.1.2) (ss_all ih b cb h.2)
    case h_10 tg it b p t ci cb =>
      simp only [Bool.and_eq_true] at h
      obtain ⟨hi, hs⟩ := chkI_ok g.toGd (fun e c h => (chkE_ok 60 e c g.toGd h).pe) (fun e c h => chk_star h) tg it ci h.1.1.1
      exact ss_for g (by simpa using h.1.1.2) (hi m) hs h.1.2 (ss_all ih b cb h.2)
    case h_11 t b p ct cb =>
      simp only [Bool.and_eq_true] at h
      exact ss_while g (by simpa using h.1.2) ((chkE_ok 60 t ct g.toGd h.1.1).pt m) (ss_all ih b cb h.2)
    case h_12 p => exact PS.imp ps_break fun Dn σ H ⟨ρ, S, μ, ν, hr, en, h⟩ => h (.bk σ) μ H .refl hr en
    case h_13 p => exact PS.imp ps_continue fun Dn σ H ⟨ρ, S, μ, ν, hr, en, h⟩ => h (.ct σ) μ H .refl hr en
    case h_14 p => exact PS.imp ps_pass fun Dn σ H ⟨ρ, S, μ, ν, hr, en, h⟩ => h (.nx σ) μ H .refl hr en
    case h_15 x p1 mm jj p2 p3 p4 i =>
      simp only [Bool.and_eq_true] at h
      exact ss_raise g (by simpa using h.1.2) h.1.1 h.2
    case h_16 x p1 e p2 p3 i ce =>
      simp only [Bool.and_eq_true] at h
      exact ss_raiseE g (by simpa using h.1.1.2) h.1.1.1 h.1.2 h.2
    case h_17 x q e p i ce =>
      rw [Bool.and_eq_true] at h
      exact ss_ext g (own_mem h.1) h.2
    case h_18 => exact PS.imp ps_never fun Dn σ H ⟨ρ, S, μ, ν, hr, en, h⟩ => h
    case h_19 => cases h
end

end EW

/-! EW: the def that calls what it got and tells the word of the error. -/
namespace EW
open PySem PySem.Spec PyProof.Rows L2 LamX

theorem CellR.pl {W : Wd} {μ ν : List Addr} {H : Hp} {a : Addr} {c : Cell} (h : CellR W μ ν H a c) : ∃ o, H a = some o ∧ Pl o := by
  cases c with
  | lst ds => obtain ⟨f, vs, hv, r⟩ := h; exact ⟨_, hv, noT_lst, fun _ _ z => (by cases z)⟩
  | dic t ks ws => cases t <;> (obtain ⟨f, kvs, hv, k, r⟩ := h; first | exact ⟨_, hv, noT_dK, fun _ _ z => (by cases z)⟩ | exact ⟨_, hv, noT_dT, fun _ _ z => (by cases z)⟩)
theorem HR.pl {W : Wd} {μ ν : List Addr} {S : Hs} {H : Hp} (h : HR W μ ν S H) {a : Addr} (ha : a ∈ μ ++ ν) : ∃ o, H a = some o ∧ Pl o := by
  rcases List.mem_append.mp ha with ha | ha
  · obtain ⟨n, hn, e⟩ := List.getElem_of_mem ha
    have hS : n < S.length := by rw [← h.len]; exact hn
    exact (h.cell n a S[n] (by rw [List.getElem?_eq_getElem hn, e]) (List.getElem?_eq_getElem hS)).pl
  · exact (h.dj a ha).2
/-- what is neither locked nor a table stays -/
theorem Mo.pls {μ μ' : List Addr} {H H' : Hp} (m : Mo μ H μ' H') {a : Addr} (h1 : a ∉ μ) (h : ∃ o, H a = some o ∧ Pl o) (h' : ∃ o, H' a = some o ∧ Pl o) : H' a = H a := by
  obtain ⟨o, e, p⟩ := h
  obtain ⟨o', e', p'⟩ := h'
  obtain ⟨q, _⟩ := m.stq a o e h1
  rcases q with q | ⟨_, ⟨_, od, q⟩ | ⟨ps, ps', z, q⟩⟩
  · rw [q, e]
  · rw [q] at e'; cases e'; exact (p'.2 _ _ rfl).elim
  · exact (p.1.1 ps z).elim

/-- what such a def makes of the lambda's reading: l0 where nothing is raised, tb by the class -/
def TTw (W : Wd) (l0 : List Nat) (tb : List (Nat × D)) : (XK → Hp → VK → Prop) → Hp → VK → Prop := fun tl H Q =>
  tl (fun cls dd H' => ∃ c l, cls = .ref (W.ca c) ∧ dd = none ∧ tb.lookup c = some (.str l) ∧ Tabs W.T H' ∧ ∃ νs : List Addr, (∀ a ∈ νs, ∃ o, H' a = some o ∧ Pl o) ∧
      ∀ μ2 H2, Mo [] H' μ2 H2 → (∀ a ∈ νs, ∃ o, H2 a = some o ∧ Pl o) → Tabs W.T H2 → Q (.str ⟨l.toArray⟩) H2) H (fun _ H' => Q (.str ⟨l0.toArray⟩) H')

/-- such a def of the text -/
structure WI where
  x : Str
  st : Stmt
  N : List Str
  a : Str
  en : Str
  ei : Nat
  cs : Str
  suite : List S
  l0 : List Nat
  tb : List (Nat × D)
def bad0 : Ph := ⟨fun _ _ _ => .bad, fun _ _ _ => .bad⟩
def WI.ct (wi : WI) (iso : List (Str × List (Nat × Bool))) : Ct := ⟨wi.N, (defScope wi.st).names, [], [], true, [], iso⟩
def WI.env (wi : WI) (c : Nat) : Env := (List.replicate wi.N.length none).set wi.ei (some (.exn c))
def WI.runs (wi : WI) (c : Nat) (l : List Nat) : Bool := match evB (es (ev bad0 60) 1 60) wi.suite (wi.env c) [] with
  | .ok (.rt (.str l')) _ => eqL l' l
  | _ => false
def WI.tbOk (wi : WI) : Bool := okS wi.l0 && wi.tb.all fun p => match p.2 with
  | .str l => okS l && wi.runs p.1 l
  | _ => false
def wdParts (wi : WI) : Option (List Stmt × List Nat) := match defBody wi.st with
  | [.Try [.Expr (.Call (.Name a _) [] [] _) _] [.ExceptHandler (some (.Name cs _)) (some en) (b0 :: suite) _] [] [] _, .Return (some (.Constant (.str z0) _ _)) _] =>
    if decide (a = wi.a) && decide (cs = wi.cs) && decide (en = wi.en) && decide (z0 = ⟨wi.l0.toArray⟩) then some (b0 :: suite, wi.l0) else none
  | _ => none
def chkScope0 (N ps : List Str) (sc : Scope) : Bool :=
  decide (sc.kind = .function) && !sc.isCoroutine && !sc.isGenerator && decide N.Nodup && decide (N.take ps.length = ps) &&
    (ps.all fun x => decide (sc.names.lookup x = some .local) || decide (sc.names.lookup x = some .cell)) && sc.names.all fun y => !decide (y.2 = .free)
theorem scope_of0 {N ps : List Str} {sc : Scope} (h : chkScope0 N ps sc = true) : FnScope N ps sc := by
  unfold chkScope0 at h
  simp only [Bool.and_eq_true, decide_eq_true_eq, Bool.not_eq_true', List.all_eq_true, Bool.or_eq_true, decide_eq_false_iff_not] at h
  obtain ⟨⟨⟨⟨⟨⟨h1, h2⟩, h3⟩, h4⟩, h5⟩, h6⟩, h7⟩ := h
  exact ⟨h1, h2, h3, h4, h5, h6, h7⟩
def chkW (iso : List (Str × List (Nat × Bool))) (wi : WI) : Bool :=
  chkScope0 wi.N [wi.a] (defScope wi.st) && decide (wi.N[wi.ei]? = some wi.en) && decide ((defScope wi.st).names.lookup wi.en = some .local) && decide ((defScope wi.st).names.lookup wi.a = some .local) &&
    decide ((defScope wi.st).names.lookup wi.cs = some .globalImplicit) && !(wi.cs == ("__debug__" : Str)) && !(wi.a == ("__debug__" : Str)) && !(wi.a == ("__classdict__" : Str)) && wi.tbOk &&
    (match wdParts wi with
    | some (sts, _) => chkB (chkS 40 (wi.ct iso)) sts wi.suite
    | none => false)
/-- what the classes of errors say -/
structure IsoOk (W : Wd) (K : PySem.W.Frag) (mg : Str → Option Value) (iso : List (Str × List (Nat × Bool))) : Prop where
  cls : ∀ y tb, iso.lookup y = some tb → ∃ (v : V) (cv : Value), (mg y = some cv ∨ (mg y = none ∧ bootBuiltins y = some cv)) ∧ RelV v cv ∧ (∀ u, RelV v u → u = cv) ∧ ∀ c b, tb.lookup c = some b → PySem.W.kitOne K (.ref (W.ca c)) cv = some b
/-- what the caught class says -/
structure WiOk (W : Wd) (K : PySem.W.Frag) (mg : Str → Option Value) (wi : WI) : Prop where
  cs : ∃ CS, mg wi.cs = some (.ref CS) ∧ ∀ c l, wi.tb.lookup c = some (.str l) → PySem.W.exmOne K (.ref (W.ca c)) (.ref CS) = some true ∧ ExcC K (W.ca c)

theorem gives_word {W : Wd} {X : Cx} {wi : WI} {iso : List (Str × List (Nat × Bool))} {q : Str} {g : Addr} {cdg : Value} (hK : W.K = X.K) (hu : X.A.units + 80 < cLine) (bl : ∀ x ∈ bltNames, X.mg x = none) (hc : chkW iso wi = true) (hI : IsoOk W X.K X.mg iso) (hW : WiOk W X.K X.mg wi) :
    GivesN X wi.N wi.x (defScope wi.st) g cdg (defBody wi.st) wi.a q (TTw W wi.l0 wi.tb) := by
  unfold chkW at hc
  simp only [Bool.and_eq_true, decide_eq_true_eq, Bool.not_eq_true'] at hc
  obtain ⟨⟨⟨⟨⟨⟨⟨⟨⟨h1, h2⟩, h3⟩, h4⟩, h5⟩, h6⟩, h7⟩, h8⟩, h9⟩, h10⟩ := hc
  have Sc := scope_of0 h1
  split at h10
  case h_2 => cases h10
  rename_i sts l0' hp
  unfold wdParts at hp
  split at hp
  case h_2 => cases hp
  rename_i a' p1 p2 p3 cs' p4 en' b0 suite p5 p6 z0 jj p7 p8 hbody
  split at hp
  case isFalse => cases hp
  rename_i hnm
  cases hp
  simp only [Bool.and_eq_true, decide_eq_true_eq] at hnm
  obtain ⟨⟨⟨ea, ecs⟩, een⟩, ez⟩ := hnm
  subst ea ecs een ez
  obtain ⟨CS, hmc, hcs⟩ := hW.cs
  intro f c' s H Q tl act hco htt
  rw [hbody]
  generalize hZ : (cxOf C8.CX0 X.prog X.w X.K X.mg X.base wi.N wi.x (defScope wi.st) g cdg X.A X.stack s H C8.E0).nox = Z
  have h0 : (L2.start wi.N [V.ref f])[0]? = some (some (V.ref f)) := by
    unfold L2.start; rfl
  have hlen : (L2.start wi.N [V.ref f]).length = wi.N.length := by
    have : 1 ≤ wi.N.length := by
      have := congrArg List.length Sc.pre
      simp only [List.length_take, List.length_cons, List.length_nil] at this
      omega
    unfold L2.start
    simp
    omega
  -- the suite
  let ts : Addr → Value → Option Addr → TS := fun a cls d D σ H => ∃ c l, cls = .ref (W.ca c) ∧ d = none ∧ wi.tb.lookup c = some (.str l) ∧ (σ.length = wi.N.length → tS { W with xa := some (a, c) } (fun _ _ _ => False) (evB (es (ev bad0 60) 1 60) wi.suite) D σ H)
  have hsu : ∀ (a : Addr) (oe : Obj) (cls : Value) (d : Option Addr) (pn : List (Addr × Obj)), L2N.Zn cls d oe → (∃ vs, oe.data = .fields vs) → PSs (Z.suite a ((a, oe) :: pn)) (b0 :: suite) (ts a cls d) := by
    intro a oe cls d pn hz hf
    refine ⟨fun pins s2 σ2 H2 D2 I2 hts => ?_⟩
    obtain ⟨c, l, rfl, rfl, hl, hts⟩ := hts
    have hEC := (hcs c l hl).2
    have gs : Gs { W with xa := some (a, c) } bad0 (wi.ct iso) 0 (fun _ _ _ => False) (Z.suite a ((a, oe) :: pn)) := by
      subst hZ
      exact {
        hK := hK, N := rfl, nd := Sc.nd, kind := Sc.kind, sc := rfl, calm := fun z => Bool.noConfusion z, hx := fun _ => ⟨a, hx_suite hz hf⟩, room := fun z => Bool.noConfusion z
        hu := (by show X.A.units + 3 + 64 < _; omega)
        tk := takes0N, fns := fun x i z => Bool.noConfusion z, val := fun x d z => Bool.noConfusion z, bl := bl, wrd := fun X' _ x d0 tb z => Bool.noConfusion z
        iso := fun y tb z => by
          have z : (match iso.lookup y with | some t => decide (t = tb) | none => false) = true := z
          split at z
          · rename_i t ht
            have := of_decide_eq_true z
            subst this
            obtain ⟨v, cv, k1, k2, k3, k4⟩ := hI.cls y t ht
            refine ⟨v, cv, k1, k2, k3, fun a2 c2 b e1 e2 => ?_⟩
            cases e1
            exact ⟨k4 c b e2, call_isE hEC hz.zc hf⟩
          · cases z
        po := fun z => Bool.noConfusion z, fnA := fun _ => rfl, exc := fun z => Bool.noConfusion z }
    exact (ss_all (fun st c h => chkS_ok gs (wf := 1) (m := 60) 40 st c h 60) (b0 :: suite) wi.suite h10).run pins s2 σ2 H2 D2 I2 (hts (by have := I2.len; subst hZ; exact this))
  -- the body of the try
  let tb : WX → TS := fun Wx D σ H => ∃ Ech : XK, (∀ cls d σ' H', Ech cls d H' → Wx cls d σ' H') ∧ σ[0]? = some (some (.ref f)) ∧ H c' = some (CodeO c' q) ∧ tl Ech H (fun _ H' => D.nx σ H')
  have hbt : ∀ (Wx : WX) (pn : List (Addr × Obj)) (xe : Value → Shared → Prop), L2N.Takes (Z.tr pn xe) Wx → PassesOwn (model Z.prog Z.w) Z.A Z.env xe → PSs (Z.tr pn xe) [.Expr (.Call (.Name wi.a p1) [] [] p2) p3] (tb Wx) := by
    intro Wx pn xe tk _
    refine ⟨fun pins s' σ H' D I h' => ?_⟩
    obtain ⟨Ech, hWx, k1, k2, k3⟩ := h'
    subst hZ
    have hp := act Wx pn xe Ech p1 p2 tk hWx
    exact (pss_one (ps_expr (pos := p3) hp)).run pins s' σ H' D I ⟨k1, k2, k3⟩
  have hts := L2N.ps_try_as (X := Z) (x := wi.cs) (n := wi.en) (c := .ref CS) (i := wi.ei) (body := [.Expr (.Call (.Name wi.a p1) [] [] p2) p3]) (suite := suite) (b₀ := b0) (np := p4) (pos := p6) (pos' := p5) (tb := tb) (ts := ts) (Wout := fun _ _ _ _ => False)
    (by subst hZ; rfl) (by subst hZ; rfl) (by subst hZ; exact Sc.nd) (by subst hZ; exact h2) (by subst hZ; exact h3) (by subst hZ; exact ⟨h5, h6, .inl hmc⟩) takes0N hbt hsu
  subst hZ
  refine ⟨_, pss_cons hts (pss_one (ps_ret (pos := p8) (pe_str (x := ⟨wi.l0.toArray⟩) (j := jj) (pos := p7)))), ?_⟩
  refine ⟨_, fun cls d σ' H' hE => ?_, h0, hco, htt⟩
  obtain ⟨c, l, e1, e2, hl, hT, νs, hν, hfin⟩ := hE
  refine ⟨true, by rw [e1]; exact (hcs c l hl).1, fun _ a na => ⟨c, l, e1, e2, hl, fun hlen2 => ?_⟩, fun z => Bool.noConfusion z⟩
  have htb := h9
  unfold WI.tbOk at htb
  rw [Bool.and_eq_true, List.all_eq_true] at htb
  have hmem : (c, D.str l) ∈ wi.tb := by
    have : ∀ {m : List (Nat × D)}, m.lookup c = some (.str l) → (c, D.str l) ∈ m := by
      intro m
      induction m with
      | nil => intro z; simp at z
      | cons p r ih =>
        obtain ⟨i, d⟩ := p
        intro z
        rw [List.lookup_cons] at z
        split at z
        · rename_i q
          cases z
          rw [eq_of_beq q]; exact List.mem_cons_self
        · exact List.mem_cons_of_mem _ (ih z)
    exact this hl
  have hrun := htb.2 _ hmem
  dsimp only at hrun
  rw [Bool.and_eq_true] at hrun
  have hrun := hrun.2
  unfold WI.runs at hrun
  refine ⟨wi.env c, [], [], νs, ⟨rfl, List.nodup_nil, fun b hb => ⟨by simp, hν b hb⟩, hT, fun n b cc z => by simp at z⟩, ⟨?_, fun i d z => ?_⟩, ?_⟩
  · unfold WI.env
    simp only [List.length_set, List.length_replicate]
    have : (σ'.set wi.ei (some (V.ref a))).length = wi.N.length := hlen2
    simpa using this
  · unfold WI.env at z
    have hei : wi.ei < wi.N.length := (List.getElem?_eq_some_iff.mp h2).1
    by_cases hi : i = wi.ei
    · subst hi
      rw [List.getElem?_set_self (by simpa using hei)] at z
      cases z
      have : wi.ei < σ'.length := by
        have : (σ'.set wi.ei (some (V.ref a))).length = wi.N.length := hlen2
        rw [List.length_set] at this
        omega
      exact ⟨.ref a, List.getElem?_set_self this, .exn rfl⟩
    · rw [List.getElem?_set_ne (Ne.symm hi), List.getElem?_replicate] at z
      split at z <;> cases z
  · split at hrun
    case h_2 => cases hrun
    rename_i l' S2 hev
    rw [hev]
    have := eqL_eq hrun
    subst this
    intro v μ2 H2 m hr2 rf
    cases v with
    | rt v =>
      have rf : Rp _ _ _ _ v (.str l') := rf
      cases rf with
      | str _ _ _ => exact hfin μ2 H2 m (fun b hb => (hr2.dj b hb).2) hr2.tabs
    | nx _ => exact rf.elim
    | bk _ => exact rf.elim
    | ct _ => exact rf.elim
end EW

/-! EW, part 14: defs; the whole program. -/
namespace EW
open PySem PySem.Spec PyProof.Rows L2 LamX
/-! ### leaving a def: its own cells by value -/
mutual
/-- data without cells: whatever the cells are -/
theorem flat_rp {W : Wd} {μ μ2 ν : List Addr} {H : Hp} (hs : ∀ x ∈ μ2, x ∈ μ) : ∀ {v : V} {d : D}, Rp W μ ν H v d → d.flat = true → Rp W μ2 ν H v d
  | _, _, .non, _ => .non
  | _, _, .bl b, _ => .bl b
  | _, _, .int i, _ => .int i
  | _, _, .str l h1 h2, _ => .str l h1 h2
  | _, _, .tup ht r, f => by
    refine .tup ?_ (flat_rps hs r f)
    rcases ht with ⟨a, b, c⟩ | q
    · exact .inl ⟨a, fun z => b (hs _ z), c⟩
    · exact .inr q
  | _, _, .lst h0 h1 h2 r, f => .lst h0 (fun z => h1 (hs _ z)) h2 (flat_rps hs r f)
  | _, _, .scr h0, _ => .scr (h0.sub hs)
  | _, _, .cell hm, f => by cases f
  | _, _, .fn n, _ => .fn n
  | _, _, .cls n, _ => .cls n
  | _, _, .exn _, f => by cases f
  | _, _, .dicK h h1 h2 k r, f => by
    simp only [D.flat, Bool.and_eq_true] at f
    exact .dicK h (fun z => h1 (hs _ z)) h2 k (flat_rps hs r f.2)
  | _, _, .dicT h h1 h2 k r, f => by
    simp only [D.flat, Bool.and_eq_true] at f
    exact .dicT h (fun z => h1 (hs _ z)) h2 k (flat_rps hs r f.2)
theorem flat_rps {W : Wd} {μ μ2 ν : List Addr} {H : Hp} (hs : ∀ x ∈ μ2, x ∈ μ) : ∀ {vs : List V} {ds : List D}, Rps W μ ν H vs ds → D.flats ds = true → Rps W μ2 ν H vs ds
  | _, _, .nil, _ => .nil
  | _, _, .cons r t, f => by
    simp only [D.flats, Bool.and_eq_true] at f
    exact .cons (flat_rp hs r f.1) (flat_rps hs t f.2)
end
theorem KR.thaw {k : Key} {d : D} {S : Hs} {n0 : Nat} (h : KR k d) : thaw S n0 d = some d := by cases h <;> rfl
theorem Ks.thaws {S : Hs} {n0 : Nat} : ∀ {k : List Key} {d : List D}, Ks k d → thaws S n0 d = some d
  | _, _, .nil => rfl
  | _, _, .cons a b => by simp only [EW.thaws, a.thaw, b.thaws, Option.bind_some, Option.map_some]
theorem KTs.thaws {S : Hs} {n0 : Nat} : ∀ {k : List (List Key)} {d : List D}, KTs k d → thaws S n0 d = some d
  | _, _, .nil => rfl
  | _, _, .cons a b => by simp only [EW.thaws, EW.thaw, a.thaws, b.thaws, Option.bind_some, Option.map_some]
/-- a cell's content, seen with fewer cells -/
theorem CellR.sub {W : Wd} {μ μ2 ν : List Addr} {H : Hp} {a : Addr} {c : Cell} (hs : ∀ x ∈ μ2, x ∈ μ) (h : CellR W μ ν H a c) : CellR W μ2 ν H a c := by
  cases c with
  | lst ds => obtain ⟨f, vs, hv, r⟩ := h; exact ⟨f, vs, hv, flat_rps hs r f⟩
  | dic t ks ws => cases t <;> (obtain ⟨f, kvs, hv, k, r⟩ := h; exact ⟨f, kvs, hv, k, flat_rps hs r f⟩)
mutual
theorem thaw_ok {W : Wd} {μ ν : List Addr} {S : Hs} {H : Hp} {n0 : Nat} (h : HR W μ ν S H) (hn : n0 ≤ μ.length) : ∀ {v : V} {d d' : D}, Rp W μ ν H v d → thaw S n0 d = some d' → Rp W (μ.take n0) ν H v d'
  | _, _, _, .non, e => by simp only [thaw, Option.some.injEq] at e; subst e; exact .non
  | _, _, _, .bl b, e => by simp only [thaw, Option.some.injEq] at e; subst e; exact .bl b
  | _, _, _, .int i, e => by simp only [thaw, Option.some.injEq] at e; subst e; exact .int i
  | _, _, _, .str l h1 h2, e => by simp only [thaw, Option.some.injEq] at e; subst e; exact .str l h1 h2
  | _, _, _, .tup hs r, e => by
    simp only [thaw, Option.map_eq_some_iff] at e
    obtain ⟨l, hl, rfl⟩ := e
    refine .tup ?_ (thaws_ok h hn r hl)
    rcases hs with ⟨a, b, c⟩ | q
    · exact .inl ⟨a, fun z => b (List.mem_of_mem_take z), c⟩
    · exact .inr q
  | _, _, _, .lst h0 h1 h2 r, e => by
    simp only [thaw, Option.map_eq_some_iff] at e
    obtain ⟨l, hl, rfl⟩ := e
    exact .lst h0 (fun z => h1 (List.mem_of_mem_take z)) h2 (thaws_ok h hn r hl)
  | _, _, _, .scr h0, e => by simp only [thaw, Option.some.injEq] at e; subst e; exact .scr (h0.sub fun _ z => List.mem_of_mem_take z)
  | _, _, _, .dicK h0 h1 h2 k r, e => by
    simp only [thaw, k.thaws, Option.bind_some, Option.map_eq_some_iff] at e
    obtain ⟨l, hl, rfl⟩ := e
    exact .dicK h0 (fun z => h1 (List.mem_of_mem_take z)) h2 k (thaws_ok h hn r hl)
  | _, _, _, .dicT h0 h1 h2 k r, e => by
    simp only [thaw, k.thaws, Option.bind_some, Option.map_eq_some_iff] at e
    obtain ⟨l, hl, rfl⟩ := e
    exact .dicT h0 (fun z => h1 (List.mem_of_mem_take z)) h2 k (thaws_ok h hn r hl)
  | _, _, _, @Rp.cell _ _ _ _ a n hm, e => by
    simp only [thaw] at e
    split at e
    · rename_i hb
      cases e
      exact .cell (by rw [List.getElem?_take, if_pos (show n < n0 from Nat.le_of_ble_eq_true hb)]; exact hm)
    · rename_i hb
      have hge : n0 ≤ n := by
        rcases Nat.lt_or_ge n n0 with q | q
        · exact (hb (Nat.ble_eq_true_of_le q)).elim
        · exact q
      have hna : a ∉ μ.take n0 := fun z => by
        obtain ⟨i, hi, e⟩ := List.getElem_of_mem z
        rw [List.getElem_take] at e
        have h1 := (List.getElem?_eq_some_iff.mp hm)
        have := (List.getElem_inj h.nd).mp (e.trans h1.2.symm)
        rw [List.length_take] at hi
        omega
      have hnn : a ∉ ν := fun z => (h.dj a z).1 (List.mem_of_getElem? hm)
      split at e
      · rename_i l hl
        cases e
        obtain ⟨f, vs, hv, rv⟩ := h.cell n a _ hm hl
        exact .lst hv hna hnn (flat_rps (fun _ z => List.mem_of_mem_take z) rv f)
      · rename_i t ks vs hl
        cases e
        cases t with
        | false =>
          obtain ⟨f, kvs, hv, k, r⟩ := h.cell n a _ hm hl
          exact .dicK (.inl hv) hna hnn k (flat_rps (fun _ z => List.mem_of_mem_take z) r f)
        | true =>
          obtain ⟨f, kvs, hv, k, r⟩ := h.cell n a _ hm hl
          exact .dicT (.inl hv) hna hnn k (flat_rps (fun _ z => List.mem_of_mem_take z) r f)
      · cases e
  | _, _, _, .fn n, e => by simp only [thaw, Option.some.injEq] at e; subst e; exact .fn n
  | _, _, _, .cls n, e => by simp only [thaw, Option.some.injEq] at e; subst e; exact .cls n
  | _, _, _, .exn _, e => by simp only [thaw] at e; cases e
theorem thaws_ok {W : Wd} {μ ν : List Addr} {S : Hs} {H : Hp} {n0 : Nat} (h : HR W μ ν S H) (hn : n0 ≤ μ.length) : ∀ {vs : List V} {ds ds' : List D}, Rps W μ ν H vs ds → thaws S n0 ds = some ds' → Rps W (μ.take n0) ν H vs ds'
  | _, _, _, .nil, e => by simp only [thaws, Option.some.injEq] at e; subst e; exact .nil
  | _, _, _, .cons r t, e => by
    simp only [thaws, Option.bind_eq_some_iff, Option.map_eq_some_iff] at e
    obtain ⟨d, h1, l, h2, rfl⟩ := e
    exact .cons (thaw_ok h hn r h1) (thaws_ok h hn t h2)
end
theorem HR.take {W : Wd} {μ ν : List Addr} {S : Hs} {H : Hp} (h : HR W μ ν S H) (n0 : Nat) : HR W (μ.take n0) ν (S.take n0) H where
  tabs := h.tabs
  len := by rw [List.length_take, List.length_take, h.len]
  nd := h.nd.sublist (List.take_sublist _ _)
  dj := fun a ha => let ⟨p, q⟩ := h.dj a ha; ⟨fun z => p (List.mem_of_mem_take z), q⟩
  cell := fun n a c e1 e2 => by
    rw [List.getElem?_take] at e1 e2
    split at e1
    · rename_i hlt
      rw [if_pos hlt] at e2
      exact (h.cell n a c e1 e2).sub fun _ z => List.mem_of_mem_take z
    · cases e1
theorem Mo.take {μ μ' : List Addr} {H H' : Hp} (m : Mo μ H μ' H') : μ'.take μ.length = μ ∧ Mo μ H (μ'.take μ.length) H' := by
  have e : μ'.take μ.length = μ := by
    obtain ⟨t, rfl⟩ := m.pre
    simp
  rw [e]
  exact ⟨rfl, ⟨List.prefix_rfl, fun a o h h1 => ⟨(m.stq a o h h1).1, h1⟩⟩⟩
theorem leave_ok {W : Wd} {μ ν μ' : List Addr} {S S' : Hs} {H H' : Hp} {Q : VK} {E : XK} {mt : Bool} {d : D} {v : V} (h0 : HR W μ ν S H) (m : Mo μ H μ' H') (hr : HR W μ' ν S' H') (rv : Rp W μ' ν H' v d)
    (h : Fin W μ ν H (RelD W ν) (leave mt S.length d S') Q E) : Q v H' := by
  have hle : μ.length ≤ μ'.length := m.pre.length_le
  unfold leave at h
  split at h
  · rename_i hb
    have := Nat.eq_of_beq_eq_true hb
    exact h v μ' H' m hr rv
  · obtain ⟨e1, m1⟩ := m.take
    have hr1 : HR W (μ'.take μ.length) ν (S'.take S.length) H' := by rw [← h0.len]; exact hr.take _
    split at h
    · rename_i n
      split at h
      · rename_i hb
        refine h v _ H' m1 hr1 ?_
        cases rv with
        | cell hm => exact .cell (by rw [List.getElem?_take, if_pos (show n < μ.length by rw [h0.len]; exact Nat.le_of_ble_eq_true hb)]; exact hm)
      · rename_i hb
        split at h
        · rename_i l hl
          cases rv with
          | @cell a _ hm =>
            have hcl := hr.cell n a _ hm hl
            have hge : μ.length ≤ n := by
              rcases Nat.lt_or_ge n μ.length with q | q
              · exact (hb (Nat.ble_eq_true_of_le (by rw [← h0.len]; exact q))).elim
              · exact q
            have hn : a ∉ μ'.take μ.length := fun z => by
              obtain ⟨i, hi, e⟩ := List.getElem_of_mem z
              rw [List.getElem_take] at e
              have h1 := (List.getElem?_eq_some_iff.mp hm)
              have := (List.getElem_inj hr.nd).mp (e.trans h1.2.symm)
              rw [List.length_take] at hi
              omega
            have ha : H a = none := by
              cases q : H a with
              | none => rfl
              | some o =>
                have hm0 : a ∉ μ := by rw [← e1]; exact hn
                exact absurd (List.mem_of_getElem? hm) (m.nin q hm0).1
            have mm : Mo μ H (μ'.take μ.length ++ [a]) H' := ⟨m1.pre.trans (List.prefix_append _ _), fun b o hb' h1 => by
              obtain ⟨p, q⟩ := m1.stq b o hb' h1
              refine ⟨p, ?_⟩
              rw [List.mem_append, List.mem_singleton]
              rintro (z | z)
              · exact q z
              · subst z; rw [ha] at hb'; cases hb'⟩
            have hsub : ∀ x ∈ μ'.take μ.length ++ [a], x ∈ μ' := fun x hx => by
              rw [List.mem_append, List.mem_singleton] at hx
              rcases hx with z | z
              · exact List.mem_of_mem_take z
              · subst z; exact List.mem_of_getElem? hm
            have hl1 : (μ'.take μ.length).length = μ.length := by rw [e1]
            have hl2 : (S'.take S.length).length = μ.length := by rw [← hr1.len, hl1]
            refine h (.ref a) _ H' mm ⟨?_, ?_, fun b hb' => ?_, hr.tabs, fun k b c e2 e3 => ?_⟩ (.cell ?_)
            · simp only [List.length_append, List.length_singleton]
              rw [hl1, hl2]
            · rw [List.nodup_append]
              refine ⟨hr1.nd, by simp, fun x hx y hy => ?_⟩
              rw [List.mem_singleton] at hy
              subst hy
              exact fun e => hn (e ▸ hx)
            · obtain ⟨p, q⟩ := hr.dj b hb'
              exact ⟨fun z => p (hsub b z), q⟩
            · by_cases hk : k < μ.length
              · rw [List.getElem?_append_left (by rw [hl1]; exact hk), List.getElem?_take, if_pos hk] at e2
                rw [List.getElem?_append_left (by rw [hl2]; exact hk), List.getElem?_take, if_pos (by rw [← h0.len]; exact hk)] at e3
                exact (hr.cell k b c e2 e3).sub hsub
              · have hk2 : k = μ.length := by
                  have := (List.getElem?_eq_some_iff.mp e2).1
                  rw [List.length_append, List.length_singleton, hl1] at this
                  omega
                subst hk2
                rw [List.getElem?_append_right (by rw [hl1]; exact Nat.le_refl _), hl1, Nat.sub_self] at e2
                rw [List.getElem?_append_right (by rw [hl2]; exact Nat.le_refl _), hl2, Nat.sub_self] at e3
                cases e2
                cases e3
                exact hcl.sub hsub
            · rw [← h0.len, List.getElem?_append_right (by rw [hl1]; exact Nat.le_refl _), hl1, Nat.sub_self]; rfl
        · exact h.elim
    · split at h
      · rename_i d' ht
        exact h v _ H' m1 hr1 (thaw_ok hr hle rv (by rw [h0.len]; exact ht))
      · exact h.elim

/-! ### defs -/
/-- a def of the text: its name, its statement, its names by slot, its parameters, its small text -/
structure FI where
  x : Str
  st : Stmt
  N : List Str
  ps : List Str
  F : Fn
/-- the names of the defs that hold lambdas; the defs that tell the word of an error; classes of errors -/
structure Pw where
  tn : List Str
  ws : List WI
  iso : List (Str × List (Nat × Bool))
def wdOf (ws : List WI) : List (Str × D × List (Nat × D)) := ws.map fun wi => (wi.x, .str wi.l0, wi.tb)
def pw0 : Pw := ⟨[], [], []⟩
def Ct.gl (G : List (Str × D)) (Ft : List (Str × Nat)) : Ct := ⟨[], [], G, Ft, false, [], []⟩
def FI.ct (G : List (Str × D)) (Ft : List (Str × Nat)) (pw : Pw) (fi : FI) : Ct := ⟨fi.N, (defScope fi.st).names, G, Ft, false, if pw.tn.contains fi.x then wdOf pw.ws else [], []⟩
def chkF (G : List (Str × D)) (Ft : List (Str × Nat)) (pw : Pw) (fi : FI) : Bool :=
  chkScope0 fi.N fi.ps (defScope fi.st) && chkB (chkS 40 (fi.ct G Ft pw)) (defBody fi.st) fi.F.body && Nat.beq fi.F.np fi.ps.length && Nat.beq fi.F.ns fi.N.length
/-- the name of a def's lambdas -/
def lamQ (x : Str) : Str := (x ++ ".<locals>.") ++ "<lambda>"

/-- the program's facts -/
structure PgOk (W : Wd) (K : PySem.W.Frag) (mg : Str → Option Value) (G : List (Str × D)) (Ft : List (Str × Nat)) (fs : List FI) (pw : Pw) (cs : List (Addr × Addr)) : Prop where
  hK : W.K = K
  fns : ∀ x i, (Ct.gl G Ft).dfn x i = true → ∃ fi, fs[i]? = some fi ∧ fi.x = x ∧ chkF G Ft pw fi = true ∧ mg x = some (.ref (W.fa i)) ∧ ∃ fd, Fun K x x fi.st (W.fa i) fd ∧ ∀ us : List Value, us.length = fi.ps.length → bindArgs fd ⟨us, []⟩ = pure (fi.ps.zip us)
  val : ∀ x d, (Ct.gl G Ft).val x d = true → ∃ u v, mg x = some u ∧ RelV v u ∧ ∀ μ ν H, Rp W μ ν H v d
  bl : ∀ x ∈ bltNames, mg x = none
  exc : ∀ x n, (Ct.gl G Ft).val x (.cls n) = true → ∃ bm, PySem.W.excIn K (W.ca n) bm "ValueError.__new__" = true ∧ ExcBaseFacts "ValueError" "ValueError.__new__" "ValueError.__init__" bm ∧ PySem.W.keepIn K (.ref (W.ca n)) = true ∧
    PySem.W.subIn K (.ref (W.ca n)) (.type "BaseException") = some true ∧ PySem.W.typeIn K (.ref (W.ca n)) = some (.type "type")
  isoOk : IsoOk W K mg pw.iso
  wi : ∀ wi ∈ pw.ws, chkW pw.iso wi = true ∧ WiOk W K mg wi ∧ ∃ a fd, mg wi.x = some (.ref a) ∧ Fun K wi.x wi.x wi.st a fd ∧ ∀ us : List Value, us.length = [wi.a].length → bindArgs fd ⟨us, []⟩ = pure ([wi.a].zip us)
  tab : ∀ x ∈ pw.tn, ∃ a c P oc od fd osl, mg x = some (.ref a) ∧ K.lookup a = some ⟨oc, od, .func fd, osl⟩ ∧ fd.code = .ref c ∧ (c, P) ∈ cs ∧ (P, lamQ x) ∈ W.T ∧ ∀ p ∈ W.T, p.1 = P → p.2 = lamQ x

theorem en_start {W : Wd} {μ ν : List Addr} {H : Hp} {N : List Str} {np ns : Nat} : ∀ {vs : List V} {ds : List D}, Rps W μ ν H vs ds → np = vs.length → ns = N.length → En W μ ν H (L2.start N vs) (ds.map some ++ List.replicate (ns - np) none) := by
  intro vs ds r h1 h2
  subst h1
  subst h2
  refine ⟨?_, fun i d e => ?_⟩
  · unfold L2.start
    simp [r.length]
  · unfold L2.start
    by_cases hi : i < ds.length
    · rw [List.getElem?_append_left (by simpa using hi), List.getElem?_map] at e
      cases q : ds[i]? with
      | none => rw [q] at e; cases e
      | some d' =>
        rw [q] at e
        cases e
        obtain ⟨v, e1, rv⟩ := r.get q
        refine ⟨v, ?_, rv⟩
        rw [List.getElem?_append_left (by simp [r.length]; exact hi), List.getElem?_map, e1]; rfl
    · rw [List.getElem?_append_right (by simpa using hi)] at e
      have := List.mem_of_getElem? e
      rw [List.mem_replicate] at this
      cases this.2

theorem lookup_mem {α : Type} {x : Str} {d : α} : ∀ {l : List (Str × α)}, l.lookup x = some d → (x, d) ∈ l
  | [], h => by simp at h
  | (y, e) :: r, h => by
    rw [List.lookup_cons] at h
    split at h
    · rename_i q
      cases h
      rw [eq_of_beq q]; exact List.mem_cons_self
    · exact List.mem_cons_of_mem _ (lookup_mem h)
theorem Mo.ext {μ : List Addr} {H H1 : Hp} (e : ExtT H H1) : Mo μ H μ H1 := ⟨List.prefix_rfl, fun a o h h1 => ⟨by
  by_cases z : ∃ ps, o = .tbl ps
  · obtain ⟨ps, rfl⟩ := z
    obtain ⟨ps', q⟩ := e.2 a ps h
    exact .inr ⟨trivial, .inr ⟨ps, ps', rfl, q⟩⟩
  · exact .inl (e.1 a o h fun ps q => z ⟨ps, q⟩), h1⟩⟩
theorem HR.ext {W : Wd} {μ ν : List Addr} {S : Hs} {H H1 : Hp} (h : HR W μ ν S H) (e : ExtT H H1) (t : Tabs W.T H1) : HR W μ ν S H1 :=
  h.same (.ext e) (fun a ha => by obtain ⟨o, q, p⟩ := h.pl (List.mem_append_left ν ha); rw [q]; exact e.1 a o q p.1.1) (fun a ha => by obtain ⟨o, q, p⟩ := h.pl (List.mem_append_right μ ha); rw [q]; exact e.1 a o q p.1.1) t
/-- the word's reading -/
theorem word_imp {W : Wd} {Wx : WX} {l0 : List Nat} {tb : List (Nat × D)} {r : Env → Hs → R D} (h0 : okS l0 = true) (ht : ∀ c l, tb.lookup c = some (.str l) → okS l = true) (hs : ∀ c d, tb.lookup c = some d → ∃ l, d = .str l) :
    ∀ σ H Q, tR W Wx (fun ρ S => wordR (.str l0) tb (r ρ S)) σ H Q → tLamN W.T (TTw W l0 tb) (fun E => tR W (cW E) r) σ H Q := by
  intro σ H Q ⟨ρ, S, μ, ν, hr, en, h⟩
  have okR : ∀ {l : List Nat}, okS l = true → ∀ {μ H}, Rp W μ ν H (.str ⟨l.toArray⟩) (.str l) := fun {l} h {μ H} => by
    unfold okS at h
    rw [Bool.and_eq_true, List.all_eq_true] at h
    exact .str l (Nat.le_of_ble_eq_true h.1) fun c hc => Nat.le_of_ble_eq_true (h.2 c hc)
  refine ⟨hr.tabs, fun H1 eT T1 => ⟨ρ, S, μ, ν, hr.ext eT T1, en.mo (.ext eT), ?_⟩⟩
  have m0 : Mo μ H μ H1 := .ext eT
  dsimp only at h
  cases q : r ρ S with
  | bad => rw [q] at h; exact h.elim
  | ok d S' =>
    rw [q] at h
    intro v μ' H' m hr' _
    exact h (.str ⟨l0.toArray⟩) μ' H' (m0.trans m) hr' (okR h0)
  | exc x S' =>
    rw [q] at h
    intro cls dd μ' H' m hr' xr
    obtain ⟨rfl, rfl, _⟩ := xr
    have h : Fin W μ ν H (RelD W ν) (match tb.lookup x.c with | some d => R.ok d S' | none => .bad) Q (WE Wx σ) := h
    split at h
    case h_2 => exact h.elim
    rename_i d hd
    obtain ⟨l, rfl⟩ := hs _ _ hd
    refine ⟨x.c, l, rfl, rfl, hd, hr'.tabs, μ' ++ ν, fun a ha => hr'.pl ha, fun μ2 H2 m2 pl2 T2 => ?_⟩
    have mm : Mo μ' H' μ' H2 := ⟨List.prefix_rfl, fun a o e1 e2 => ⟨(m2.stq a o e1 (by simp)).1, e2⟩⟩
    have hr2 : HR W μ' ν S' H2 := hr'.same mm (fun a ha => m2.pls (by simp) (hr'.pl (List.mem_append_left ν ha)) (pl2 a (List.mem_append_left ν ha))) (fun a ha => m2.pls (by simp) (hr'.pl (List.mem_append_right μ' ha)) (pl2 a (List.mem_append_right μ' ha))) T2
    exact h (.str ⟨l.toArray⟩) μ' H2 ((m0.trans m).trans mm) hr2 (okR (ht _ _ hd))

theorem fn_ok {W : Wd} {P : Program} {w : World} {K : PySem.W.Frag} {mg : Str → Option Value} {base : Heap} {G : List (Str × D)} {Ft : List (Str × Nat)} {fs : List FI} {pw : Pw} {cs : List (Addr × Addr)} {n i wf sf : Nat} {fi : FI} {fd : FuncData} {Ψ : Ph}
    (pg : PgOk W K mg G Ft fs pw cs) (TBs : ∀ p ∈ cs, TabB base mg p.1 p.2) (ih : ∀ x i, (Ct.gl G Ft).dfn x i = true → FnIn W (calls (fs.map FI.F) wf sf n) P w K mg base (3 * n) x i)
    (ih' : ∀ n', n = n' + 1 → ∀ x i, (Ct.gl G Ft).dfn x i = true → FnIn W (calls (fs.map FI.F) wf sf n') P w K mg base (3 * n') x i)
    (hc : chkF G Ft pw fi = true) (F : Fun K fi.x fi.x fi.st (W.fa i) fd) (hmg : mg fi.x = some (.ref (W.fa i))) (hΨ : ∀ ds S, Ψ i ds S = runFn wf sf (calls (fs.map FI.F) wf sf n) fi.F ds S) :
    FnOk P w K mg base (L2N.CX P w) (3 * n + 3) (W.fa i) fd fi.ps (spF W Ψ i fi.ps.length) := by
  unfold chkF at hc
  simp only [Bool.and_eq_true] at hc
  obtain ⟨⟨⟨h1, h2⟩, h3⟩, h4⟩ := hc
  have Sc := scope_of0 h1
  have h3 := Nat.eq_of_beq_eq_true h3
  have h4 := Nat.eq_of_beq_eq_true h4
  obtain ⟨oc, od, kV, doc, pm, an, cdv, ct, osl, efd, lk, hcd⟩ := F.ex
  subst efd
  refine fn_of lk hcd Sc (fun vs H Q E h => h.1) fun A outer s H vs Q E hr hsp => ?_
  obtain ⟨hl, ds, S, μ, ν, hR, rvs, h⟩ := hsp
  have hu : (A.deeper (envOfC fi.x (defScope fi.st) s.heap.objs.size (W.fa i) cdv)).units + 200 < cLine := by have := hr.un; omega
  have g : Gs W (calls (fs.map FI.F) wf sf n) (fi.ct G Ft pw) (3 * n) E (cxOf (L2N.CX P w) P w K mg base fi.N fi.x (defScope fi.st) (W.fa i) cdv A outer s H E) :=
    { hK := pg.hK, N := rfl, nd := Sc.nd, kind := Sc.kind, sc := rfl, calm := fun _ => rfl, hx := fun z => Bool.noConfusion z, room := fun _ => hr.mono (by omega), hu := hr.units, tk := L2N.takes_of rfl rfl rfl rfl
      fns := ih, val := pg.val, bl := pg.bl, po := fun _ => passes_of rfl, fnA := fun _ => rfl
      exc := fun _ x n q => let ⟨bm, a, b, c, d, e⟩ := pg.exc x n q; ⟨bm, a, b, c, raises_own d e⟩
      iso := fun y tb z => Bool.noConfusion z
      wrd := fun X' lk' x d0 tb hw m body scope p lpos pos ce sc Wx' hsc hg hdb hlam hce => by
        obtain ⟨l1, l2, l3, l4, l5, l6, l7, l8, l9, l10⟩ := lk'
        have l1 : X'.prog = P := l1
        have l2 : X'.w = w := l2
        have l3 : X'.K = K := l3
        have l4 : X'.mg = mg := l4
        have l5 : X'.base = base := l5
        have l8 : X'.N = fi.N := l8
        have l9 : X'.env.code = cdv := l9
        have L : LamX.LamS X'.env.scope scope := by
          have L0 := lamS_by (sc := ⟨.function, sc, false, false, []⟩) hlam
          exact ⟨L0.kind, L0.co, L0.gen, L0.own, fun y hy e => by rw [hsc]; exact L0.free y hy e⟩
        -- the def's own table
        unfold Ct.wdOk FI.ct at hw
        dsimp only at hw
        split at hw
        case h_2 => cases hw
        rename_i d0' tb' hlk
        rw [Bool.and_eq_true] at hw
        have e1 := sameD_eq _ _ hw.1
        have e2 := sameTb_eq hw.2
        subst e1 e2
        by_cases hin : pw.tn.contains fi.x = true
        case neg => rw [if_neg hin] at hlk; simp at hlk
        rw [if_pos hin] at hlk
        have hmem := lookup_mem hlk
        unfold wdOf at hmem
        obtain ⟨wi, hwi, ewi⟩ := List.mem_map.mp hmem
        cases ewi
        obtain ⟨hcw, hwo, ag, fdg, hmgg, Fg, hbg⟩ := pg.wi wi hwi
        obtain ⟨a, c, Pt, oc2, od2, fd2, osl2, k1, k2, k3, k4, k5, k6⟩ := pg.tab fi.x (by simpa using hin)
        rw [hmg] at k1
        cases k1
        rw [lk] at k2
        cases k2
        have hcode : cdv = .ref c := k3
        cases n with
        | zero => exact PE.imp pe_no fun σ H Q ⟨ρ, S, μ, ν, hr, en, h⟩ => h
        | succ n' =>
          have hb9 := hcw
          unfold chkW at hb9
          simp only [Bool.and_eq_true, decide_eq_true_eq, Bool.not_eq_true'] at hb9
          obtain ⟨⟨⟨⟨⟨⟨⟨⟨⟨q1, q2⟩, q3⟩, q4⟩, q5⟩, q6⟩, q7⟩, q8⟩, q9⟩, q10⟩ := hb9
          have Sg := scope_of0 q1
          unfold WI.tbOk at q9
          rw [Bool.and_eq_true, List.all_eq_true] at q9
          have tbm : ∀ {c : Nat} {d : D}, wi.tb.lookup c = some d → (c, d) ∈ wi.tb := fun {c d} => by
            have : ∀ {m : List (Nat × D)}, m.lookup c = some d → (c, d) ∈ m := by
              intro m
              induction m with
              | nil => intro z; simp at z
              | cons p r ih =>
                obtain ⟨i, d⟩ := p
                intro z
                rw [List.lookup_cons] at z
                split at z
                · rename_i q
                  cases z
                  rw [eq_of_beq q]; exact List.mem_cons_self
                · exact List.mem_cons_of_mem _ (ih z)
            exact this
          obtain ⟨ocg, odg, kVg, docg, pmg, ang, cdvg, ctg, oslg, efg, lkg, hcdg⟩ := Fg.ex
          subst efg
          have hG := gives_word (W := W) (X := X') (wi := wi) (iso := pw.iso) (q := X'.env.qual ++ "<lambda>") (g := ag) (cdg := cdvg) (by rw [l3]; exact pg.hK) (by rw [l6]; exact Nat.lt_of_le_of_lt (Nat.add_le_add_left (by decide : 80 ≤ 200) _) hu) (by rw [l4]; exact pg.bl) hcw (by rw [l3, l4]; exact pg.isoOk) (by rw [l3, l4]; exact hwo)
          have hpre : wi.N[0]? = some wi.a := by
            have := Sg.pre
            have q : (wi.N.take 1)[0]? = some wi.a := by rw [show (1 : Nat) = [wi.a].length from rfl, this]; rfl
            rw [List.getElem?_take] at q
            simpa using q
          refine PE.imp (pe_lamcallN (X := X') (T := W.T) (TT := TTw W wi.l0 wi.tb) (k := 3 * n' + 3) (t := fun E => tR W (cW E) (ev (calls (fs.map FI.F) wf sf n') sf ce)) hg (by rw [l4]; exact hmgg) (by rw [l3]; exact Fg.kp) (by rw [l3]; exact lkg) (by rw [l3]; exact hcdg) (by rw [l3]; exact Binds.all hbg) Sg hpre (.inl q4) hG (by rw [l4, l5]; exact TBs _ k4) (l9.trans hcode) (by rw [l10]; exact k5) (by rw [l10]; exact k6) (by rw [l6]; exact hr.mono (by omega)) L rfl (fun _ _ _ _ _ => rfl) (fun A2 outer2 s2 H2 E2 f2 c2 hr2 => ?_) hdb q7 q8)
            (word_imp q9.1 (fun c l hl => ?_) fun c d hd => ?_)
          · have gl : Gd W (calls (fs.map FI.F) wf sf n') ((fi.ct G Ft pw).lam scope.names) (3 * n') (cW E2) (lamCxN X' A2 outer2 s2 H2 E2 scope f2 c2) :=
              { hK := (show W.K = X'.K by rw [l3]; exact pg.hK), N := (show X'.N = fi.N from l8), nd := (show X'.N.Nodup by rw [l8]; exact Sc.nd), kind := L.kind, sc := rfl, calm := fun _ => rfl, hx := fun z => Bool.noConfusion z, room := fun _ => hr2.mono (by omega), hu := hr2.units, tk := L2N.takes_of rfl rfl rfl rfl
                fns := (show ∀ x i, _ → FnIn W _ X'.prog X'.w X'.K X'.mg X'.base (3 * n') x i by rw [l1, l2, l3, l4, l5]; exact ih' n' rfl), val := (show ∀ x d, _ → ∃ u v, X'.mg x = some u ∧ _ by rw [l4]; exact pg.val), bl := (show ∀ x ∈ bltNames, X'.mg x = none by rw [l4]; exact pg.bl), wrd := fun X' _ x d0 tb z => Bool.noConfusion z, iso := fun y tb z => Bool.noConfusion z }
            exact (chkE_ok m body ce gl hce).pe sf
          · have := q9.2 _ (tbm hl)
            dsimp only at this
            rw [Bool.and_eq_true] at this
            exact this.1
          · have := q9.2 _ (tbm hd)
            dsimp only at this
            split at this
            · exact ⟨_, rfl⟩
            · cases this }
  refine ⟨_, ss_all (fun st c h => chkS_ok g (wf := wf) (m := sf) 40 st c h sf) (defBody fi.st) fi.F.body h2, ?_⟩
  rw [hΨ] at h
  unfold runFn at h
  split at h
  case isFalse => exact h.elim
  rename_i hlen
  have hlen := Nat.eq_of_beq_eq_true hlen
  refine ⟨_, S, μ, ν, hR, en_start (np := fi.F.np) rvs (by rw [h3]; exact hl.symm) h4, ?_⟩
  cases q : evB (es (ev (calls (fs.map FI.F) wf sf n) sf) wf sf) fi.F.body (ds.map some ++ List.replicate (fi.F.ns - fi.F.np) none) S with
  | bad => rw [q] at h; exact h.elim
  | exc x S' =>
    rw [q] at h
    intro cls dd μ' H' m hr' xr
    obtain ⟨_, m1⟩ := m.take
    exact h cls dd _ H' m1 (by rw [← hR.len]; exact hr'.take _) xr
  | ok fl S' =>
    rw [q] at h
    intro fv μ' H' m hr' rf
    cases fl <;> cases fv <;> first | exact rf.elim | exact h.elim | skip
    · exact leave_ok hR m hr' .non h
    · exact leave_ok hR m hr' rf h

/-- every def keeps its promise, at every depth -/
theorem calls_ok {W : Wd} {P : Program} {w : World} {K : PySem.W.Frag} {mg : Str → Option Value} {base : Heap} {G : List (Str × D)} {Ft : List (Str × Nat)} {fs : List FI} {pw : Pw} {cs : List (Addr × Addr)} {wf sf : Nat} (pg : PgOk W K mg G Ft fs pw cs) (TBs : ∀ p ∈ cs, TabB base mg p.1 p.2) :
    ∀ (k : Nat) (x : Str) (i : Nat), (Ct.gl G Ft).dfn x i = true → FnIn W (calls (fs.map FI.F) wf sf k) P w K mg base (3 * k) x i := by
  intro k
  induction k using Nat.strongRecOn with
  | ind k rec =>
    intro x i h
    obtain ⟨fi, e, ex, hc, at_, fd, F, hb⟩ := pg.fns x i h
    subst ex
    cases k with
    | zero => exact ⟨at_, F.kp, fd, fi.ps, ⟨fun vs H Q E h => h.1, fun A outer s H args us vs Q E hr e0 hbt hv hsp => by obtain ⟨_, _, _, _, _, _, _, z⟩ := hsp; exact z.elim⟩, Binds.all hb, fun ds S z => (z rfl).elim⟩
    | succ k =>
      have hΨ : ∀ ds S, calls (fs.map FI.F) wf sf (k + 1) i ds S = runFn wf sf (calls (fs.map FI.F) wf sf k) fi.F ds S := fun ds S => by
        show (match (fs.map FI.F)[i]? with | some F => runFn wf sf (calls (fs.map FI.F) wf sf k) F ds S | none => .bad) = _
        rw [List.getElem?_map, e]; rfl
      refine ⟨at_, F.kp, fd, fi.ps, fn_ok pg TBs (rec k (Nat.lt_succ_self _)) (fun n' hn => rec n' (by omega)) hc F at_ hΨ, Binds.all hb, fun ds S z => ?_⟩
      rw [hΨ] at z
      unfold runFn at z
      split at z
      · rename_i hlen
        rw [Nat.eq_of_beq_eq_true hlen]
        unfold chkF at hc
        simp only [Bool.and_eq_true] at hc
        exact Nat.eq_of_beq_eq_true hc.1.2
      · exact (z rfl).elim
end EW

/-! EW: the end of the row. -/
namespace EW
open PySem PySem.Spec PyProof.Rows L2 LamX

/-- the tables of the defs that hold lambdas -/
def TabK (K : PySem.W.Frag) (tn : List Str) (cs : List (Addr × Addr)) : Prop := ∀ p ∈ cs, K.lookup p.2 = none ∧ ∃ x ∈ tn, PySem.W.tabIn K x = some p

theorem walk {l : PySem.W.OpenLaw} {q : Program} {loose : List Str} {XP : (Str → Option Value) → Heap → Prop} {YP : World → Heap → Prop} {d : DefRec} {K : Params → PySem.W.Frag} {G : List (Str × D)} {Ft : List (Str × Nat)} {fs : List FI} {pw : Pw} {wf sf k i : Nat} {x : Str}
    (hn : l.most = some 63) (hdf : d.params.defaults = []) (hr : Room (3 * (k + 1)) callerA) (hrec : (pw.tn.all fun x => ((recsOf q).find? fun e => e.name == x).isSome) = true) (hY : ∀ (w : World) (h : Heap), YP w h → (K w.params).In h) (hd : (Ct.gl G Ft).dfn d.name i = true) (hps : ∃ fi, fs[i]? = some fi ∧ fi.ps = [x])
    (F : ∀ (w : World) (mg : Str → Option Value) (fa : Addr) (h : Heap), (K w.params).In h → h.Ns mainGlobals mg → mg d.name = some (.ref fa) → ∃ W cs, PgOk W (K w.params) mg G Ft fs pw cs ∧ TabK (K w.params) pw.tn cs ∧ ∀ p ∈ W.T, ∃ c, (c, p.1) ∈ cs)
    (law : ∀ ns : List Int, ns.length ≤ 63 → ∃ S, calls (fs.map FI.F) wf sf (k + 1) i [.scr ns] [] = .ok (.bl true) S) :
    PySem.W.WalkO q loose XP YP l.row.toRowW d [] (fun f vs => PySem.call f vs) := by
  refine Att.attach_callB hn hdf fun w s₀ s₁ mg mb fa o pm cd doc a vs ns GG Y ho hdd hcd hmg hobj hints hlen hbits hg => ?_
  have KX := hY w _ Y
  obtain ⟨W, cs, pg, hTK, hWT⟩ := F w mg fa _ KX GG.T.g hmg
  have tb : ∀ p ∈ cs, PySem.W.CodeHd s₁.heap p.1 p.2 ∧ s₁.heap.get? p.2 = some (PySem.W.tabObj #[]) := fun p hp => by
    obtain ⟨_, y, hy, ht⟩ := hTK p hp
    have := List.all_eq_true.mp hrec y hy
    obtain ⟨dr, hdr⟩ := Option.isSome_iff_exists.mp this
    exact PySem.W.tab_of GG.T KX hdr ht
  obtain ⟨fi, e, hx⟩ := hps
  obtain ⟨fi2, e2, ex, hc, at_, fd, Fn, hb⟩ := pg.fns d.name i hd
  rw [e] at e2; cases e2
  have efa : fa = W.fa i := by
    have := hmg.symm.trans at_
    cases this; rfl
  subst efa
  rw [← ex] at Fn
  rw [← ex] at at_
  refine law_callTs (CX := L2N.CX l.prog w) (cs := cs) (k := 3 * (k + 1)) (fd := fd) (x := x)
    (sp := fun vs H Q E => ∃ (a : Addr) (ns : List Int), vs = [.ref a] ∧ ns.length ≤ 63 ∧ (∀ p ∈ cs, H p.2 = some (.tbl #[])) ∧ SqL (K w.params) H a (ns.map V.int) ∧ Q = (fun v _ => v = .bl true))
    KX GG.T.g GG.T.b GG.T.builtins GG.T.nolimit hg (fun p hp => (tb p hp).2) (fun p hp => (hTK p hp).1) (fun p hp => (tb p hp).1) GG.T.bmain hobj hints (Nat.le_trans hlen (by decide)) hr ?_ (fun s u => .of_eq (by have := hb [u] (by rw [hx]; rfl); rw [hx] at this; exact this)) (fun H hH hS => ⟨a, ns, rfl, hlen, hH, hS, rfl⟩) fun H e s' hx => ?_
  · intro base _ _ TBs
    have key := fn_ok (P := l.prog) (w := w) (base := base) (wf := wf) (sf := sf) (n := k) (Ψ := calls (fs.map FI.F) wf sf (k + 1)) pg TBs (fun x i h => calls_ok pg TBs k x i h) (fun n' hn' x i h => calls_ok pg TBs n' x i h) hc Fn at_ (fun ds S => by
      show (match (fs.map FI.F)[i]? with | some F => runFn wf sf (calls (fs.map FI.F) wf sf k) F ds S | none => .bad) = _
      rw [List.getElem?_map, e]; rfl)
    rw [hx] at key
    refine key.imp fun vs H Q E hq => ?_
    obtain ⟨a, ns, rfl, hl, ho, hs, rfl⟩ := hq
    obtain ⟨S, hrun⟩ := law ns hl
    refine ⟨rfl, [.scr ns], [], [], [], ⟨rfl, List.nodup_nil, by simp, fun p hp => ?_, by simp⟩, .cons (.scr ?_) .nil, ?_⟩
    · obtain ⟨c, hc⟩ := hWT p hp
      exact TabS.nil (ho _ hc)
    · rcases hs with (hs | ⟨o, hs⟩) | hs
      · exact .inr (.inl ⟨hs, by simp, by simp⟩)
      · exact .inl ⟨⟨o, hs⟩, by simp⟩
      · exact .inr (.inr (pg.hK ▸ hs))
    · rw [hrun]
      intro v μ' H' m hr' rv
      cases rv; rfl
  · obtain ⟨_, _, _, _, _, _, _, _, _, _, _, _, z⟩ := hx
    exact z
end EW

/-! EW, part 15: the program's facts, one by one. -/
namespace EW
open PySem PySem.Spec PyProof.Rows L2

/-- where a def stands -/
def FactF (K : PySem.W.Frag) (mg : Str → Option Value) (fi : FI) (a : Addr) : Prop :=
  mg fi.x = some (.ref a) ∧ ∃ fd, Fun K fi.x fi.x fi.st a fd ∧ ∀ us : List Value, us.length = fi.ps.length → bindArgs fd ⟨us, []⟩ = pure (fi.ps.zip us)
/-- where a class of errors stands -/
def FactC (K : PySem.W.Frag) (mg : Str → Option Value) (x : Str) (a : Addr) : Prop :=
  mg x = some (.ref a) ∧ ∃ bm, PySem.W.excIn K a bm "ValueError.__new__" = true ∧ ExcBaseFacts "ValueError" "ValueError.__new__" "ValueError.__init__" bm ∧ PySem.W.keepIn K (.ref a) = true ∧
    PySem.W.subIn K (.ref a) (.type "BaseException") = some true ∧ PySem.W.typeIn K (.ref a) = some (.type "type")
/-- a constant -/
def FactV (mg : Str → Option Value) (x : Str) (d : D) : Prop := ∃ u v, mg x = some u ∧ RelV v u ∧ ∀ (W : Wd) μ ν H, Rp W μ ν H v d

section
variable {K : PySem.W.Frag} {h : Heap} {mg : Str → Option Value}
theorem factF {x : Str} {st : Stmt} {N ps : List Str} {F : Fn} {a : Addr} {oc : Value} {od an : Option Addr} {osl : Array (Option Value)} {kV doc pm cdv ct : Value} (X : K.In h) (Gn : h.Ns mainGlobals mg) (e : PySem.W.nsIn K mainGlobals x = some (some (.ref a)))
    (l : K.lookup a = some ⟨oc, od, .func (PySem.W.fnOf x x (defArgs st) (defBody st) (defScope st) .none kV doc pm an cdv ct), osl⟩) (c : PySem.W.codeIn K cdv x = true) (k : PySem.W.keepIn K (.ref a) = true)
    (hb : ∀ us : List Value, us.length = ps.length → bindArgs (PySem.W.fnOf x x (defArgs st) (defBody st) (defScope st) .none kV doc pm an cdv ct) ⟨us, []⟩ = pure (ps.zip us)) : ∃ a, FactF K mg ⟨x, st, N, ps, F⟩ a :=
  ⟨a, PySem.W.mg_of X Gn e, _, fun_mk l c k, hb⟩
theorem factC {x : Str} {a : Addr} (X : K.In h) (Gn : h.Ns mainGlobals mg) (e : PySem.W.nsIn K mainGlobals x = some (some (.ref a))) (q : PySem.W.excIn K a [.type "ValueError", .type "Exception", .type "BaseException", .type "object"] "ValueError.__new__" = true)
    (k : PySem.W.keepIn K (.ref a) = true) (s : PySem.W.subIn K (.ref a) (.type "BaseException") = some true) (t : PySem.W.typeIn K (.ref a) = some (.type "type")) : ∃ a, FactC K mg x a :=
  ⟨a, PySem.W.mg_of X Gn e, _, q, PySem.F.excBase_ValueError, k, s, t⟩
theorem factI {x : Str} {i : Int} {t : Tok} (X : K.In h) (Gn : h.Ns mainGlobals mg) (e : PySem.W.nsIn K mainGlobals x = some (some (.int i t))) : FactV mg x (.int i) :=
  ⟨_, .int i, PySem.W.mg_of X Gn e, ⟨t, rfl⟩, fun _ _ _ _ => .int i⟩
theorem factS {x : Str} {z : Str} {l : List Nat} {t : Tok} (X : K.In h) (Gn : h.Ns mainGlobals mg) (e : PySem.W.nsIn K mainGlobals x = some (some (.str z t))) (hz : z = ⟨l.toArray⟩) (hl : okS l = true) : FactV mg x (.str l) := by
  subst hz
  unfold okS at hl
  rw [Bool.and_eq_true, List.all_eq_true] at hl
  exact ⟨_, .str _, PySem.W.mg_of X Gn e, ⟨t, rfl⟩, fun _ _ _ _ => .str l (Nat.le_of_ble_eq_true hl.1) fun c hc => Nat.le_of_ble_eq_true (hl.2 c hc)⟩

theorem mem_of_lookup {α : Type} {x : Str} {d : α} : ∀ {l : List (Str × α)}, l.lookup x = some d → (x, d) ∈ l
  | [], h => by simp at h
  | (y, e) :: r, h => by
    rw [List.lookup_cons] at h
    split at h
    · rename_i q
      cases h
      rw [eq_of_beq q]; exact List.mem_cons_self
    · exact List.mem_cons_of_mem _ (mem_of_lookup h)
/-! ### all together -/
inductive FsOk (K : PySem.W.Frag) (mg : Str → Option Value) : List FI → List Addr → Prop
  | nil : FsOk K mg [] []
  | cons {fi : FI} {a : Addr} {r : List FI} {s : List Addr} (h : FactF K mg fi a) (t : FsOk K mg r s) : FsOk K mg (fi :: r) (a :: s)
inductive CsOk (K : PySem.W.Frag) (mg : Str → Option Value) : List Str → List Addr → Prop
  | nil : CsOk K mg [] []
  | cons {x : Str} {a : Addr} {r : List Str} {s : List Addr} (h : FactC K mg x a) (t : CsOk K mg r s) : CsOk K mg (x :: r) (a :: s)
inductive VsOk (mg : Str → Option Value) : List (Str × D) → Prop
  | nil : VsOk mg []
  | cons {x : Str} {d : D} {r : List (Str × D)} (h : FactV mg x d) (t : VsOk mg r) : VsOk mg ((x, d) :: r)
theorem FsOk.ex0 : ∃ l, FsOk K mg [] l := ⟨[], .nil⟩
theorem FsOk.ex {fi : FI} {r : List FI} (h : ∃ a, FactF K mg fi a) (t : ∃ l, FsOk K mg r l) : ∃ l, FsOk K mg (fi :: r) l := let ⟨a, h⟩ := h; let ⟨l, t⟩ := t; ⟨a :: l, .cons h t⟩
theorem CsOk.ex0 : ∃ l, CsOk K mg [] l := ⟨[], .nil⟩
theorem CsOk.ex {x : Str} {r : List Str} (h : ∃ a, FactC K mg x a) (t : ∃ l, CsOk K mg r l) : ∃ l, CsOk K mg (x :: r) l := let ⟨a, h⟩ := h; let ⟨l, t⟩ := t; ⟨a :: l, .cons h t⟩
theorem FsOk.get {fs : List FI} {as : List Addr} (h : FsOk K mg fs as) : ∀ {i : Nat} {fi : FI}, fs[i]? = some fi → ∃ a, as[i]? = some a ∧ FactF K mg fi a := by
  induction h with
  | nil => intro i fi e; simp at e
  | cons h t ih =>
    intro i fi e
    cases i with
    | zero => simp at e; subst e; exact ⟨_, rfl, h⟩
    | succ i => simpa using ih (by simpa using e)
theorem CsOk.get {fs : List Str} {as : List Addr} (h : CsOk K mg fs as) : ∀ {i : Nat} {x : Str}, fs[i]? = some x → ∃ a, as[i]? = some a ∧ FactC K mg x a := by
  induction h with
  | nil => intro i fi e; simp at e
  | cons h t ih =>
    intro i fi e
    cases i with
    | zero => simp at e; subst e; exact ⟨_, rfl, h⟩
    | succ i => simpa using ih (by simpa using e)
theorem VsOk.get {vs : List (Str × D)} (h : VsOk mg vs) : ∀ {x : Str} {d : D}, vs.lookup x = some d → FactV mg x d := by
  induction h with
  | nil => intro x d e; simp at e
  | @cons y d' r h t ih =>
    intro x d e
    rw [List.lookup_cons] at e
    split at e
    · rename_i q
      have := eq_of_beq q
      subst this
      cases e; exact h
    · exact ih e
/-- the names of the defs with their places -/
def ftOf (fs : List FI) (n : Nat) : List (Str × Nat) := match fs with
  | [] => []
  | fi :: r => (fi.x, n) :: ftOf r (n + 1)
def gcOf (cs : List Str) (n : Nat) : List (Str × D) := match cs with
  | [] => []
  | x :: r => (x, .cls n) :: gcOf r (n + 1)
/-- the defs as values -/
def gfOf (fs : List FI) (n : Nat) : List (Str × D) := match fs with
  | [] => []
  | fi :: r => (fi.x, .fn n) :: gfOf r (n + 1)
theorem gfOf_get : ∀ {fs : List FI} {n : Nat} {x : Str} {d : D}, (gfOf fs n).lookup x = some d → ∃ i fi, d = .fn (n + i) ∧ fs[i]? = some fi ∧ fi.x = x
  | [], n, x, d, h => by simp [gfOf] at h
  | y :: r, n, x, d, h => by
    unfold gfOf at h
    rw [List.lookup_cons] at h
    split at h
    · rename_i q
      cases h
      exact ⟨0, y, rfl, rfl, (eq_of_beq q).symm⟩
    · obtain ⟨i, fi, h1, h2, h3⟩ := gfOf_get h
      exact ⟨i + 1, fi, by rw [h1]; congr 1; omega, by simpa using h2, h3⟩
theorem ftOf_get : ∀ {fs : List FI} {n : Nat} {x : Str} {i : Nat}, (ftOf fs n).lookup x = some i → n ≤ i ∧ ∃ fi, fs[i - n]? = some fi ∧ fi.x = x
  | [], n, x, i, h => by simp [ftOf] at h
  | fi :: r, n, x, i, h => by
    unfold ftOf at h
    rw [List.lookup_cons] at h
    split at h
    · rename_i q
      cases h
      exact ⟨Nat.le_refl _, fi, by simp, (eq_of_beq q).symm⟩
    · obtain ⟨h1, fi', h2, h3⟩ := ftOf_get h
      refine ⟨by omega, fi', ?_, h3⟩
      rw [show i - n = (i - (n + 1)) + 1 by omega]
      simpa using h2
theorem gcOf_get : ∀ {cs : List Str} {n : Nat} {x : Str} {d : D}, (gcOf cs n).lookup x = some d → ∃ i, d = .cls (n + i) ∧ cs[i]? = some x
  | [], n, x, i, h => by simp [gcOf] at h
  | y :: r, n, x, d, h => by
    unfold gcOf at h
    rw [List.lookup_cons] at h
    split at h
    · rename_i q
      cases h
      exact ⟨0, rfl, by rw [eq_of_beq q]; rfl⟩
    · obtain ⟨i, h1, h2⟩ := gcOf_get h
      exact ⟨i + 1, by rw [h1]; congr 1; omega, by simpa using h2⟩
theorem lookup_app {α : Type} {x : Str} {d : α} : ∀ {l m : List (Str × α)}, (l ++ m).lookup x = some d → l.lookup x = some d ∨ m.lookup x = some d
  | [], m, h => .inr h
  | (y, e) :: r, m, h => by
    rw [List.cons_append, List.lookup_cons] at h
    rw [List.lookup_cons]
    split at h
    · exact .inl h
    · exact lookup_app h

/-! ### classes and tables, by one look each -/
/-- where a name of the module stands -/
def addrOf (K : PySem.W.Frag) (x : Str) : Option Addr := match PySem.W.nsIn K mainGlobals x with
  | some (some (.ref a)) => some a
  | _ => none
theorem addrOf_mg {x : Str} {a : Addr} (X : K.In h) (Gn : h.Ns mainGlobals mg) (e : addrOf K x = some a) : mg x = some (.ref a) := by
  unfold addrOf at e
  split at e
  · rename_i q; cases e; exact PySem.W.mg_of X Gn q
  · cases e
/-- what a name says in isinstance(error, name) -/
def cvOf (K : PySem.W.Frag) (y : Str) : Option Value := match PySem.W.nsIn K mainGlobals y with
  | some (some (.ref a)) => some (.ref a)
  | some none => (match bootBuiltins y with | some (.type n) => some (.type n) | _ => none)
  | _ => none
theorem cvOf_mg {y : Str} {cv : Value} (X : K.In h) (Gn : h.Ns mainGlobals mg) (e : cvOf K y = some cv) : ∃ v : V, (mg y = some cv ∨ (mg y = none ∧ bootBuiltins y = some cv)) ∧ RelV v cv ∧ ∀ u, RelV v u → u = cv := by
  unfold cvOf at e
  split at e
  · rename_i a q; cases e; exact ⟨.ref a, .inl (PySem.W.mg_of X Gn q), rfl, fun u z => z⟩
  · rename_i q
    split at e
    · rename_i n q2; cases e; exact ⟨.ty n, .inr ⟨PySem.W.mg_none_of X Gn q, q2⟩, rfl, fun u z => z⟩
    · cases e
  · cases e
def isoB (K : PySem.W.Frag) (cls : List Str) (iso : List (Str × List (Nat × Bool))) : Bool := iso.all fun q => match cvOf K q.1 with
  | some cv => q.2.all fun p => (match cls[p.1]? with
    | some x => (match addrOf K x with
      | some D => decide (PySem.W.kitOne K (.ref D) cv = some p.2)
      | none => false)
    | none => false)
  | none => false
def excCB (K : PySem.W.Frag) (D : Addr) : Bool :=
  decide (PySem.W.findIn K (.ref D) "__getattribute__" = some (some (.builtin "BaseException.__getattribute__"))) && decide (PySem.W.findIn K (.ref D) "__getattr__" = some none) && decide (PySem.W.subIn K (.ref D) (.type "BaseException") = some true) && PySem.W.hasDictIn K D &&
  decide (PySem.W.findIn K (.ref D) "__class__" = some (some (.builtin "object.__class__"))) && decide (PySem.W.specialIn K (.builtin "object.__class__") "__get__" = some (some (.builtin "getset_descriptor.__get__"))) && decide (PySem.W.takesIn K (.builtin "object.__class__") = some true) && decide (PySem.W.mroIn K D (.type "object") = some true)
theorem excCB_ok {D : Addr} (e : excCB K D = true) : L2.ExcC K D := by
  unfold excCB at e
  simp only [Bool.and_eq_true, decide_eq_true_eq] at e
  obtain ⟨⟨⟨⟨⟨⟨⟨a, b⟩, c⟩, d⟩, e⟩, f⟩, g⟩, h⟩ := e
  exact ⟨a, b, c, d, e, f, g, h⟩
def wiB (K : PySem.W.Frag) (cls : List Str) (wi : WI) : Bool := match addrOf K wi.cs with
  | some CS => wi.tb.all fun p => (match cls[p.1]? with
    | some x => (match addrOf K x with
      | some D => decide (PySem.W.exmOne K (.ref D) (.ref CS) = some true) && excCB K D
      | none => false)
    | none => false)
  | none => false
theorem lookupN_mem {α : Type} {c : Nat} {d : α} : ∀ {m : List (Nat × α)}, m.lookup c = some d → (c, d) ∈ m
  | [], z => by simp at z
  | (i, e) :: r, z => by
    rw [List.lookup_cons] at z
    split at z
    · rename_i q
      cases z
      rw [eq_of_beq q]; exact List.mem_cons_self
    · exact List.mem_cons_of_mem _ (lookupN_mem z)
theorem ca_of {W : Wd} {cls : List Str} {bs : List Addr} {i : Nat} {x : Str} {D : Addr} (hW : W.ca = fun i => bs.getD i 0) (hcs : CsOk K mg cls bs) (e : cls[i]? = some x) (hm : mg x = some (.ref D)) : W.ca i = D := by
  obtain ⟨a, e1, fc⟩ := hcs.get e
  have h1 := fc.1.symm.trans hm
  cases h1
  rw [hW]
  show bs.getD i 0 = D
  rw [List.getD_eq_getElem?_getD, e1]; rfl
theorem isoOk_of {W : Wd} {cls : List Str} {bs : List Addr} {iso : List (Str × List (Nat × Bool))} (X : K.In h) (Gn : h.Ns mainGlobals mg) (hW : W.ca = fun i => bs.getD i 0) (hcs : CsOk K mg cls bs) (hB : isoB K cls iso = true) : IsoOk W K mg iso := by
  refine ⟨fun y tb hy => ?_⟩
  have hm := mem_of_lookup hy
  unfold isoB at hB
  have := List.all_eq_true.mp hB _ hm
  dsimp only at this
  split at this
  case h_2 => cases this
  rename_i cv hcv
  obtain ⟨v, k1, k2, k3⟩ := cvOf_mg X Gn hcv
  refine ⟨v, cv, k1, k2, k3, fun c b hc => ?_⟩
  have := List.all_eq_true.mp this _ (lookupN_mem hc)
  dsimp only at this
  split at this
  case h_2 => cases this
  rename_i x hx
  split at this
  case h_2 => cases this
  rename_i D hD
  have e := ca_of hW hcs hx (addrOf_mg X Gn hD)
  rw [e]
  exact of_decide_eq_true this
theorem wiOk_of {W : Wd} {cls : List Str} {bs : List Addr} {wi : WI} (X : K.In h) (Gn : h.Ns mainGlobals mg) (hW : W.ca = fun i => bs.getD i 0) (hcs : CsOk K mg cls bs) (hB : wiB K cls wi = true) : WiOk W K mg wi := by
  unfold wiB at hB
  split at hB
  case h_2 => cases hB
  rename_i CS hCS
  refine ⟨CS, addrOf_mg X Gn hCS, fun c l hc => ?_⟩
  have := List.all_eq_true.mp hB _ (lookupN_mem hc)
  dsimp only at this
  split at this
  case h_2 => cases this
  rename_i x hx
  split at this
  case h_2 => cases this
  rename_i D hD
  have e := ca_of hW hcs hx (addrOf_mg X Gn hD)
  rw [e]
  rw [Bool.and_eq_true] at this
  exact ⟨of_decide_eq_true this.1, excCB_ok this.2⟩
def tabsB (K : PySem.W.Frag) : List Str → Option (List (Addr × Addr))
  | [] => some []
  | x :: r => match PySem.W.tabIn K x, tabsB K r with
    | some p, some l => if (K.lookup p.2).isNone && l.all (fun q => !(Nat.beq q.2 p.2)) then some (p :: l) else none
    | _, _ => none
def tabT : List Str → List (Addr × Addr) → List (Addr × Str)
  | x :: r, p :: s => (p.2, lamQ x) :: tabT r s
  | _, _ => []
theorem tabsB_ok : ∀ {tn : List Str} {l : List (Addr × Addr)}, tabsB K tn = some l → TabK K tn l ∧ (∀ r ∈ tabT tn l, ∃ p ∈ l, p.2 = r.1) ∧ ∀ x ∈ tn, ∃ p ∈ l, PySem.W.tabIn K x = some p ∧ (p.2, lamQ x) ∈ tabT tn l ∧ ∀ r ∈ tabT tn l, r.1 = p.2 → r.2 = lamQ x
  | [], l, e => by
    unfold tabsB at e
    cases e
    exact ⟨fun p hp => by simp at hp, fun r hr => by simp [tabT] at hr, fun x hx => by simp at hx⟩
  | x :: r, l, e => by
    unfold tabsB at e
    split at e
    case h_2 => cases e
    rename_i p s hp hs
    split at e
    case isFalse => cases e
    rename_i hb
    cases e
    rw [Bool.and_eq_true, List.all_eq_true] at hb
    obtain ⟨h1, h2, h3⟩ := tabsB_ok hs
    have hne : ∀ q ∈ s, q.2 ≠ p.2 := fun q hq z => by
      have := hb.2 q hq
      rw [z, Nat.beq_refl] at this
      cases this
    refine ⟨fun q hq => ?_, fun q hq => ?_, fun y hy => ?_⟩
    · rcases List.mem_cons.mp hq with rfl | hq
      · exact ⟨Option.isNone_iff_eq_none.mp hb.1, x, List.mem_cons_self, hp⟩
      · obtain ⟨a, z, b, c⟩ := h1 q hq
        exact ⟨a, z, List.mem_cons_of_mem _ b, c⟩
    · unfold tabT at hq
      rcases List.mem_cons.mp hq with rfl | hq
      · exact ⟨p, List.mem_cons_self, rfl⟩
      · obtain ⟨p', a, b⟩ := h2 q hq
        exact ⟨p', List.mem_cons_of_mem _ a, b⟩
    · rcases List.mem_cons.mp hy with rfl | hy
      · refine ⟨p, List.mem_cons_self, hp, List.mem_cons_self, fun q hq e => ?_⟩
        unfold tabT at hq
        rcases List.mem_cons.mp hq with rfl | hq
        · rfl
        · obtain ⟨p', a, b⟩ := h2 q hq
          exact (hne p' a (b.trans e)).elim
      · obtain ⟨p', a, b, c, d⟩ := h3 y hy
        refine ⟨p', List.mem_cons_of_mem _ a, b, List.mem_cons_of_mem _ c, fun q hq e => ?_⟩
        unfold tabT at hq
        rcases List.mem_cons.mp hq with rfl | hq
        · exact (hne p' a e.symm).elim
        · exact d q hq e
theorem tabIn_ex {x : Str} {p : Addr × Addr} (e : PySem.W.tabIn K x = some p) : ∃ a oc od fd osl, PySem.W.nsIn K mainGlobals x = some (some (.ref a)) ∧ K.lookup a = some ⟨oc, od, .func fd, osl⟩ ∧ fd.code = .ref p.1 := by
  unfold PySem.W.tabIn at e
  split at e
  · rename_i f hf
    split at e
    · rename_i hfo
      split at e
      · rename_i c hc
        split at e
        · split at e
          · cases e
            exact ⟨f, _, _, _, _, hf, hfo, hc⟩
          · cases e
        · cases e
      · cases e
    · cases e
  · cases e
/-- all looks at the words and the tables -/
def pwB (K : PySem.W.Frag) (cls : List Str) (pw : Pw) : Bool := isoB K cls pw.iso && pw.ws.all (wiB K cls) && (tabsB K pw.tn).isSome
/-- a word's def -/
def WI.fi (wi : WI) : FI := ⟨wi.x, wi.st, [], [wi.a], ⟨0, 0, false, []⟩⟩

theorem pg_mk {fs : List FI} {pw : Pw} {cs : List Str} {vs : List (Str × D)} (X : K.In h) (Gn : h.Ns mainGlobals mg) (hc : ∀ fi ∈ fs, chkF (vs ++ gcOf cs 0 ++ gfOf fs 0) (ftOf fs 0) pw fi = true) (hf : ∃ l, FsOk K mg fs l) (hcs : ∃ l, CsOk K mg cs l) (hv : VsOk mg vs) (hnc : ∀ x d n, vs.lookup x = some d → d ≠ .cls n)
    (bl : ∀ x ∈ bltNames, mg x = none) (hw : pwB K cs pw = true) (hws : ∀ wi ∈ pw.ws, chkW pw.iso wi = true ∧ ∃ a, FactF K mg wi.fi a) :
    ∃ (W : Wd) (l : List (Addr × Addr)), PgOk W K mg (vs ++ gcOf cs 0 ++ gfOf fs 0) (ftOf fs 0) fs pw l ∧ TabK K pw.tn l ∧ ∀ p ∈ W.T, ∃ c, (c, p.1) ∈ l := by
  obtain ⟨as, hf⟩ := hf
  obtain ⟨bs, hcs⟩ := hcs
  unfold pwB at hw
  simp only [Bool.and_eq_true, List.all_eq_true] at hw
  obtain ⟨⟨hw1, hw2⟩, hw3⟩ := hw
  obtain ⟨l, hl⟩ := Option.isSome_iff_exists.mp hw3
  obtain ⟨t1, t2, t3⟩ := tabsB_ok hl
  let W : Wd := ⟨K, fun i => as.getD i 0, fun i => bs.getD i 0, tabT pw.tn l, none⟩
  have hcls : ∀ x n, (Ct.gl (vs ++ gcOf cs 0 ++ gfOf fs 0) (ftOf fs 0)).val x (.cls n) = true → FactC K mg x (W.ca n) := fun x n h => by
    unfold Ct.val Ct.gl at h
    split at h
    · rename_i e he
      have := sameD_eq _ _ h
      subst this
      rcases lookup_app he with q | q
      case inr =>
        obtain ⟨i, fi, h1, _⟩ := gfOf_get q
        cases h1
      rcases lookup_app q with q | q
      · exact (hnc _ _ n q rfl).elim
      · obtain ⟨i, h1, h2⟩ := gcOf_get q
        rw [Nat.zero_add] at h1
        cases h1
        obtain ⟨a, e1, fc⟩ := hcs.get h2
        have : W.ca n = a := by show bs.getD n 0 = a; rw [List.getD_eq_getElem?_getD, e1]; rfl
        rw [this]; exact fc
    · cases h
  refine ⟨W, l, ⟨rfl, fun x i h => ?_, fun x d h => ?_, bl, fun x n h => ?_, isoOk_of X Gn rfl hcs hw1, fun wi hwi => ?_, fun x hx => ?_⟩, t1, fun p hp => ?_⟩
  · unfold Ct.dfn Ct.gl at h
    split at h
    · rename_i j hj
      have := Nat.eq_of_beq_eq_true h
      subst this
      obtain ⟨_, fi, e, ex⟩ := ftOf_get hj
      rw [Nat.sub_zero] at e
      obtain ⟨a, e1, f1, fd, f2, f3⟩ := hf.get e
      have ha : W.fa j = a := by show as.getD j 0 = a; rw [List.getD_eq_getElem?_getD, e1]; rfl
      subst ex
      exact ⟨fi, e, rfl, hc fi (List.mem_of_getElem? e), by rw [ha]; exact f1, fd, by rw [ha]; exact f2, f3⟩
    · cases h
  · have h0 := h
    unfold Ct.val Ct.gl at h
    split at h
    · rename_i e he
      have := sameD_eq _ _ h
      subst this
      rcases lookup_app he with q | q
      case inr =>
        obtain ⟨i, fi, h1, h2, h3⟩ := gfOf_get q
        rw [Nat.zero_add] at h1
        subst h1 h3
        obtain ⟨a, e1, f1, _⟩ := hf.get h2
        have ha : W.fa i = a := by show as.getD i 0 = a; rw [List.getD_eq_getElem?_getD, e1]; rfl
        exact ⟨.ref a, .ref (W.fa i), f1, by rw [ha]; rfl, fun μ ν H => .fn i⟩
      rcases lookup_app q with q | q
      · obtain ⟨u, v, a, b, c⟩ := hv.get q
        exact ⟨u, v, a, b, fun μ ν H => c W μ ν H⟩
      · obtain ⟨i, h1, h2⟩ := gcOf_get q
        rw [Nat.zero_add] at h1
        subst h1
        obtain ⟨a, _⟩ := hcls x i h0
        exact ⟨_, .ref (W.ca i), a, rfl, fun μ ν H => .cls i⟩
    · cases h
  · obtain ⟨_, bm, a, b, c, d, e⟩ := hcls x n h
    exact ⟨bm, a, b, c, d, e⟩
  · obtain ⟨h1, a, h2, fd, h3, h4⟩ := hws wi hwi
    exact ⟨h1, wiOk_of X Gn rfl hcs (hw2 wi hwi), a, fd, h2, h3, h4⟩
  · obtain ⟨p, a, b, c, d⟩ := t3 x hx
    obtain ⟨f, oc, od, fd, osl, e1, e2, e3⟩ := tabIn_ex b
    exact ⟨f, p.1, p.2, oc, od, fd, osl, PySem.W.mg_of X Gn e1, e2, e3, a, c, d⟩
  · obtain ⟨q, a, b⟩ := t2 p hp
    exact ⟨q.1, by rw [← b]; exact a⟩
end
end EW

namespace EW
theorem ev_succ (Φ : Ph) (n : Nat) (e : E) (ρ : Env) (S : Hs) : ev Φ (n + 1) e ρ S = evStep Φ (ev Φ n) e ρ S := rfl
theorem es_succ (ve : E → Env → Hs → R D) (wf n : Nat) (s : EW.S) (ρ : Env) (S : Hs) : es ve wf (n + 1) s ρ S = esStep ve (es ve wf n) wf s ρ S := rfl

theorem bind_ok {α β : Type} (a : α) (S : Hs) (f : α → Hs → R β) : (R.ok a S).bind f = f a S := rfl
theorem bind_exc {α β : Type} (x : Xc) (S : Hs) (f : α → Hs → R β) : (R.exc x S : R α).bind f = .exc x S := rfl
theorem bind_ite {α β : Type} (c : Prop) [Decidable c] (r r' : R α) (f : α → Hs → R β) : (if c then r else r').bind f = if c then r.bind f else r'.bind f := by split <;> rfl
theorem calls_succ (Fs : List Fn) (wf sf k f : Nat) (ds : List D) (S : Hs) : calls Fs wf sf (k + 1) f ds S = match Fs[f]? with
    | some F => runFn wf sf (calls Fs wf sf k) F ds S
    | none => .bad := rfl
theorem mulOk_l {i j : Int} (h : i.natAbs ≤ 18446744073709551615) : mulOk i j = true := by
  simp [mulOk, small, Nat.ble_eq, h]
theorem mulOk_r {i j : Int} (h : j.natAbs ≤ 18446744073709551615) : mulOk i j = true := by
  simp [mulOk, small, Nat.ble_eq, h]
theorem mul_l {i j : Int} {S : Hs} (h : i.natAbs ≤ 18446744073709551615) : binD .mul (.int i) (.int j) S = some (.int (i * j)) := by
  simp [binD, mulOk_l h]
theorem mul_r {i j : Int} {S : Hs} (h : j.natAbs ≤ 18446744073709551615) : binD .mul (.int i) (.int j) S = some (.int (i * j)) := by
  simp [binD, mulOk_r h]
theorem log2_lt_of {n : Nat} (h : n ≤ 18446744073709551615) : n.log2 < 9000 := by
  rcases Nat.eq_zero_or_pos n with rfl | hp
  · decide
  · have : n.log2 < 64 := (Nat.log2_lt (by omega)).2 (by omega)
    omega
theorem fdiv_ok {i j : Int} {S : Hs} (h0 : 0 < j) (h : j ≤ 18446744073709551615) : binD .fdiv (.int i) (.int j) S = some (.int (i / j)) := by
  have h1 : j.natAbs.log2 < 9000 := log2_lt_of (by omega)
  simp [binD, h0, Nat.blt_eq, h1]
theorem mod_ok {i j : Int} {S : Hs} (h0 : 0 < j) : binD .mod (.int i) (.int j) S = some (.int (i % j)) := by
  simp [binD, h0]

theorem binD_add {i j : Int} {S : Hs} : binD .add (.int i) (.int j) S = some (.int (i + j)) := rfl
theorem binD_sub {i j : Int} {S : Hs} : binD .sub (.int i) (.int j) S = some (.int (i - j)) := rfl

def FrollG (m1 a1 p1 c2 p2 q : Int) : Fn := ⟨2, 4, false, [.ifs (.cmp .gt (.idx (.var 0) (.int 0)) (.int 0)) [.set (.nm 3) (.bin .mod (.bi .int [(.idx (.var 0) (.int 0))]) (.var 1)), .set (.sub (.var 0) (.int 0)) (.bin .fdiv (.idx (.var 0) (.int 0)) (.var 1)), .ret (.var 3)] [], .set (.sub (.var 0) (.int 1)) (.bin .mod (.bi .int [(.bin .add (.bin .mul (.idx (.var 0) (.int 1)) (.int m1)) (.int a1))]) (.int p1)), .set (.nm 2) (.bin .mod (.bi .int [(.bin .mul (.idx (.var 0) (.int 1)) (.bin .add (.idx (.var 0) (.int 1)) (.int c2)))]) (.int p2)), .ret (.bin .mod (.bi .int [(.bin .fdiv (.var 2) (.int q))]) (.var 1))]⟩

theorem roll_ok {m1 a1 p1 c2 p2 q : Int} (h1 : m1.natAbs ≤ 18446744073709551615) (h2 : 0 < p1) (h3 : p1 ≤ 18446744073709551615) (h4 : 0 < p2) (h5 : 0 < q) (h6 : q ≤ 18446744073709551615) (wf n : Nat) (Φ : Ph) (a b m : Int) (hm : 0 < m) (hm2 : m ≤ 18446744073709551615) : ∃ v a' b' : Int, 0 ≤ v ∧ v < m ∧
    runFn wf (n + 10) Φ (FrollG m1 a1 p1 c2 p2 q) [.cell 0, .int m] [.lst [.int a, .int b]] = .ok (.int v) [.lst [.int a', .int b']] := by
  by_cases h : 0 < a
  · refine ⟨a % m, a / m, b, Int.emod_nonneg _ (by omega), Int.emod_lt_of_pos _ hm, ?_⟩
    simp [runFn, FrollG, evB, es_succ, esStep, ev_succ, evStep, evT, evs, bind_ok, R.of, cmpD, idxD, dicP, cellD, idxL, cellL, L2.ixN, biD, mod_ok, fdiv_ok, hm, hm2, h, tru, setT, setN, putC, putL, leave, D.flat]
  · obtain ⟨c, hc⟩ : ∃ c, c = (b * m1 + a1) % p1 := ⟨_, rfl⟩
    have hc1 : c.natAbs ≤ 18446744073709551615 := by
      have := Int.emod_nonneg (b * m1 + a1) (Int.ne_of_gt h2)
      have := Int.emod_lt_of_pos (b * m1 + a1) h2
      omega
    refine ⟨c * (c + c2) % p2 / q % m, a, c, Int.emod_nonneg _ (by omega), Int.emod_lt_of_pos _ hm, ?_⟩
    simp [runFn, FrollG, evB, es_succ, esStep, ev_succ, evStep, evT, evs, bind_ok, R.of, cmpD, idxD, dicP, cellD, idxL, cellL, L2.ixN, biD, mul_r h1, mul_l hc1, ← hc, binD_add, mod_ok, fdiv_ok, hm, hm2, h, h2, h4, h5, h6, tru, setT, setN, putC, putL, leave, D.flat]
end EW

namespace EW
/-- the remainder of the language -/
def pm (i j : Int) : Int := if 0 < j then i % j else i.fmod j
theorem pm_eq (i j : Int) : ∃ q, pm i j = i + q * j := by
  unfold pm
  split
  · exact ⟨-(i / j), by have := Int.emod_add_mul_ediv i j; rw [Int.neg_mul, Int.mul_comm]; omega⟩
  · exact ⟨-(i.fdiv j), by have := Int.fmod_def i j; rw [Int.neg_mul, Int.mul_comm]; omega⟩
theorem pm_lt {i j : Int} (h : j ≠ 0) : (pm i j).natAbs < j.natAbs := by
  unfold pm
  split
  · rename_i h0
    have := Int.emod_nonneg i h
    have := Int.emod_lt_of_pos i h0
    omega
  · rename_i h0
    have h1 : j < 0 := by omega
    have h2 : 0 ≤ (-i).fmod (-j) := Int.fmod_nonneg_of_pos _ (by omega)
    have h3 : (-i).fmod (-j) < -j := Int.fmod_lt_of_pos _ (by omega)
    have h4 : (-i).fmod (-j) = -(i.fmod j) := by
      rw [Int.neg_fmod_neg]
    omega
theorem gcd_pm (i j : Int) : Int.gcd j (pm i j) = Int.gcd i j := by
  obtain ⟨q, h⟩ := pm_eq i j
  rw [h, Int.gcd_add_mul_right_right, Int.gcd_comm]
theorem mod_pm {i j : Int} {S : Hs} (h : j ≠ 0) : binD .mod (.int i) (.int j) S = some (.int (pm i j)) := by
  unfold pm
  by_cases h0 : 0 < j
  · simp [binD, h0]
  · simp [binD, h0, h]

theorem while_div (Φ : Ph) (wf p m : Nat) : ∀ (n : Nat) (a b : Int) (S : Hs), b.natAbs < n → ∃ g : Int, g.natAbs = Int.gcd a b ∧
    whileL (ev Φ (p + 5)) (es (ev Φ (p + 5)) wf (m + 5)) (.cmp .ne (.var 1) (.int 0)) [.set (.tup [(.nm 0), (.nm 1)]) (.tup [(.var 1), (.bin .mod (.var 0) (.var 1))])] n [some (.int a), some (.int b)] S
      = .ok (.nx [some (.int g), some (.int 0)]) S
  | 0, _, _, _, h => absurd h (by omega)
  | n + 1, a, b, S, h => by
    by_cases h0 : b = 0
    · subst h0
      refine ⟨a, by simp, ?_⟩
      simp [whileL, evT, ev_succ, evStep, bind_ok, cmpD, topL, D.shp, eqD, R.of, tru]
    · obtain ⟨g, hg, e⟩ := while_div Φ wf p m n b (pm a b) S (by have := pm_lt (i := a) h0; omega)
      refine ⟨g, by rw [hg, gcd_pm], ?_⟩
      rw [← e]
      simp [whileL, evT, ev_succ, evStep, es_succ, esStep, evB, evs, bind_ok, cmpD, topL, D.shp, eqD, R.of, tru, h0, mod_pm, setT, setN, setN.setNs]

/-- the second divisor: found, more = more, found % more while more > 0 -/
theorem while_div2 (Φ : Ph) (wf p m : Nat) (x y : Option D) : ∀ (n : Nat) (a b : Int) (S : Hs), 0 ≤ a → 0 ≤ b → b.natAbs < n →
    whileL (ev Φ (p + 5)) (es (ev Φ (p + 5)) wf (m + 5)) (.cmp .gt (.var 3) (.int 0)) [.set (.tup [(.nm 1), (.nm 3)]) (.tup [(.var 3), (.bin .mod (.var 1) (.var 3))])] n [x, some (.int a), y, some (.int b)] S
      = .ok (.nx [x, some (.int (Int.gcd a b)), y, some (.int 0)]) S
  | 0, _, _, _, _, _, h => absurd h (by omega)
  | n + 1, a, b, S, ha, hb, h => by
    by_cases h0 : b = 0
    · subst h0
      simp [whileL, evT, ev_succ, evStep, bind_ok, cmpD, R.of, tru]
      omega
    · have h1 : 0 < b := by omega
      have e := while_div2 Φ wf p m x y n b (a % b) S hb (Int.emod_nonneg _ h0) (by have := Int.emod_lt_of_pos a h1; have := Int.emod_nonneg a h0; omega)
      have e2 : Int.gcd b (a % b) = Int.gcd a b := by have := gcd_pm a b; simpa [pm, h1] using this
      rw [e2] at e
      rw [← e]
      simp [whileL, evT, ev_succ, evStep, es_succ, esStep, evB, evs, bind_ok, cmpD, R.of, tru, h1, mod_ok, setT, setN, setN.setNs]

def gcdF (g : Nat) (l : List Int) : Nat := l.foldl (fun g x => Int.gcd g x) g
def gcdL (l : List Int) : Nat := gcdF 0 l
theorem gcdL_eq (l : List Int) : gcdL l = gcdF 0 l := rfl
theorem gcdF_dvd : ∀ (l : List Int) (g : Nat), gcdF g l ∣ g ∧ ∀ x ∈ l, (gcdF g l : Int) ∣ x
  | [], g => ⟨Nat.dvd_refl _, fun _ h => nomatch h⟩
  | x :: l, g => by
    obtain ⟨h1, h2⟩ := gcdF_dvd l (Int.gcd g x)
    refine ⟨Nat.dvd_trans h1 ?_, fun y hy => ?_⟩
    · have := Int.gcd_dvd_left (g : Int) x
      exact Int.natCast_dvd_natCast.1 this
    · rcases List.mem_cons.1 hy with rfl | hy
      · exact Int.dvd_trans (Int.natCast_dvd_natCast.2 h1) (Int.gcd_dvd_right _ _)
      · exact h2 y hy
theorem gcdF_div : ∀ (l : List Int) (g d : Nat), d ≠ 0 → d ∣ g → (∀ x ∈ l, (d : Int) ∣ x) → gcdF (g / d) (l.map fun x => x / (d : Int)) = gcdF g l / d
  | [], g, d, _, _, _ => rfl
  | x :: l, g, d, h0, hg, hl => by
    have hx := hl x (List.mem_cons_self ..)
    have e : Int.gcd ((g / d : Nat) : Int) (x / (d : Int)) = Int.gcd g x / d := by
      rw [Int.natCast_ediv, Int.gcd_ediv (Int.natCast_dvd_natCast.2 hg) hx]; rfl
    show gcdF (Int.gcd ((g / d : Nat) : Int) (x / (d : Int))) _ = gcdF (Int.gcd g x) l / d
    rw [e]
    exact gcdF_div l _ d h0 (Int.dvd_gcd (Int.natCast_dvd_natCast.2 hg) hx) fun y hy => hl y (List.mem_cons_of_mem _ hy)
theorem gcdL_div {l : List Int} (h : gcdL l ≠ 0) : gcdL (l.map fun x => x / (gcdL l : Int)) = 1 := by
  have := gcdF_div l 0 (gcdL l) h (Nat.dvd_zero _) (gcdF_dvd l 0).2
  rw [Nat.zero_div] at this
  exact this.trans (Nat.div_self (Nat.pos_of_ne_zero h))
theorem gcdL_dvd {l : List Int} {x : Int} (h : x ∈ l) : (gcdL l : Int) ∣ x := (gcdF_dvd l 0).2 x h
theorem gcdL_le {l : List Int} {x : Int} (h : x ∈ l) (h0 : 0 < x) : (gcdL l : Int) ≤ x ∧ 0 < (gcdL l : Int) := by
  have h1 := gcdL_dvd h
  refine ⟨Int.le_of_dvd h0 h1, ?_⟩
  rcases Nat.eq_zero_or_pos (gcdL l) with h2 | h2
  · rw [h2] at h1; have := Int.zero_dvd.1 h1; omega
  · omega
theorem gcdL_pos {l : List Int} {x : Int} (h : x ∈ l) (h0 : x ≠ 0) : 0 < gcdL l := by
  rcases Nat.eq_zero_or_pos (gcdL l) with h2 | h2
  · have h1 := gcdL_dvd h
    rw [h2] at h1; exact absurd (Int.zero_dvd.1 h1) h0
  · exact h2
/-- a quotient by the divisor: a multiple that is taken back -/
theorem gcdL_mul {l : List Int} {x : Int} (h : x ∈ l) : (gcdL l : Int) * (x / (gcdL l : Int)) = x := Int.mul_ediv_cancel' (gcdL_dvd h)
end EW

/-! EW: fractions in least terms; bounds by bits. -/
namespace EW
/-- of at most n bits -/
def B (n : Nat) (x : Int) : Prop := x.natAbs ≤ 2 ^ n
theorem B.mul {m n : Nat} {x y : Int} (h : B m x) (h2 : B n y) : B (m + n) (x * y) := by
  unfold B at *
  rw [Int.natAbs_mul, Nat.pow_add]
  exact Nat.mul_le_mul h h2
theorem B.mono {m n : Nat} {x : Int} (h : B m x) (hn : m ≤ n) : B n x := Nat.le_trans h (Nat.pow_le_pow_right (by decide) hn)
theorem B.add {n : Nat} {x y : Int} (h : B n x) (h2 : B n y) : B (n + 1) (x + y) := by
  unfold B at *
  rw [Nat.pow_succ]
  have := Int.natAbs_add_le x y
  omega
theorem B.sub {n : Nat} {x y : Int} (h : B n x) (h2 : B n y) : B (n + 1) (x - y) := by
  unfold B at *
  rw [Nat.pow_succ]
  have := Int.natAbs_add_le x (-y)
  rw [Int.natAbs_neg] at this
  have e : x - y = x + -y := rfl
  rw [e]
  omega
theorem B.neg {n : Nat} {x : Int} (h : B n x) : B n (-x) := by unfold B at *; rw [Int.natAbs_neg]; exact h
theorem B.log {n : Nat} {x : Int} (h : B n x) : x.natAbs.log2 ≤ n := by
  unfold B at h
  rcases Nat.eq_zero_or_pos x.natAbs with h0 | h0
  · rw [h0]; simp
  · exact Nat.le_of_lt_succ ((Nat.log2_lt (by omega)).2 (Nat.lt_of_le_of_lt h (Nat.pow_lt_pow_right (by decide) (Nat.lt_succ_self n))))
theorem mul_B {m n : Nat} {x y : Int} {S : Hs} (h : B m x) (h2 : B n y) (hs : m + n < 1000000) : binD .mul (.int x) (.int y) S = some (.int (x * y)) := by
  have h3 := h.log
  have h4 := h2.log
  have : mulOk x y = true := by
    unfold mulOk
    rw [show Nat.blt (x.natAbs.log2 + y.natAbs.log2) 1000000 = true from Nat.ble_eq_true_of_le (by omega), Bool.or_true]
  simp [binD, this]
theorem fdiv_B {n : Nat} {x y : Int} {S : Hs} (h0 : 0 < y) (h : B n y) (hn : n < 9000) : binD .fdiv (.int x) (.int y) S = some (.int (x / y)) := by
  have h3 := h.log
  have : Nat.blt y.natAbs.log2 9000 = true := Nat.ble_eq_true_of_le (by omega)
  simp [binD, h0, this]

def rn (n d : Int) : Int := n / (Int.gcd n d : Int)
def rd (n d : Int) : Int := d / (Int.gcd n d : Int)
/-- n / d in least terms -/
def fr (n d : Int) : D := .tup [.int (rn n d), .int (rd n d)]
theorem gcd_pos {n d : Int} (h : 0 < d) : 0 < (Int.gcd n d : Int) := by
  have := Int.gcd_pos_of_ne_zero_right n (Int.ne_of_gt h)
  omega
theorem rn_mul {n d : Int} : (Int.gcd n d : Int) * rn n d = n := Int.mul_ediv_cancel' (Int.gcd_dvd_left n d)
theorem rd_mul {n d : Int} : (Int.gcd n d : Int) * rd n d = d := Int.mul_ediv_cancel' (Int.gcd_dvd_right n d)
theorem rd_pos {n d : Int} (h : 0 < d) : 0 < rd n d := Int.ediv_pos_of_pos_of_dvd h (Int.le_of_lt (gcd_pos h)) (Int.gcd_dvd_right n d)
theorem rd_le {n d : Int} (h : 0 < d) : rd n d ≤ d := Int.ediv_le_self _ (Int.le_of_lt h)
theorem r_cop {n d : Int} (h : 0 < d) : Int.gcd (rn n d) (rd n d) = 1 := by
  unfold rn rd
  rw [Int.gcd_ediv (Int.gcd_dvd_left n d) (Int.gcd_dvd_right n d), Int.natAbs_natCast]
  exact Nat.div_self (by have := gcd_pos (n := n) h; omega)
/-- cross products -/
theorem r_cross {n d : Int} (h : 0 < d) : rn n d * d = n * rd n d := by
  have h1 := rn_mul (n := n) (d := d)
  have h2 := rd_mul (n := n) (d := d)
  generalize hg : (Int.gcd n d : Int) = g at *
  generalize rn n d = a at *
  generalize rd n d = b at *
  rw [← h1, ← h2]; grind
theorem dvd_cop {a b c : Int} (h : b ∣ a * c) (hg : Int.gcd a b = 1) : b ∣ c := by
  have h1 := Int.natAbs_dvd_natAbs.2 h
  rw [Int.natAbs_mul, Nat.mul_comm] at h1
  have h2 : Nat.Coprime b.natAbs a.natAbs := by
    have : Nat.gcd a.natAbs b.natAbs = 1 := hg
    exact Nat.Coprime.symm this
  exact Int.natAbs_dvd_natAbs.1 (h2.dvd_of_dvd_mul_right h1)
theorem cop_eq {a b a' b' : Int} (hb : 0 < b) (hb' : 0 < b') (h : Int.gcd a b = 1) (h' : Int.gcd a' b' = 1) (e : a * b' = a' * b) : a = a' ∧ b = b' := by
  have d1 : b ∣ b' := by
    have : b ∣ a * b' := ⟨a', by rw [e, Int.mul_comm]⟩
    exact dvd_cop this h
  have d2 : b' ∣ b := by
    have : b' ∣ a' * b := ⟨a, by rw [← e, Int.mul_comm]⟩
    exact dvd_cop this h'
  have hbb : b = b' := Int.le_antisymm (Int.le_of_dvd hb' d1) (Int.le_of_dvd hb d2)
  refine ⟨?_, hbb⟩
  subst hbb
  exact Int.eq_of_mul_eq_mul_right (Int.ne_of_gt hb) e
theorem r_eq {n d n' d' : Int} (h : 0 < d) (h' : 0 < d') (e : n * d' = n' * d) : rn n d = rn n' d' ∧ rd n d = rd n' d' := by
  refine cop_eq (rd_pos h) (rd_pos h') (r_cop h) (r_cop h') ?_
  have g1 := gcd_pos (n := n) h
  have g2 := gcd_pos (n := n') h'
  have a1 := rn_mul (n := n) (d := d)
  have a2 := rd_mul (n := n) (d := d)
  have b1 := rn_mul (n := n') (d := d')
  have b2 := rd_mul (n := n') (d := d')
  generalize (Int.gcd n d : Int) = g at *
  generalize (Int.gcd n' d' : Int) = g' at *
  generalize rn n d = x at *
  generalize rd n d = y at *
  generalize rn n' d' = x' at *
  generalize rd n' d' = y' at *
  have hgg : g * g' ≠ 0 := Int.ne_of_gt (Int.mul_pos g1 g2)
  apply Int.eq_of_mul_eq_mul_left hgg
  rw [← a1, ← a2, ← b1, ← b2] at e
  grind
theorem fr_eq {n d n' d' : Int} (h : 0 < d) (h' : 0 < d') (e : n * d' = n' * d) : fr n d = fr n' d' := by
  obtain ⟨a, b⟩ := r_eq h h' e
  unfold fr; rw [a, b]
theorem bdiv {a g : Int} {m : Nat} (h : a.natAbs ≤ m) (h0 : 0 < g) : (a / g).natAbs ≤ m := by
  have h1 := Int.ediv_mul_le a (Int.ne_of_gt h0)
  rcases Int.lt_or_le a 0 with ha | ha
  · have h3 : a ≤ a / g := by
      have h4 : a / g < 0 := Int.ediv_neg_of_neg_of_pos ha h0
      rw [Int.le_ediv_iff_mul_le h0]
      have : 0 ≤ (-a) * (g - 1) := Int.mul_nonneg (by omega) (by omega)
      rw [Int.mul_sub, Int.mul_one, Int.neg_mul] at this
      omega
    have h4 : a / g < 0 := Int.ediv_neg_of_neg_of_pos ha h0
    omega
  · have h3 : a / g ≤ a := Int.ediv_le_self _ ha
    have h4 : 0 ≤ a / g := Int.ediv_nonneg ha (by omega)
    omega
theorem B.ediv {n : Nat} {x g : Int} (h : B n x) (h0 : 0 < g) : B n (x / g) := bdiv h h0
theorem B.rn {n : Nat} {x d : Int} (h : B n x) (h0 : 0 < d) : B n (rn x d) := h.ediv (gcd_pos h0)
theorem B.rd {n : Nat} {x d : Int} (h : B n d) (h0 : 0 < d) : B n (rd x d) := h.ediv (gcd_pos h0)
theorem B.gcd {n : Nat} {x d : Int} (h : B n d) (h0 : 0 < d) : B n (Int.gcd x d : Int) := by
  have h1 := Int.le_of_dvd h0 (Int.gcd_dvd_right x d)
  have h2 := gcd_pos (n := x) h0
  unfold B at *
  omega
theorem B.lt {n : Nat} {x : Int} {m : Nat} (h : B n x) (hm : 2 ^ n < m) : x.natAbs < m := Nat.lt_of_le_of_lt h hm
end EW

namespace LW
open PySem EW
def topS (i : Nat) : Stmt := PySem.Challenge.pw_earthworks_k71_errors_of_bags.main.body.getD i (.Pass ⟨0, 0, 0, 0⟩)
def iso_InvalidNumber : List (Nat × Bool) := [(0, false), (1, false), (2, false), (3, false), (4, false), (5, true), (6, false)]
def iso_InvalidText : List (Nat × Bool) := [(0, false), (1, false), (2, false), (3, false), (4, false), (5, false), (6, true)]
def iso_InvalidWorths : List (Nat × Bool) := [(0, false), (1, false), (2, false), (3, true), (4, false), (5, false), (6, false)]
def iso_InvalidPaper : List (Nat × Bool) := [(0, false), (1, false), (2, false), (3, false), (4, true), (5, false), (6, false)]
def iso_InvalidName : List (Nat × Bool) := [(0, false), (1, true), (2, false), (3, false), (4, false), (5, false), (6, false)]
def iso_InvalidBook : List (Nat × Bool) := [(0, false), (1, false), (2, true), (3, false), (4, false), (5, false), (6, false)]
def iso_ValueError : List (Nat × Bool) := [(0, true), (1, true), (2, true), (3, true), (4, true), (5, true), (6, true)]
def wl__law_word : List Nat := []
def wt__law_word : List (Nat × D) := [(0, .str [111, 116, 104, 101, 114]), (1, .str [110, 97, 109, 101]), (2, .str [98, 111, 111, 107]), (3, .str [119, 111, 114, 116, 104, 115]), (4, .str [112, 97, 112, 101, 114]), (5, .str [110, 117, 109, 98, 101, 114]), (6, .str [116, 101, 120, 116])]
def w__law_word : WI := ⟨"_law_word", topS 56, ["call", "error", "marks", "words", "word", "good"], "call", "error", 1, "EarthError", [.set (.nm 2) (.lst [(.isx 1 iso_InvalidNumber), (.isx 1 iso_InvalidText), (.isx 1 iso_InvalidWorths)]), .set (.nm 2) (.bin .add (.var 2) (.lst [(.isx 1 iso_InvalidPaper), (.isx 1 iso_InvalidName), (.isx 1 iso_InvalidBook)])), .set (.nm 3) (.comp [4, 5] (.tup [(.nm 4), (.nm 5)]) (.zip (.spl (.str [110, 117, 109, 98, 101, 114, 32, 116, 101, 120, 116, 32, 119, 111, 114, 116, 104, 115, 32, 112, 97, 112, 101, 114, 32, 110, 97, 109, 101, 32, 98, 111, 111, 107]) (.str [32])) (.var 2)) (some (.var 5)) (.var 4)), .ret (.ite (.and (.cmp .ne (.var 3) (.lst [])) (.isx 1 iso_ValueError)) (.join (.str []) (.var 3)) (.str [111, 116, 104, 101, 114]))], wl__law_word, wt__law_word⟩
def f0 : FI := ⟨"fits_whole", topS 9, ["value", "low", "high"], ["value", "low", "high"], ⟨3, 3, false, [.ret (.and (.isi (.var 0) .int) (.and (.not (.isi (.var 0) .bool)) (.chain .le .le (.var 1) (.var 0) (.var 2))))]⟩⟩
def f1 : FI := ⟨"is_tuple_of", topS 10, ["value", "least", "most"], ["value", "least", "most"], ⟨3, 3, false, [.ret (.and (.isi (.var 0) .tuple) (.chain .le .le (.var 1) (.bi .len [(.var 0)]) (.var 2)))]⟩⟩
def f2 : FI := ⟨"is_rising", topS 18, ["values", "one", "other"], ["values"], ⟨1, 3, false, [.ret (.bi .all [(.comp [1, 2] (.tup [(.nm 1), (.nm 2)]) (.zip (.var 0) (.slc (.var 0) (some (.int 1)) none)) none (.cmp .lt (.var 1) (.var 2)))])]⟩⟩
def f3 : FI := ⟨"need_number", topS 19, ["value", "low", "high"], ["value", "low", "high"], ⟨3, 3, false, [.ifs (.not (.call 0 [(.var 0), (.var 1), (.var 2)])) [.raiseE 5 (.bin .add (.bin .add (.bin .add (.str [110, 111, 116, 32, 102, 114, 111, 109, 32]) (.bi .str [(.var 1)])) (.str [32, 116, 111, 32])) (.bi .str [(.var 2)]))] []]⟩⟩
def f4 : FI := ⟨"weighed", topS 20, ["signs", "at", "sign"], ["signs"], ⟨1, 3, false, [.ret (.bi .sum [(.comp [1, 2] (.tup [(.nm 1), (.nm 2)]) (.enum (.rev (.var 0))) none (.bin .mul (.sidx (.glo (.str [48, 49, 50, 51, 52, 53, 54, 55, 56, 57, 120])) (.var 2)) (.bin .add (.var 1) (.int 1))))])]⟩⟩
def f5 : FI := ⟨"tag_in", topS 21, ["number", "digits", "rows", "sign"], ["number"], ⟨1, 4, false, [.set (.nm 1) (.bi .str [(.var 0)]), .set (.nm 2) (.comp [3] (.nm 3) (.seq (.glo (.str [48, 49, 50, 51, 52, 53, 54, 55, 56, 57, 120]))) (some (.cmp .eq (.bin .mod (.call 4 [(.bin .add (.var 1) (.var 3))]) (.int 11)) (.int 0))) (.var 3)), .ret (.bin .add (.bin .add (.var 1) (.str [45])) (.idx (.var 2) (.int 0)))]⟩⟩
def f6 : FI := ⟨"fits_digits", topS 22, ["value", "sign"], ["value"], ⟨1, 2, false, [.ret (.and (.chain .le .le (.int 1) (.bi .len [(.var 0)]) (.int 6)) (.and (.bi .all [(.comp [1] (.nm 1) (.seq (.var 0)) none (.cmp .isin (.var 1) (.glo (.str [48, 49, 50, 51, 52, 53, 54, 55, 56, 57]))))]) (.cmp .ne (.idx (.var 0) (.int 0)) (.str [48]))))]⟩⟩
def f7 : FI := ⟨"fits_tag", topS 23, ["value"], ["value"], ⟨1, 1, false, [.ifs (.or (.not (.isi (.var 0) .str)) (.or (.cmp .lt (.bi .len [(.var 0)]) (.int 3)) (.or (.cmp .ne (.idx (.var 0) (.neg (.int 2))) (.str [45])) (.not (.call 6 [(.slc (.var 0) none (some (.neg (.int 2))))]))))) [.ret (.bl false)] [], .ret (.cmp .eq (.var 0) (.call 5 [(.bi .int [(.slc (.var 0) none (some (.neg (.int 2))))])]))]⟩⟩
def f8 : FI := ⟨"fits_written", topS 24, ["value", "sign"], ["value"], ⟨1, 2, false, [.ifs (.or (.not (.isi (.var 0) .str)) (.or (.not (.chain .le .le (.int 3) (.bi .len [(.var 0)]) (.int 8))) (.cmp .ne (.idx (.var 0) (.neg (.int 2))) (.str [45])))) [.ret (.bl false)] [], .ret (.and (.bi .all [(.comp [1] (.nm 1) (.seq (.slc (.var 0) none (some (.neg (.int 2))))) none (.cmp .isin (.var 1) (.glo (.str [48, 49, 50, 51, 52, 53, 54, 55, 56, 57]))))]) (.cmp .isin (.idx (.var 0) (.neg (.int 1))) (.glo (.str [48, 49, 50, 51, 52, 53, 54, 55, 56, 57, 120]))))]⟩⟩
def f9 : FI := ⟨"near_in", topS 25, ["text", "signs", "found", "at", "sign", "one"], ["text"], ⟨1, 6, false, [.set (.nm 1) (.bin .add (.slc (.var 0) none (some (.neg (.int 2)))) (.idx (.var 0) (.neg (.int 1)))), .bad, .ext 2 (.comp [3] (.nm 3) (.rng1 (.bin .sub (.bi .len [(.var 1)]) (.int 1))) none (.bin .add (.bin .add (.bin .add (.slc (.var 1) none (some (.var 3))) (.idx (.var 1) (.bin .add (.var 3) (.int 1)))) (.idx (.var 1) (.var 3))) (.slc (.var 1) (some (.bin .add (.var 3) (.int 2))) none))), .ret (.comp [5] (.nm 5) (.seq (.var 2)) (some (.cmp .ne (.var 5) (.var 1))) (.bin .add (.bin .add (.slc (.var 5) none (some (.neg (.int 1)))) (.str [45])) (.idx (.var 5) (.neg (.int 1)))))]⟩⟩
def f10 : FI := ⟨"fits_numbers", topS 26, ["value", "one"], ["value"], ⟨1, 2, false, [.ret (.and (.call 1 [(.var 0), (.int 0), (.glo (.int 200))]) (.and (.bi .all [(.comp [1] (.nm 1) (.seq (.var 0)) none (.call 0 [(.var 1), (.int 1), (.glo (.int 999999))]))]) (.call 2 [(.var 0)])))]⟩⟩
def f11 : FI := ⟨"need_numbers", topS 27, ["value"], ["value"], ⟨1, 1, false, [.ifs (.not (.call 10 [(.var 0)])) [.raise 3] []]⟩⟩
def f12 : FI := ⟨"runs_in", topS 28, ["numbers", "found", "number"], ["numbers"], ⟨1, 3, false, [.set (.nm 1) (.mlst []), .for_ (.nm 2) (.seq (.var 0)) [.ifs (.and (.cmp .ne (.var 1) (.lst [])) (.cmp .eq (.idx (.idx (.var 1) (.neg (.int 1))) (.int 1)) (.bin .sub (.var 2) (.int 1)))) [.set (.sub (.var 1) (.neg (.int 1))) (.tup [(.idx (.idx (.var 1) (.neg (.int 1))) (.int 0)), (.var 2)])] [.expr (.mth .append (.var 1) [(.tup [(.var 2), (.var 2)])])]], .ret (.var 1)]⟩⟩
def f13 : FI := ⟨"text_in", topS 29, ["numbers", "one", "other"], ["numbers"], ⟨1, 3, false, [.ret (.join (.str [44, 32]) (.comp [1, 2] (.tup [(.nm 1), (.nm 2)]) (.seq (.call 12 [(.var 0)])) none (.ite (.cmp .eq (.var 1) (.var 2)) (.bi .str [(.var 1)]) (.bin .add (.bin .add (.bi .str [(.var 1)]) (.str [45])) (.bi .str [(.var 2)])))))]⟩⟩
def f14 : FI := ⟨"read_in", topS 30, ["text", "found", "part", "ends", "low", "high", "end"], ["text"], ⟨1, 7, false, [.set (.nm 1) (.mlst []), .for_ (.nm 2) (.seq (.ite (.cmp .ne (.var 0) (.str [])) (.spl (.var 0) (.str [44, 32])) (.lst []))) [.set (.nm 3) (.spl (.var 2) (.str [45])), .ifs (.or (.cmp .gt (.bi .len [(.var 3)]) (.int 2)) (.not (.bi .all [(.comp [6] (.nm 6) (.seq (.var 3)) none (.call 6 [(.var 6)]))]))) [.ret .non] [], .set (.tup [(.nm 4), (.nm 5)]) (.tup [(.bi .int [(.idx (.var 3) (.int 0))]), (.bi .int [(.idx (.var 3) (.neg (.int 1)))])]), .ifs (.or (.cmp .ge (.bin .sub (.var 5) (.var 4)) (.glo (.int 200))) (.cmp .ge (.bin .sub (.bin .add (.bi .len [(.var 1)]) (.var 5)) (.var 4)) (.glo (.int 200)))) [.ret .non] [], .ext 1 (.lrng (.var 4) (.bin .add (.var 5) (.int 1)))], .ret (.ite (.and (.call 2 [(.var 1)]) (.cmp .eq (.call 13 [(.var 1)]) (.var 0))) (.var 1) .non)]⟩⟩
def f15 : FI := ⟨"need_register", topS 31, ["value"], ["value"], ⟨1, 1, false, [.ifs (.or (.not (.isi (.var 0) .str)) (.or (.cmp .gt (.bi .len [(.var 0)]) (.bin .mul (.glo (.int 1000)) (.int 10))) (.cmp .is (.call 14 [(.var 0)]) .non))) [.raise 6] []]⟩⟩
def f16 : FI := ⟨"need_row", topS 32, ["value", "one"], ["value"], ⟨1, 2, false, [.ifs (.or (.not (.call 1 [(.var 0), (.int 0), (.glo (.int 200))])) (.not (.bi .all [(.comp [1] (.nm 1) (.seq (.var 0)) none (.call 0 [(.var 1), (.int 1), (.glo (.int 999999))]))]))) [.raise 3] []]⟩⟩
def f17 : FI := ⟨"need_load", topS 33, ["weights", "most", "many", "weight", "one"], ["weights", "most", "many"], ⟨3, 5, false, [.ifs (.or (.not (.call 1 [(.var 0), (.int 0), (.glo (.int 200))])) (.not (.bi .all [(.comp [4] (.nm 4) (.seq (.var 0)) none (.call 0 [(.var 4), (.int 1), (.glo (.int 10000))]))]))) [.raise 3] [], .expr (.call 3 [(.var 1), (.int 1), (.glo (.int 10000))]), .expr (.call 3 [(.var 2), (.int 1), (.glo (.int 200))]), .ifs (.bi .any [(.comp [3] (.nm 3) (.seq (.var 0)) none (.cmp .gt (.var 3) (.var 1)))]) [.raise 4] []]⟩⟩
def f18 : FI := ⟨"in_one", topS 34, ["weights", "most", "many"], ["weights", "most", "many"], ⟨3, 3, false, [.ret (.and (.cmp .le (.bi .len [(.var 0)]) (.var 2)) (.cmp .le (.bi .sum [(.var 0)]) (.var 1)))]⟩⟩
def f19 : FI := ⟨"late_in", topS 35, ["weights", "most", "many", "found", "at"], ["weights", "most", "many"], ⟨3, 5, false, [.set (.nm 3) (.mlst []), .for_ (.nm 4) (.rng1 (.bi .len [(.var 0)])) [.ifs (.or (.cmp .eq (.var 3) (.lst [])) (.not (.call 18 [(.slc (.var 0) (some (.idx (.var 3) (.neg (.int 1)))) (some (.bin .add (.var 4) (.int 1)))), (.var 1), (.var 2)]))) [.expr (.mth .append (.var 3) [(.var 4)])] []], .ret (.var 3)]⟩⟩
def f20 : FI := ⟨"early_in", topS 36, ["weights", "most", "many", "behind", "ends", "at"], ["weights", "most", "many"], ⟨3, 6, false, [.set (.nm 3) (.call 19 [(.rev (.var 0)), (.var 1), (.var 2)]), .set (.nm 4) (.comp [5] (.nm 5) (.seq (.var 3)) none (.bin .sub (.bi .len [(.var 0)]) (.var 5))), .ret (.ite (.cmp .ne (.var 0) (.tup [])) (.bi .sorted [(.bin .add (.slc (.var 4) (some (.int 1)) none) (.lst [(.int 0)]))]) (.lst []))]⟩⟩
def f21 : FI := ⟨"tag_of", topS 37, ["number"], ["number"], ⟨1, 1, false, [.expr (.call 3 [(.var 0), (.int 1), (.glo (.int 999999))]), .ret (.call 5 [(.var 0)])]⟩⟩
def f22 : FI := ⟨"is_tag", topS 38, ["value"], ["value"], ⟨1, 1, false, [.ret (.call 7 [(.var 0)])]⟩⟩
def f23 : FI := ⟨"number_of", topS 39, ["tag"], ["tag"], ⟨1, 1, false, [.ifs (.not (.call 7 [(.var 0)])) [.raise 6] [], .ret (.bi .int [(.slc (.var 0) none (some (.neg (.int 2))))])]⟩⟩
def f24 : FI := ⟨"likely_tags", topS 40, ["text", "one"], ["text"], ⟨1, 2, false, [.ifs (.not (.call 8 [(.var 0)])) [.raise 6] [], .bad]⟩⟩
def f25 : FI := ⟨"register_of", topS 41, ["numbers"], ["numbers"], ⟨1, 1, false, [.expr (.call 11 [(.var 0)]), .ret (.call 13 [(.var 0)])]⟩⟩
def f26 : FI := ⟨"is_register", topS 42, ["value"], ["value"], ⟨1, 1, false, [.ret (.and (.isi (.var 0) .str) (.and (.cmp .le (.bi .len [(.var 0)]) (.bin .mul (.glo (.int 1000)) (.int 10))) (.cmp .isnt (.call 14 [(.var 0)]) .non)))]⟩⟩
def f27 : FI := ⟨"numbers_of", topS 43, ["register"], ["register"], ⟨1, 1, false, [.expr (.call 15 [(.var 0)]), .ret (.bi .tuple [(.call 14 [(.var 0)])])]⟩⟩
def f28 : FI := ⟨"gaps_of", topS 44, ["register", "found", "ends", "one", "other", "number", "low", "high"], ["register"], ⟨1, 8, false, [.expr (.call 15 [(.var 0)]), .set (.nm 1) (.call 14 [(.var 0)]), .ifs (.and (.cmp .ne (.var 1) (.lst [])) (.cmp .gt (.bin .sub (.bin .add (.bin .sub (.idx (.var 1) (.neg (.int 1))) (.idx (.var 1) (.int 0))) (.int 1)) (.bi .len [(.var 1)])) (.glo (.int 200)))) [.raise 4] [], .set (.nm 2) (.comp [3, 4] (.tup [(.nm 3), (.nm 4)]) (.zip (.var 1) (.slc (.var 1) (some (.int 1)) none)) none (.tup [(.bin .add (.var 3) (.int 1)), (.var 4)])), .bad]⟩⟩
def f29 : FI := ⟨"without", topS 45, ["register", "other", "gone", "one"], ["register", "other"], ⟨2, 4, false, [.expr (.call 15 [(.var 0)]), .expr (.call 15 [(.var 1)]), .set (.nm 2) (.call 14 [(.var 1)]), .ret (.call 13 [(.comp [3] (.nm 3) (.seq (.call 14 [(.var 0)])) (some (.cmp .notin (.var 3) (.var 2))) (.var 3))])]⟩⟩
def f30 : FI := ⟨"written_twice", topS 46, ["row", "one"], ["row"], ⟨1, 2, false, [.expr (.call 16 [(.var 0)]), .bad]⟩⟩
def f31 : FI := ⟨"slip_of", topS 47, ["many", "total", "squares", "more", "wide", "double"], ["many", "total", "squares"], ⟨3, 6, false, [.expr (.call 3 [(.var 0), (.int 1), (.glo (.int 1000))]), .expr (.call 3 [(.var 1), (.int 0), (.bin .mul (.glo (.int 1000)) (.glo (.int 1000)))]), .expr (.call 3 [(.var 2), (.int 0), (.bin .mul (.bin .mul (.glo (.int 1000)) (.glo (.int 1000))) (.glo (.int 1000)))]), .set (.nm 3) (.bin .sub (.var 1) (.bin .fdiv (.bin .mul (.var 0) (.bin .add (.var 0) (.int 1))) (.int 2))), .set (.nm 4) (.bin .sub (.var 2) (.bin .fdiv (.bin .mul (.bin .mul (.var 0) (.bin .add (.var 0) (.int 1))) (.bin .add (.bin .mul (.int 2) (.var 0)) (.int 1))) (.int 6))), .ifs (.or (.cmp .eq (.var 3) (.int 0)) (.or (.cmp .ne (.bin .mod (.var 4) (.var 3)) (.int 0)) (.cmp .ne (.bin .mod (.bin .add (.bin .fdiv (.var 4) (.var 3)) (.var 3)) (.int 2)) (.int 0)))) [.ret .non] [], .set (.nm 5) (.bin .fdiv (.bin .add (.bin .fdiv (.var 4) (.var 3)) (.var 3)) (.int 2)), .ret (.ite (.and (.chain .le .le (.int 1) (.var 5) (.var 0)) (.chain .le .le (.int 1) (.bin .sub (.var 5) (.var 3)) (.var 0))) (.tup [(.bin .sub (.var 5) (.var 3)), (.var 5)]) .non)]⟩⟩
def f32 : FI := ⟨"fewest_boxes", topS 48, ["weights", "most", "many"], ["weights", "most", "many"], ⟨3, 3, false, [.expr (.call 17 [(.var 0), (.var 1), (.var 2)]), .ret (.bi .len [(.call 19 [(.var 0), (.var 1), (.var 2)])])]⟩⟩
def f33 : FI := ⟨"box_starts", topS 49, ["weights", "most", "many"], ["weights", "most", "many"], ⟨3, 3, false, [.expr (.call 17 [(.var 0), (.var 1), (.var 2)]), .ret (.bi .tuple [(.lzip (.call 20 [(.var 0), (.var 1), (.var 2)]) (.call 19 [(.var 0), (.var 1), (.var 2)]))])]⟩⟩
def f34 : FI := ⟨"are_boxes", topS 50, ["weights", "most", "many", "value", "one", "two"], ["weights", "most", "many", "value"], ⟨4, 6, false, [.expr (.call 17 [(.var 0), (.var 1), (.var 2)]), .ifs (.or (.not (.isi (.var 3) .tuple)) (.not (.bi .all [(.comp [4] (.nm 4) (.seq (.var 3)) none (.call 0 [(.var 4), (.int 0), (.bin .sub (.bi .len [(.var 0)]) (.int 1))]))]))) [.ret (.bl false)] [], .ifs (.or (.not (.call 2 [(.var 3)])) (.cmp .ne (.slc (.var 3) none (some (.int 1))) (.bin .mul (.tup [(.int 0)]) (.bi .min2 [(.int 1), (.bi .len [(.var 0)])])))) [.ret (.bl false)] [], .ret (.bi .all [(.comp [4, 5] (.tup [(.nm 4), (.nm 5)]) (.zip (.var 3) (.bin .add (.slc (.var 3) (some (.int 1)) none) (.tup [(.bi .len [(.var 0)])]))) none (.call 18 [(.slc (.var 0) (some (.var 4)) (some (.var 5))), (.var 1), (.var 2)]))])]⟩⟩
def f35 : FI := ⟨"_law_cup", topS 52, ["script", "cell"], ["script"], ⟨1, 2, true, [.set (.nm 1) (.bi .abs [(.idx (.bin .add (.bi .list [(.var 0)]) (.lst [(.int 0)])) (.int 0))]), .ret (.mlst [(.ite (.cmp .ge (.var 1) (.bin .pow (.int 10) (.int 18))) (.bin .fdiv (.var 1) (.int 101)) (.int 0)), (.bin .add (.bin .mod (.bi .int [(.bin .add (.bin .mul (.var 1) (.int 347)) (.int 3929))]) (.int 2077502087)) (.int 223))])]⟩⟩
def f36 : FI := ⟨"_law_roll", topS 53, ["cup", "many", "deep", "found"], ["cup", "many"], ⟨2, 4, false, [.ifs (.cmp .gt (.idx (.var 0) (.int 0)) (.int 0)) [.set (.nm 3) (.bin .mod (.bi .int [(.idx (.var 0) (.int 0))]) (.var 1)), .set (.sub (.var 0) (.int 0)) (.bin .fdiv (.idx (.var 0) (.int 0)) (.var 1)), .ret (.var 3)] [], .set (.sub (.var 0) (.int 1)) (.bin .mod (.bi .int [(.bin .add (.bin .mul (.idx (.var 0) (.int 1)) (.int 30757)) (.int 7793))]) (.int 2147482951)), .set (.nm 2) (.bin .mod (.bi .int [(.bin .mul (.idx (.var 0) (.int 1)) (.bin .add (.idx (.var 0) (.int 1)) (.int 239)))]) (.int 2147483059)), .ret (.bin .mod (.bi .int [(.bin .fdiv (.var 2) (.int 839))]) (.var 1))]⟩⟩
def f37 : FI := ⟨"_law_some", topS 54, ["cup", "things"], ["cup", "things"], ⟨2, 2, false, [.ret (.idx (.var 1) (.call 36 [(.var 0), (.bi .len [(.var 1)])]))]⟩⟩
def f38 : FI := ⟨"_law_same", topS 55, ["told", "due", "at"], ["told", "due"], ⟨2, 3, false, [.ifs (.isi (.var 1) .tuple) [.ifs (.or (.not (.isi (.var 0) .tuple)) (.cmp .ne (.bi .len [(.var 0)]) (.bi .len [(.var 1)]))) [.ret (.bl false)] [], .ret (.bi .all [(.comp [2] (.nm 2) (.rng1 (.bi .len [(.var 1)])) none (.call 38 [(.idx (.var 0) (.var 2)), (.idx (.var 1) (.var 2))]))])] [], .ifs (.cmp .is (.var 1) .non) [.ret (.cmp .is (.var 0) .non)] [], .ifs (.isi (.var 1) .bool) [.ret (.ite (.var 1) (.cmp .is (.var 0) (.bl true)) (.cmp .is (.var 0) (.bl false)))] [], .ifs (.isi (.var 1) .int) [.ret (.and (.isi (.var 0) .int) (.and (.not (.isi (.var 0) .bool)) (.cmp .eq (.bi .int [(.var 0)]) (.var 1))))] [], .ret (.and (.isi (.var 0) .str) (.cmp .eq (.bi .str [(.var 0)]) (.var 1)))]⟩⟩
def f39 : FI := ⟨"_law_load_words", topS 57, ["weights", "most", "many", "words", "call"], ["weights", "most", "many"], ⟨3, 5, false, [.set (.nm 3) (.comp [4] (.nm 4) (.seq (.tup [(.glo (.fn 32)), (.glo (.fn 33))])) none (.word (.str wl__law_word) wt__law_word (.callv 4 [32, 33] [(.var 0), (.var 1), (.var 2)]))), .ret (.bin .add (.var 3) (.lst [(.word (.str wl__law_word) wt__law_word (.call 34 [(.var 0), (.var 1), (.var 2), .non]))]))]⟩⟩
def f40 : FI := ⟨"_law_texts_right", topS 58, ["odd", "words", "call"], [], ⟨0, 3, false, [.for_ (.nm 0) (.seq (.tup [.non, (.str []), (.str [49, 45, 56]), (.str [120, 45, 54]), (.str [48, 49, 45, 57]), (.str [49, 45, 57, 32]), (.str [49, 57]), (.int 5), (.tup [(.str [49, 45, 57])]), (.str [49, 50, 51, 52, 53, 54, 55, 45, 48]), (.str [49, 95, 57])])) [.ifs (.or (.cmp .ne (.word (.str wl__law_word) wt__law_word (.call 23 [(.var 0)])) (.str [116, 101, 120, 116])) (.cmp .isnt (.call 22 [(.var 0)]) (.bl false))) [.ret (.bl false)] []], .for_ (.nm 0) (.seq (.tup [.non, (.str []), (.str [49]), (.str [49, 45]), (.str [45, 49]), (.str [49, 57]), (.str [49, 50, 45, 51, 52]), (.str [49, 50, 51, 52, 53, 54, 55, 45, 48]), (.str [97, 45, 49]), (.str [49, 45, 88]), (.str [120, 45, 49]), (.str [49, 45, 45]), (.int 5), (.tup [(.str [49, 45, 57])]), (.str [32, 49, 45, 57])])) [.ifs (.cmp .ne (.word (.str wl__law_word) wt__law_word (.call 24 [(.var 0)])) (.str [116, 101, 120, 116])) [.ret (.bl false)] []], .for_ (.nm 0) (.seq (.tup [.non, (.str [48]), (.str [49, 44, 50]), (.str [50, 44, 32, 49]), (.str [49, 44, 32, 50]), (.str [49, 45, 49]), (.str [50, 45, 49]), (.str [48, 49]), (.str [49, 45, 50, 48, 49]), (.str [49, 48, 48, 48, 48, 48, 48]), (.str [49, 44, 32]), (.str [97]), (.str [49, 45, 50, 45, 51]), (.int 5), (.tup [(.str [49])]), (.str [45, 49]), (.str [32, 49])])) [.set (.nm 1) (.mcomp [2] (.nm 2) (.seq (.tup [(.glo (.fn 27)), (.glo (.fn 28))])) none (.word (.str wl__law_word) wt__law_word (.callv 2 [27, 28] [(.var 0)]))), .expr (.mth .append (.var 1) [(.word (.str wl__law_word) wt__law_word (.call 29 [(.var 0), .non]))]), .expr (.mth .append (.var 1) [(.word (.str wl__law_word) wt__law_word (.call 29 [(.str [49]), (.var 0)]))]), .ifs (.or (.cmp .ne (.var 1) (.bin .mul (.lst [(.str [116, 101, 120, 116])]) (.int 4))) (.cmp .isnt (.call 26 [(.var 0)]) (.bl false))) [.ret (.bl false)] []], .ret (.bl true)]⟩⟩
def f41 : FI := ⟨"law", topS 59, ["script", "cup", "odd", "words", "rows", "weights", "many", "total", "squares"], ["script"], ⟨1, 9, false, [.set (.nm 1) (.call 35 [(.var 0)]), .for_ (.nm 2) (.seq (.tup [.non, (.int 0), (.neg (.int 1)), (.int 1000000), (.bl true), (.str [49]), (.tup [(.int 1)]), (.bin .pow (.int 10) (.int 20))])) [.ifs (.cmp .ne (.word (.str wl__law_word) wt__law_word (.call 21 [(.var 2)])) (.str [110, 117, 109, 98, 101, 114])) [.ret (.bl false)] []], .ifs (.not (.call 40 [])) [.ret (.bl false)] [], .for_ (.nm 2) (.seq (.tup [.non, (.lst [(.int 1)]), (.tup [(.int 0)]), (.tup [(.int 1000000)]), (.tup [(.int 2), (.int 1)]), (.tup [(.int 1), (.int 1)]), (.tup [(.bl true)]), (.tup [(.str [49])]), (.tup [(.int 1), .non]), (.int 5), (.bi .tuple [(.lrng (.int 1) (.int 202))])])) [.ifs (.cmp .ne (.word (.str wl__law_word) wt__law_word (.call 25 [(.var 2)])) (.str [119, 111, 114, 116, 104, 115])) [.ret (.bl false)] []], .for_ (.nm 2) (.seq (.tup [.non, (.lst [(.int 1)]), (.tup [(.int 0)]), (.tup [(.int 1000000)]), (.tup [(.bl true)]), (.tup [(.str [49])]), (.tup [(.int 1), .non]), (.int 5), (.bin .mul (.tup [(.int 7)]) (.int 201))])) [.ifs (.cmp .ne (.word (.str wl__law_word) wt__law_word (.call 30 [(.var 2)])) (.str [119, 111, 114, 116, 104, 115])) [.ret (.bl false)] []], .set (.nm 3) (.mlst [(.word (.str wl__law_word) wt__law_word (.call 25 [(.bi .tuple [(.lrng (.int 1) (.int 201))])]))]), .expr (.mth .append (.var 3) [(.word (.str wl__law_word) wt__law_word (.call 28 [(.str [49, 44, 32, 50, 48, 51])]))]), .expr (.mth .append (.var 3) [(.word (.str wl__law_word) wt__law_word (.call 28 [(.str [49, 45, 57, 57, 44, 32, 51, 48, 49])]))]), .ifs (.cmp .ne (.var 3) (.lst [(.str []), (.str [112, 97, 112, 101, 114]), (.str [112, 97, 112, 101, 114])])) [.ret (.bl false)] [], .set (.nm 4) (.lst [(.tup [.non, (.int 1), (.int 1)]), (.tup [(.int 0), (.int 1), (.int 1)]), (.tup [(.int 1001), (.int 1), (.int 1)]), (.tup [(.bl true), (.int 1), (.int 1)]), (.tup [(.int 5), .non, (.int 1)]), (.tup [(.int 5), (.neg (.int 1)), (.int 1)]), (.tup [(.int 5), (.int 1000001), (.int 1)]), (.tup [(.int 5), (.int 1), .non]), (.tup [(.int 5), (.int 1), (.neg (.int 1))])]), .set (.nm 4) (.bin .add (.var 4) (.lst [(.tup [(.int 5), (.int 1), (.bin .add (.bin .pow (.int 10) (.int 9)) (.int 1))])])), .for_ (.tup [(.nm 6), (.nm 7), (.nm 8)]) (.seq (.bin .add (.var 4) (.lst [(.tup [(.str [53]), (.int 1), (.int 1)]), (.tup [(.int 5), (.str [49]), (.int 1)]), (.tup [(.int 5), (.int 1), (.bl true)])]))) [.ifs (.cmp .ne (.word (.str wl__law_word) wt__law_word (.call 31 [(.var 6), (.var 7), (.var 8)])) (.str [110, 117, 109, 98, 101, 114])) [.ret (.bl false)] []], .for_ (.nm 2) (.seq (.tup [.non, (.lst [(.int 1)]), (.tup [(.int 0)]), (.tup [(.int 10001)]), (.tup [(.bl true)]), (.tup [(.str [49])]), (.tup [(.int 1), .non]), (.int 5), (.bin .mul (.tup [(.int 1)]) (.int 201))])) [.ifs (.cmp .ne (.call 39 [(.var 2), .non, .non]) (.bin .mul (.lst [(.str [119, 111, 114, 116, 104, 115])]) (.int 3))) [.ret (.bl false)] []], .set (.nm 5) (.slc (.tup [(.int 3), (.int 5), (.int 2)]) none (some (.call 36 [(.var 1), (.int 4)]))), .for_ (.nm 2) (.seq (.tup [.non, (.int 0), (.int 10001), (.bl true), (.str [53]), (.tup [(.int 5)])])) [.ifs (.cmp .ne (.call 39 [(.var 5), (.var 2), .non]) (.bin .mul (.lst [(.str [110, 117, 109, 98, 101, 114])]) (.int 3))) [.ret (.bl false)] []], .for_ (.nm 2) (.seq (.tup [.non, (.int 0), (.int 201), (.bl true), (.str [53]), (.tup [(.int 5)])])) [.ifs (.cmp .ne (.call 39 [(.var 5), (.call 37 [(.var 1), (.lst [(.int 1), (.int 5), (.int 10000)])]), (.var 2)]) (.bin .mul (.lst [(.str [110, 117, 109, 98, 101, 114])]) (.int 3))) [.ret (.bl false)] []], .ifs (.or (.cmp .ne (.call 39 [(.tup [(.int 3), (.int 5), (.int 2)]), (.int 4), (.int 9)]) (.bin .mul (.lst [(.str [112, 97, 112, 101, 114])]) (.int 3))) (.cmp .ne (.call 39 [(.var 5), (.int 5), (.int 1)]) (.bin .mul (.lst [(.str [])]) (.int 3)))) [.ret (.bl false)] [], .ret (.call 38 [(.tup [(.call 31 [(.int 1), (.int 0), (.int 0)]), (.call 32 [(.tup []), (.int 1), (.int 1)]), (.slc (.call 33 [(.bin .mul (.tup [(.int 10000)]) (.int 200)), (.int 10000), (.int 200)]) (some (.neg (.int 1))) none)]), (.tup [.non, (.int 0), (.tup [(.tup [(.int 199), (.int 199)])])])])]⟩⟩
def fs : List FI := [f0, f1, f2, f3, f4, f5, f6, f7, f8, f9, f10, f11, f12, f13, f14, f15, f16, f17, f18, f19, f20, f21, f22, f23, f24, f25, f26, f27, f28, f29, f30, f31, f32, f33, f34, f35, f36, f37, f38, f39, f40, f41]
def Vs : List (Str × D) := [("MOST", (.int 999999)), ("DIGITS", (.str [48, 49, 50, 51, 52, 53, 54, 55, 56, 57])), ("SIGNS", (.str [48, 49, 50, 51, 52, 53, 54, 55, 56, 57, 120])), ("BAGS", (.int 200)), ("ROW", (.int 1000)), ("WEIGHT", (.int 10000))]
def Cs : List Str := ["EarthError", "InvalidName", "InvalidBook", "InvalidWorths", "InvalidPaper", "InvalidNumber", "InvalidText"]
def Ft : List (Str × Nat) := ftOf fs 0
def pw : Pw := ⟨["_law_load_words", "_law_texts_right", "law"], [w__law_word], [("InvalidNumber", iso_InvalidNumber), ("InvalidText", iso_InvalidText), ("InvalidWorths", iso_InvalidWorths), ("InvalidPaper", iso_InvalidPaper), ("InvalidName", iso_InvalidName), ("InvalidBook", iso_InvalidBook), ("ValueError", iso_ValueError)]⟩
def G : List (Str × D) := Vs ++ gcOf Cs 0 ++ gfOf fs 0
theorem c0 : chkF G Ft pw f0 = true := by decide +kernel
theorem c1 : chkF G Ft pw f1 = true := by decide +kernel
theorem c2 : chkF G Ft pw f2 = true := by decide +kernel
theorem c3 : chkF G Ft pw f3 = true := by decide +kernel
theorem c4 : chkF G Ft pw f4 = true := by decide +kernel
theorem c5 : chkF G Ft pw f5 = true := by decide +kernel
theorem c6 : chkF G Ft pw f6 = true := by decide +kernel
theorem c7 : chkF G Ft pw f7 = true := by decide +kernel
theorem c8 : chkF G Ft pw f8 = true := by decide +kernel
theorem c9 : chkF G Ft pw f9 = true := by decide +kernel
theorem c10 : chkF G Ft pw f10 = true := by decide +kernel
theorem c11 : chkF G Ft pw f11 = true := by decide +kernel
theorem c12 : chkF G Ft pw f12 = true := by decide +kernel
theorem c13 : chkF G Ft pw f13 = true := by decide +kernel
theorem c14 : chkF G Ft pw f14 = true := by decide +kernel
theorem c15 : chkF G Ft pw f15 = true := by decide +kernel
theorem c16 : chkF G Ft pw f16 = true := by decide +kernel
theorem c17 : chkF G Ft pw f17 = true := by decide +kernel
theorem c18 : chkF G Ft pw f18 = true := by decide +kernel
theorem c19 : chkF G Ft pw f19 = true := by decide +kernel
theorem c20 : chkF G Ft pw f20 = true := by decide +kernel
theorem c21 : chkF G Ft pw f21 = true := by decide +kernel
theorem c22 : chkF G Ft pw f22 = true := by decide +kernel
theorem c23 : chkF G Ft pw f23 = true := by decide +kernel
theorem c24 : chkF G Ft pw f24 = true := by decide +kernel
theorem c25 : chkF G Ft pw f25 = true := by decide +kernel
theorem c26 : chkF G Ft pw f26 = true := by decide +kernel
theorem c27 : chkF G Ft pw f27 = true := by decide +kernel
theorem c28 : chkF G Ft pw f28 = true := by decide +kernel
theorem c29 : chkF G Ft pw f29 = true := by decide +kernel
theorem c30 : chkF G Ft pw f30 = true := by decide +kernel
theorem c31 : chkF G Ft pw f31 = true := by decide +kernel
theorem c32 : chkF G Ft pw f32 = true := by decide +kernel
theorem c33 : chkF G Ft pw f33 = true := by decide +kernel
theorem c34 : chkF G Ft pw f34 = true := by decide +kernel
theorem c35 : chkF G Ft pw f35 = true := by decide +kernel
theorem c36 : chkF G Ft pw f36 = true := by decide +kernel
theorem c37 : chkF G Ft pw f37 = true := by decide +kernel
theorem c38 : chkF G Ft pw f38 = true := by decide +kernel
theorem c39 : chkF G Ft pw f39 = true := by decide +kernel
theorem c40 : chkF G Ft pw f40 = true := by decide +kernel
theorem c41 : chkF G Ft pw f41 = true := by decide +kernel
theorem chk_all : ∀ fi ∈ fs, chkF G Ft pw fi = true := by
  intro fi h
  simp only [fs, List.mem_cons, List.not_mem_nil, or_false] at h
  rcases h with rfl | rfl | rfl | rfl | rfl | rfl | rfl | rfl | rfl | rfl | rfl | rfl | rfl | rfl | rfl | rfl | rfl | rfl | rfl | rfl | rfl | rfl | rfl | rfl | rfl | rfl | rfl | rfl | rfl | rfl | rfl | rfl | rfl | rfl | rfl | rfl | rfl | rfl | rfl | rfl | rfl | rfl
  · exact c0
  · exact c1
  · exact c2
  · exact c3
  · exact c4
  · exact c5
  · exact c6
  · exact c7
  · exact c8
  · exact c9
  · exact c10
  · exact c11
  · exact c12
  · exact c13
  · exact c14
  · exact c15
  · exact c16
  · exact c17
  · exact c18
  · exact c19
  · exact c20
  · exact c21
  · exact c22
  · exact c23
  · exact c24
  · exact c25
  · exact c26
  · exact c27
  · exact c28
  · exact c29
  · exact c30
  · exact c31
  · exact c32
  · exact c33
  · exact c34
  · exact c35
  · exact c36
  · exact c37
  · exact c38
  · exact c39
  · exact c40
  · exact c41
theorem cw__law_word : chkW pw.iso w__law_word = true := by decide +kernel
theorem nocls : ∀ x d n, Vs.lookup x = some d → d ≠ .cls n := by
  intro x d n h e
  subst e
  have : ∀ p ∈ Vs, (match p.2 with | .cls _ => false | _ => true) = true := by decide +kernel
  have := this _ (EW.mem_of_lookup h)
  cases this
theorem all_mk {K : PySem.W.Frag} {h : Heap} {mg : Str → Option Value} (X : K.In h) (Gn : h.Ns PySem.mainGlobals mg) (F0 : ∃ a, FactF K mg f0 a) (F1 : ∃ a, FactF K mg f1 a) (F2 : ∃ a, FactF K mg f2 a) (F3 : ∃ a, FactF K mg f3 a) (F4 : ∃ a, FactF K mg f4 a) (F5 : ∃ a, FactF K mg f5 a) (F6 : ∃ a, FactF K mg f6 a) (F7 : ∃ a, FactF K mg f7 a) (F8 : ∃ a, FactF K mg f8 a) (F9 : ∃ a, FactF K mg f9 a) (F10 : ∃ a, FactF K mg f10 a) (F11 : ∃ a, FactF K mg f11 a) (F12 : ∃ a, FactF K mg f12 a) (F13 : ∃ a, FactF K mg f13 a) (F14 : ∃ a, FactF K mg f14 a) (F15 : ∃ a, FactF K mg f15 a) (F16 : ∃ a, FactF K mg f16 a) (F17 : ∃ a, FactF K mg f17 a) (F18 : ∃ a, FactF K mg f18 a) (F19 : ∃ a, FactF K mg f19 a) (F20 : ∃ a, FactF K mg f20 a) (F21 : ∃ a, FactF K mg f21 a) (F22 : ∃ a, FactF K mg f22 a) (F23 : ∃ a, FactF K mg f23 a) (F24 : ∃ a, FactF K mg f24 a) (F25 : ∃ a, FactF K mg f25 a) (F26 : ∃ a, FactF K mg f26 a) (F27 : ∃ a, FactF K mg f27 a) (F28 : ∃ a, FactF K mg f28 a) (F29 : ∃ a, FactF K mg f29 a) (F30 : ∃ a, FactF K mg f30 a) (F31 : ∃ a, FactF K mg f31 a) (F32 : ∃ a, FactF K mg f32 a) (F33 : ∃ a, FactF K mg f33 a) (F34 : ∃ a, FactF K mg f34 a) (F35 : ∃ a, FactF K mg f35 a) (F36 : ∃ a, FactF K mg f36 a) (F37 : ∃ a, FactF K mg f37 a) (F38 : ∃ a, FactF K mg f38 a) (F39 : ∃ a, FactF K mg f39 a) (F40 : ∃ a, FactF K mg f40 a) (F41 : ∃ a, FactF K mg f41 a) (W0 : ∃ a, FactF K mg w__law_word.fi a) (C0 : ∃ a, FactC K mg "EarthError" a) (C1 : ∃ a, FactC K mg "InvalidName" a) (C2 : ∃ a, FactC K mg "InvalidBook" a) (C3 : ∃ a, FactC K mg "InvalidWorths" a) (C4 : ∃ a, FactC K mg "InvalidPaper" a) (C5 : ∃ a, FactC K mg "InvalidNumber" a) (C6 : ∃ a, FactC K mg "InvalidText" a) (V0 : FactV mg "MOST" (.int 999999)) (V1 : FactV mg "DIGITS" (.str [48, 49, 50, 51, 52, 53, 54, 55, 56, 57])) (V2 : FactV mg "SIGNS" (.str [48, 49, 50, 51, 52, 53, 54, 55, 56, 57, 120])) (V3 : FactV mg "BAGS" (.int 200)) (V4 : FactV mg "ROW" (.int 1000)) (V5 : FactV mg "WEIGHT" (.int 10000)) (bl : ∀ x ∈ bltNames, mg x = none) (hw : pwB K Cs pw = true) : ∃ (W : Wd) (l : List (Addr × Addr)), PgOk W K mg G Ft fs pw l ∧ TabK K pw.tn l ∧ ∀ p ∈ W.T, ∃ c, (c, p.1) ∈ l := by
  refine pg_mk (vs := Vs) (cs := Cs) X Gn chk_all (FsOk.ex F0 (FsOk.ex F1 (FsOk.ex F2 (FsOk.ex F3 (FsOk.ex F4 (FsOk.ex F5 (FsOk.ex F6 (FsOk.ex F7 (FsOk.ex F8 (FsOk.ex F9 (FsOk.ex F10 (FsOk.ex F11 (FsOk.ex F12 (FsOk.ex F13 (FsOk.ex F14 (FsOk.ex F15 (FsOk.ex F16 (FsOk.ex F17 (FsOk.ex F18 (FsOk.ex F19 (FsOk.ex F20 (FsOk.ex F21 (FsOk.ex F22 (FsOk.ex F23 (FsOk.ex F24 (FsOk.ex F25 (FsOk.ex F26 (FsOk.ex F27 (FsOk.ex F28 (FsOk.ex F29 (FsOk.ex F30 (FsOk.ex F31 (FsOk.ex F32 (FsOk.ex F33 (FsOk.ex F34 (FsOk.ex F35 (FsOk.ex F36 (FsOk.ex F37 (FsOk.ex F38 (FsOk.ex F39 (FsOk.ex F40 (FsOk.ex F41 EW.FsOk.ex0)))))))))))))))))))))))))))))))))))))))))) (CsOk.ex C0 (CsOk.ex C1 (CsOk.ex C2 (CsOk.ex C3 (CsOk.ex C4 (CsOk.ex C5 (CsOk.ex C6 EW.CsOk.ex0))))))) (.cons V0 (.cons V1 (.cons V2 (.cons V3 (.cons V4 (.cons V5 .nil)))))) nocls bl hw fun wi hwi => ?_
  simp only [pw, List.mem_cons, List.not_mem_nil, or_false] at hwi
  rcases hwi with rfl
  · exact ⟨cw__law_word, W0⟩
end LW

namespace LW
open EW
def wf : Nat := 100000
def sf : Nat := 60
def kd : Nat := 14
def C (k : Nat) : Ph := calls (fs.map FI.F) wf sf k
theorem K0 (k : Nat) (ds : List D) (S : Hs) : C (k + 1) 0 ds S = runFn wf 60 (C k) f0.F ds S := rfl
theorem K1 (k : Nat) (ds : List D) (S : Hs) : C (k + 1) 1 ds S = runFn wf 60 (C k) f1.F ds S := rfl
theorem K2 (k : Nat) (ds : List D) (S : Hs) : C (k + 1) 2 ds S = runFn wf 60 (C k) f2.F ds S := rfl
theorem K3 (k : Nat) (ds : List D) (S : Hs) : C (k + 1) 3 ds S = runFn wf 60 (C k) f3.F ds S := rfl
theorem K4 (k : Nat) (ds : List D) (S : Hs) : C (k + 1) 4 ds S = runFn wf 60 (C k) f4.F ds S := rfl
theorem K5 (k : Nat) (ds : List D) (S : Hs) : C (k + 1) 5 ds S = runFn wf 60 (C k) f5.F ds S := rfl
theorem K6 (k : Nat) (ds : List D) (S : Hs) : C (k + 1) 6 ds S = runFn wf 60 (C k) f6.F ds S := rfl
theorem K7 (k : Nat) (ds : List D) (S : Hs) : C (k + 1) 7 ds S = runFn wf 60 (C k) f7.F ds S := rfl
theorem K8 (k : Nat) (ds : List D) (S : Hs) : C (k + 1) 8 ds S = runFn wf 60 (C k) f8.F ds S := rfl
theorem K9 (k : Nat) (ds : List D) (S : Hs) : C (k + 1) 9 ds S = runFn wf 60 (C k) f9.F ds S := rfl
theorem K10 (k : Nat) (ds : List D) (S : Hs) : C (k + 1) 10 ds S = runFn wf 60 (C k) f10.F ds S := rfl
theorem K11 (k : Nat) (ds : List D) (S : Hs) : C (k + 1) 11 ds S = runFn wf 60 (C k) f11.F ds S := rfl
theorem K12 (k : Nat) (ds : List D) (S : Hs) : C (k + 1) 12 ds S = runFn wf 60 (C k) f12.F ds S := rfl
theorem K13 (k : Nat) (ds : List D) (S : Hs) : C (k + 1) 13 ds S = runFn wf 60 (C k) f13.F ds S := rfl
theorem K14 (k : Nat) (ds : List D) (S : Hs) : C (k + 1) 14 ds S = runFn wf 60 (C k) f14.F ds S := rfl
theorem K15 (k : Nat) (ds : List D) (S : Hs) : C (k + 1) 15 ds S = runFn wf 60 (C k) f15.F ds S := rfl
theorem K16 (k : Nat) (ds : List D) (S : Hs) : C (k + 1) 16 ds S = runFn wf 60 (C k) f16.F ds S := rfl
theorem K17 (k : Nat) (ds : List D) (S : Hs) : C (k + 1) 17 ds S = runFn wf 60 (C k) f17.F ds S := rfl
theorem K18 (k : Nat) (ds : List D) (S : Hs) : C (k + 1) 18 ds S = runFn wf 60 (C k) f18.F ds S := rfl
theorem K19 (k : Nat) (ds : List D) (S : Hs) : C (k + 1) 19 ds S = runFn wf 60 (C k) f19.F ds S := rfl
theorem K20 (k : Nat) (ds : List D) (S : Hs) : C (k + 1) 20 ds S = runFn wf 60 (C k) f20.F ds S := rfl
theorem K21 (k : Nat) (ds : List D) (S : Hs) : C (k + 1) 21 ds S = runFn wf 60 (C k) f21.F ds S := rfl
theorem K22 (k : Nat) (ds : List D) (S : Hs) : C (k + 1) 22 ds S = runFn wf 60 (C k) f22.F ds S := rfl
theorem K23 (k : Nat) (ds : List D) (S : Hs) : C (k + 1) 23 ds S = runFn wf 60 (C k) f23.F ds S := rfl
theorem K24 (k : Nat) (ds : List D) (S : Hs) : C (k + 1) 24 ds S = runFn wf 60 (C k) f24.F ds S := rfl
theorem K25 (k : Nat) (ds : List D) (S : Hs) : C (k + 1) 25 ds S = runFn wf 60 (C k) f25.F ds S := rfl
theorem K26 (k : Nat) (ds : List D) (S : Hs) : C (k + 1) 26 ds S = runFn wf 60 (C k) f26.F ds S := rfl
theorem K27 (k : Nat) (ds : List D) (S : Hs) : C (k + 1) 27 ds S = runFn wf 60 (C k) f27.F ds S := rfl
theorem K28 (k : Nat) (ds : List D) (S : Hs) : C (k + 1) 28 ds S = runFn wf 60 (C k) f28.F ds S := rfl
theorem K29 (k : Nat) (ds : List D) (S : Hs) : C (k + 1) 29 ds S = runFn wf 60 (C k) f29.F ds S := rfl
theorem K30 (k : Nat) (ds : List D) (S : Hs) : C (k + 1) 30 ds S = runFn wf 60 (C k) f30.F ds S := rfl
theorem K31 (k : Nat) (ds : List D) (S : Hs) : C (k + 1) 31 ds S = runFn wf 60 (C k) f31.F ds S := rfl
theorem K32 (k : Nat) (ds : List D) (S : Hs) : C (k + 1) 32 ds S = runFn wf 60 (C k) f32.F ds S := rfl
theorem K33 (k : Nat) (ds : List D) (S : Hs) : C (k + 1) 33 ds S = runFn wf 60 (C k) f33.F ds S := rfl
theorem K34 (k : Nat) (ds : List D) (S : Hs) : C (k + 1) 34 ds S = runFn wf 60 (C k) f34.F ds S := rfl
theorem K35 (k : Nat) (ds : List D) (S : Hs) : C (k + 1) 35 ds S = runFn wf 60 (C k) f35.F ds S := rfl
theorem K36 (k : Nat) (ds : List D) (S : Hs) : C (k + 1) 36 ds S = runFn wf 60 (C k) f36.F ds S := rfl
theorem K37 (k : Nat) (ds : List D) (S : Hs) : C (k + 1) 37 ds S = runFn wf 60 (C k) f37.F ds S := rfl
theorem K38 (k : Nat) (ds : List D) (S : Hs) : C (k + 1) 38 ds S = runFn wf 60 (C k) f38.F ds S := rfl
theorem K39 (k : Nat) (ds : List D) (S : Hs) : C (k + 1) 39 ds S = runFn wf 60 (C k) f39.F ds S := rfl
theorem K40 (k : Nat) (ds : List D) (S : Hs) : C (k + 1) 40 ds S = runFn wf 60 (C k) f40.F ds S := rfl
theorem K41 (k : Nat) (ds : List D) (S : Hs) : C (k + 1) 41 ds S = runFn wf 60 (C k) f41.F ds S := rfl
abbrev cu (a b : Int) : Hs := [.lst [.int a, .int b]]
theorem roll (k : Nat) (a b m : Int) (hm : 0 < m) (hm2 : m ≤ 18446744073709551615) : ∃ v a' b' : Int, 0 ≤ v ∧ v < m ∧
    C (k + 1) 36 [.cell 0, .int m] (cu a b) = .ok (.int v) (cu a' b') := roll_ok (m1 := 30757) (a1 := 7793) (p1 := 2147482951) (c2 := 239) (p2 := 2147483059) (q := 839) (by decide) (by decide) (by decide) (by decide) (by decide) (by decide) wf 50 (C k) a b m hm hm2

theorem some_ok (k : Nat) (a b : Int) (l : List D) (h : l ≠ []) (h2 : l.length ≤ 1000) : ∃ d ∈ l, ∃ a' b' : Int,
    C (k + 2) 37 [.cell 0, .lst l] (cu a b) = .ok d (cu a' b') := by
  have hl : 0 < l.length := List.length_pos_iff.2 h
  obtain ⟨v, a', b', h0, h1, e⟩ := roll k a b (l.length : Nat) (by omega) (by omega)
  have hv : v.toNat < l.length := by omega
  refine ⟨l[v.toNat], List.getElem_mem hv, a', b', ?_⟩
  have e3 : ¬ v < 0 := by omega
  rw [K37]
  simp [f37, runFn, evB, es_succ, esStep, ev_succ, evStep, evT, evs, evO, evI, bind_ok, R.of, R.calm, cmpD, idxD, dicP, cellD, idxL, slcD, cellL, L2.ixN, biD, binD_add, binD_sub, tru, setT, setN, setN.setNs, putC, putL, leave, D.flat, isiD, topL, isD, cut, HT.sIx, e, h0, h1, e3, hv]
theorem cup (k : Nat) (ns : List Int) (h : ns.length ≤ 63) : ∃ a b : Int, C (k + 1) 35 [.scr ns] [] = .ok (.cell 0) (cu a b) := by
  have hf : fitL ((ns.map D.int).length + 1) = true := by simp [fitL, lim, Nat.ble_eq]; omega
  obtain ⟨x, r, hx⟩ : ∃ x r, ns.map D.int ++ [D.int 0] = .int x :: r := by
    cases ns with
    | nil => exact ⟨0, [], rfl⟩
    | cons x r => exact ⟨x, r.map D.int ++ [.int 0], rfl⟩
  have ad : ∀ S, binD .add (.lst (ns.map D.int)) (.lst [.int 0]) S = some (.lst (.int x :: r)) := fun S => by
    simp only [binD, addL, listD]
    rw [← hx]
    simp [hf]
    simpa using hf
  have m1 : ∀ (x : Int) S, binD .mul (.int x) (.int 347) S = some (.int (x * 347)) := fun x S => mul_r (by decide)
  have pw : ∀ S, binD .pow (.int 10) (.int 18) S = some (.int 1000000000000000000) := fun S => rfl
  obtain ⟨y, hy⟩ : ∃ y : Int, (if x < 0 then -x else x) = y := ⟨_, rfl⟩
  by_cases c : 1000000000000000000 ≤ y
  · refine ⟨y / 101, (y * 347 + 3929) % 2077502087 + 223, ?_⟩
    rw [K35]
    simp [f35, runFn, evB, es_succ, esStep, ev_succ, evStep, evT, evs, evO, evI, bind_ok, R.of, R.calm, cmpD, idxD, dicP, cellD, idxL, slcD, cellL, L2.ixN, biD, binD_add, binD_sub, tru, setT, setN, setN.setNs, putC, putL, leave, D.flat, isiD, topL, isD, cut, HT.sIx, ad, m1, pw, hy, c, fdiv_ok, mod_ok, D.flats]
  · refine ⟨0, (y * 347 + 3929) % 2077502087 + 223, ?_⟩
    rw [K35]
    simp [f35, runFn, evB, es_succ, esStep, ev_succ, evStep, evT, evs, evO, evI, bind_ok, R.of, R.calm, cmpD, idxD, dicP, cellD, idxL, slcD, cellL, L2.ixN, biD, binD_add, binD_sub, tru, setT, setN, setN.setNs, putC, putL, leave, D.flat, isiD, topL, isD, cut, HT.sIx, ad, m1, pw, hy, c, fdiv_ok, mod_ok, D.flats]
def q41_0 : EW.S := .set (.nm 1) (.call 35 [(.var 0)])
def q41_1 : EW.S := .for_ (.nm 2) (.seq (.tup [.non, (.int 0), (.neg (.int 1)), (.int 1000000), (.bl true), (.str [49]), (.tup [(.int 1)]), (.bin .pow (.int 10) (.int 20))])) [.ifs (.cmp .ne (.word (.str wl__law_word) wt__law_word (.call 21 [(.var 2)])) (.str [110, 117, 109, 98, 101, 114])) [.ret (.bl false)] []]
def q41_2 : EW.S := .ifs (.not (.call 40 [])) [.ret (.bl false)] []
def q41_3 : EW.S := .for_ (.nm 2) (.seq (.tup [.non, (.lst [(.int 1)]), (.tup [(.int 0)]), (.tup [(.int 1000000)]), (.tup [(.int 2), (.int 1)]), (.tup [(.int 1), (.int 1)]), (.tup [(.bl true)]), (.tup [(.str [49])]), (.tup [(.int 1), .non]), (.int 5), (.bi .tuple [(.lrng (.int 1) (.int 202))])])) [.ifs (.cmp .ne (.word (.str wl__law_word) wt__law_word (.call 25 [(.var 2)])) (.str [119, 111, 114, 116, 104, 115])) [.ret (.bl false)] []]
def q41_4 : EW.S := .for_ (.nm 2) (.seq (.tup [.non, (.lst [(.int 1)]), (.tup [(.int 0)]), (.tup [(.int 1000000)]), (.tup [(.bl true)]), (.tup [(.str [49])]), (.tup [(.int 1), .non]), (.int 5), (.bin .mul (.tup [(.int 7)]) (.int 201))])) [.ifs (.cmp .ne (.word (.str wl__law_word) wt__law_word (.call 30 [(.var 2)])) (.str [119, 111, 114, 116, 104, 115])) [.ret (.bl false)] []]
def q41_5 : EW.S := .set (.nm 3) (.mlst [(.word (.str wl__law_word) wt__law_word (.call 25 [(.bi .tuple [(.lrng (.int 1) (.int 201))])]))])
def q41_6 : EW.S := .expr (.mth .append (.var 3) [(.word (.str wl__law_word) wt__law_word (.call 28 [(.str [49, 44, 32, 50, 48, 51])]))])
def q41_7 : EW.S := .expr (.mth .append (.var 3) [(.word (.str wl__law_word) wt__law_word (.call 28 [(.str [49, 45, 57, 57, 44, 32, 51, 48, 49])]))])
def q41_8 : EW.S := .ifs (.cmp .ne (.var 3) (.lst [(.str []), (.str [112, 97, 112, 101, 114]), (.str [112, 97, 112, 101, 114])])) [.ret (.bl false)] []
def q41_9 : EW.S := .set (.nm 4) (.lst [(.tup [.non, (.int 1), (.int 1)]), (.tup [(.int 0), (.int 1), (.int 1)]), (.tup [(.int 1001), (.int 1), (.int 1)]), (.tup [(.bl true), (.int 1), (.int 1)]), (.tup [(.int 5), .non, (.int 1)]), (.tup [(.int 5), (.neg (.int 1)), (.int 1)]), (.tup [(.int 5), (.int 1000001), (.int 1)]), (.tup [(.int 5), (.int 1), .non]), (.tup [(.int 5), (.int 1), (.neg (.int 1))])])
def q41_10 : EW.S := .set (.nm 4) (.bin .add (.var 4) (.lst [(.tup [(.int 5), (.int 1), (.bin .add (.bin .pow (.int 10) (.int 9)) (.int 1))])]))
def q41_11 : EW.S := .for_ (.tup [(.nm 6), (.nm 7), (.nm 8)]) (.seq (.bin .add (.var 4) (.lst [(.tup [(.str [53]), (.int 1), (.int 1)]), (.tup [(.int 5), (.str [49]), (.int 1)]), (.tup [(.int 5), (.int 1), (.bl true)])]))) [.ifs (.cmp .ne (.word (.str wl__law_word) wt__law_word (.call 31 [(.var 6), (.var 7), (.var 8)])) (.str [110, 117, 109, 98, 101, 114])) [.ret (.bl false)] []]
def q41_12 : EW.S := .for_ (.nm 2) (.seq (.tup [.non, (.lst [(.int 1)]), (.tup [(.int 0)]), (.tup [(.int 10001)]), (.tup [(.bl true)]), (.tup [(.str [49])]), (.tup [(.int 1), .non]), (.int 5), (.bin .mul (.tup [(.int 1)]) (.int 201))])) [.ifs (.cmp .ne (.call 39 [(.var 2), .non, .non]) (.bin .mul (.lst [(.str [119, 111, 114, 116, 104, 115])]) (.int 3))) [.ret (.bl false)] []]
def q41_13 : EW.S := .set (.nm 5) (.slc (.tup [(.int 3), (.int 5), (.int 2)]) none (some (.call 36 [(.var 1), (.int 4)])))
def q41_14 : EW.S := .for_ (.nm 2) (.seq (.tup [.non, (.int 0), (.int 10001), (.bl true), (.str [53]), (.tup [(.int 5)])])) [.ifs (.cmp .ne (.call 39 [(.var 5), (.var 2), .non]) (.bin .mul (.lst [(.str [110, 117, 109, 98, 101, 114])]) (.int 3))) [.ret (.bl false)] []]
def q41_15 : EW.S := .for_ (.nm 2) (.seq (.tup [.non, (.int 0), (.int 201), (.bl true), (.str [53]), (.tup [(.int 5)])])) [.ifs (.cmp .ne (.call 39 [(.var 5), (.call 37 [(.var 1), (.lst [(.int 1), (.int 5), (.int 10000)])]), (.var 2)]) (.bin .mul (.lst [(.str [110, 117, 109, 98, 101, 114])]) (.int 3))) [.ret (.bl false)] []]
def q41_16 : EW.S := .ifs (.or (.cmp .ne (.call 39 [(.tup [(.int 3), (.int 5), (.int 2)]), (.int 4), (.int 9)]) (.bin .mul (.lst [(.str [112, 97, 112, 101, 114])]) (.int 3))) (.cmp .ne (.call 39 [(.var 5), (.int 5), (.int 1)]) (.bin .mul (.lst [(.str [])]) (.int 3)))) [.ret (.bl false)] []
def q41_17 : EW.S := .ret (.call 38 [(.tup [(.call 31 [(.int 1), (.int 0), (.int 0)]), (.call 32 [(.tup []), (.int 1), (.int 1)]), (.slc (.call 33 [(.bin .mul (.tup [(.int 10000)]) (.int 200)), (.int 10000), (.int 200)]) (some (.neg (.int 1))) none)]), (.tup [.non, (.int 0), (.tup [(.tup [(.int 199), (.int 199)])])])])
theorem q41_all : f41.F.body = [q41_0, q41_1, q41_2, q41_3, q41_4, q41_5, q41_6, q41_7, q41_8, q41_9, q41_10, q41_11, q41_12, q41_13, q41_14, q41_15, q41_16, q41_17] := rfl
end LW

namespace LW
open EW
theorem roll_okT {m1 a1 p1 c2 p2 q : Int} (h1 : m1.natAbs ≤ 18446744073709551615) (h2 : 0 < p1) (h3 : p1 ≤ 18446744073709551615) (h4 : 0 < p2) (h5 : 0 < q) (h6 : q ≤ 18446744073709551615) (wf n : Nat) (Φ : Ph) (T : List Cell) (a b m : Int) (hm : 0 < m) (hm2 : m ≤ 18446744073709551615) : ∃ v a' b' : Int, 0 ≤ v ∧ v < m ∧
    runFn wf (n + 10) Φ (FrollG m1 a1 p1 c2 p2 q) [.cell 0, .int m] (.lst [.int a, .int b] :: T) = .ok (.int v) (.lst [.int a', .int b'] :: T) := by
  by_cases h : 0 < a
  · refine ⟨a % m, a / m, b, Int.emod_nonneg _ (by omega), Int.emod_lt_of_pos _ hm, ?_⟩
    simp [runFn, FrollG, evB, es_succ, esStep, ev_succ, evStep, evT, evs, bind_ok, R.of, cmpD, idxD, dicP, cellD, idxL, cellL, L2.ixN, biD, mod_ok, fdiv_ok, hm, hm2, h, tru, setT, setN, putC, putL, leave, D.flat]
  · obtain ⟨c, hc⟩ : ∃ c, c = (b * m1 + a1) % p1 := ⟨_, rfl⟩
    have hc1 : c.natAbs ≤ 18446744073709551615 := by
      have := Int.emod_nonneg (b * m1 + a1) (Int.ne_of_gt h2)
      have := Int.emod_lt_of_pos (b * m1 + a1) h2
      omega
    refine ⟨c * (c + c2) % p2 / q % m, a, c, Int.emod_nonneg _ (by omega), Int.emod_lt_of_pos _ hm, ?_⟩
    simp [runFn, FrollG, evB, es_succ, esStep, ev_succ, evStep, evT, evs, bind_ok, R.of, cmpD, idxD, dicP, cellD, idxL, cellL, L2.ixN, biD, mul_r h1, mul_l hc1, ← hc, binD_add, mod_ok, fdiv_ok, hm, hm2, h, h2, h4, h5, h6, tru, setT, setN, putC, putL, leave, D.flat]
def WL : List D := [.str [], .str [112, 97, 112, 101, 114], .str [112, 97, 112, 101, 114]]
abbrev cu2 (a b : Int) : Hs := [.lst [.int a, .int b], .lst WL]
theorem roll2 (k : Nat) (a b m : Int) (hm : 0 < m) (hm2 : m ≤ 18446744073709551615) : ∃ v a' b' : Int, 0 ≤ v ∧ v < m ∧
    C (k + 1) 36 [.cell 0, .int m] (cu2 a b) = .ok (.int v) (cu2 a' b') := roll_okT (m1 := 30757) (a1 := 7793) (p1 := 2147482951) (c2 := 239) (p2 := 2147483059) (q := 839) (by decide) (by decide) (by decide) (by decide) (by decide) (by decide) wf 50 (C k) _ a b m hm hm2
theorem some2 (k : Nat) (a b : Int) (l : List D) (h : l ≠ []) (h2 : l.length ≤ 1000) : ∃ d ∈ l, ∃ a' b' : Int,
    C (k + 2) 37 [.cell 0, .lst l] (cu2 a b) = .ok d (cu2 a' b') := by
  have hl : 0 < l.length := List.length_pos_iff.2 h
  obtain ⟨v, a', b', h0, h1, e⟩ := roll2 k a b (l.length : Nat) (by omega) (by omega)
  have hv : v.toNat < l.length := by omega
  refine ⟨l[v.toNat], List.getElem_mem hv, a', b', ?_⟩
  have e3 : ¬ v < 0 := by omega
  rw [K37]
  simp [f37, runFn, evB, es_succ, esStep, ev_succ, evStep, evT, evs, evO, evI, bind_ok, R.of, R.calm, cmpD, idxD, dicP, cellD, idxL, slcD, cellL, L2.ixN, biD, binD_add, binD_sub, tru, setT, setN, setN.setNs, putC, putL, leave, D.flat, isiD, topL, isD, cut, HT.sIx, e, h0, h1, e3, hv]
abbrev R0 := es (ev (C 14) 60) wf 60
abbrev env (sc : Option D) (o w r we : Option D) (x y z : Option D) : Env := [sc, some (.cell 0), o, w, r, we, x, y, z]
theorem g1 (sc : Option D) (a b : Int) : R0 q41_1 (env sc none none none none none none none) (cu a b) = .ok (.nx (env sc (some (.int 100000000000000000000)) none none none none none none)) (cu a b) := by kernel_rfl
abbrev E2 (sc : Option D) : Env := env sc (some (.int 100000000000000000000)) none none none none none none
theorem g2 (sc : Option D) (a b : Int) : R0 q41_2 (E2 sc) (cu a b) = .ok (.nx (E2 sc)) (cu a b) := by kernel_rfl
def T201 : D := .tup (rngL 1 201)
abbrev E3 (sc : Option D) : Env := env sc (some T201) none none none none none none
theorem g3 (sc : Option D) (a b : Int) : R0 q41_3 (E2 sc) (cu a b) = .ok (.nx (E3 sc)) (cu a b) := by kernel_rfl
def S201 : D := .tup (rep 201 [.int 7])
abbrev E4 (sc : Option D) : Env := env sc (some S201) none none none none none none
theorem g4 (sc : Option D) (a b : Int) : R0 q41_4 (E3 sc) (cu a b) = .ok (.nx (E4 sc)) (cu a b) := by kernel_rfl
abbrev E5 (sc : Option D) : Env := env sc (some S201) (some (.cell 1)) none none none none none
theorem g5 (sc : Option D) (a b : Int) : R0 q41_5 (E4 sc) (cu a b) = .ok (.nx (E5 sc)) [.lst [.int a, .int b], .lst [.str []]] := by kernel_rfl
theorem g6 (sc : Option D) (a b : Int) : R0 q41_6 (E5 sc) [.lst [.int a, .int b], .lst [.str []]] = .ok (.nx (E5 sc)) [.lst [.int a, .int b], .lst [.str [], .str [112, 97, 112, 101, 114]]] := by kernel_rfl
theorem g7 (sc : Option D) (a b : Int) : R0 q41_7 (E5 sc) [.lst [.int a, .int b], .lst [.str [], .str [112, 97, 112, 101, 114]]] = .ok (.nx (E5 sc)) (cu2 a b) := by kernel_rfl
theorem g8 (sc : Option D) (a b : Int) : R0 q41_8 (E5 sc) (cu2 a b) = .ok (.nx (E5 sc)) (cu2 a b) := by kernel_rfl
end LW

namespace LW
open EW
def rows1 : D := .lst [.tup [.non, .int 1, .int 1], .tup [.int 0, .int 1, .int 1], .tup [.int 1001, .int 1, .int 1], .tup [.bl true, .int 1, .int 1], .tup [.int 5, .non, .int 1], .tup [.int 5, .int (-1), .int 1], .tup [.int 5, .int 1000001, .int 1], .tup [.int 5, .int 1, .non], .tup [.int 5, .int 1, .int (-1)]]
def rows2 : D := .lst [.tup [.non, .int 1, .int 1], .tup [.int 0, .int 1, .int 1], .tup [.int 1001, .int 1, .int 1], .tup [.bl true, .int 1, .int 1], .tup [.int 5, .non, .int 1], .tup [.int 5, .int (-1), .int 1], .tup [.int 5, .int 1000001, .int 1], .tup [.int 5, .int 1, .non], .tup [.int 5, .int 1, .int (-1)], .tup [.int 5, .int 1, .int 1000000001]]
theorem g9 (sc : Option D) (a b : Int) : R0 q41_9 (E5 sc) (cu2 a b) = .ok (.nx (env sc (some S201) (some (.cell 1)) (some rows1) none none none none)) (cu2 a b) := by kernel_rfl
theorem g10 (sc : Option D) (a b : Int) : R0 q41_10 (env sc (some S201) (some (.cell 1)) (some rows1) none none none none) (cu2 a b) = .ok (.nx (env sc (some S201) (some (.cell 1)) (some rows2) none none none none)) (cu2 a b) := by kernel_rfl
theorem g11 (sc : Option D) (a b : Int) : R0 q41_11 (env sc (some S201) (some (.cell 1)) (some rows2) none none none none) (cu2 a b) = .ok (.nx (env sc (some S201) (some (.cell 1)) (some rows2) none (some (.int 5)) (some (.int 1)) (some (.bl true)))) (cu2 a b) := by kernel_rfl
def O201 : D := .tup (rep 201 [.int 1])
abbrev E12 (sc o we : Option D) : Env := env sc o (some (.cell 1)) (some rows2) we (some (.int 5)) (some (.int 1)) (some (.bl true))
theorem g12 (sc : Option D) (a b : Int) : R0 q41_12 (E12 sc (some S201) none) (cu2 a b) = .ok (.nx (E12 sc (some O201) none)) (cu2 a b) := by kernel_rfl
def w (n : Nat) : D := .tup ([D.int 3, .int 5, .int 2].take n)
theorem g13 (sc : Option D) (a b : Int) : ∃ n ∈ [0, 1, 2, 3], ∃ a' b', R0 q41_13 (E12 sc (some O201) none) (cu2 a b) = .ok (.nx (E12 sc (some O201) (some (w n)))) (cu2 a' b') := by
  obtain ⟨v, a', b', h0, h1, e⟩ := roll2 13 a b 4 (by omega) (by omega)
  refine ⟨v.toNat, by simp; omega, a', b', ?_⟩
  have hv : v = 0 ∨ v = 1 ∨ v = 2 ∨ v = 3 := by omega
  rcases hv with rfl | rfl | rfl | rfl <;> (simp [q41_13, runFn, evB, es_succ, esStep, ev_succ, evStep, evT, evs, evO, evI, bind_ok, R.of, R.calm, cmpD, idxD, dicP, cellD, idxL, slcD, cellL, L2.ixN, biD, binD_add, binD_sub, tru, setT, setN, setN.setNs, putC, putL, leave, D.flat, isiD, topL, isD, cut, HT.sIx, evO, e, w]; try rfl)
theorem g14 (sc : Option D) (a b : Int) : ∀ n ∈ [0, 1, 2, 3], R0 q41_14 (E12 sc (some O201) (some (w n))) (cu2 a b) = .ok (.nx (E12 sc (some (.tup [.int 5])) (some (w n)))) (cu2 a b) := by
  intro n hn
  simp only [List.mem_cons, List.not_mem_nil, or_false] at hn
  rcases hn with rfl | rfl | rfl | rfl <;> kernel_rfl
def L15 : List D := [.non, .int 0, .int 201, .bl true, .str [53], .tup [.int 5]]
def NUM3 : D := .lst [.str [110, 117, 109, 98, 101, 114], .str [110, 117, 109, 98, 101, 114], .str [110, 117, 109, 98, 101, 114]]
theorem e39 (a b : Int) : ∀ n ∈ [0, 1, 2, 3], ∀ x ∈ [D.int 1, .int 5, .int 10000], ∀ d ∈ L15, C 14 39 [w n, x, d] (cu2 a b) = .ok NUM3 (cu2 a b) := by
  intro n hn x hx d hd
  simp only [L15, List.mem_cons, List.not_mem_nil, or_false] at hn hx hd
  rcases hn with rfl | rfl | rfl | rfl <;> rcases hx with rfl | rfl | rfl <;> rcases hd with rfl | rfl | rfl | rfl | rfl | rfl <;> kernel_rfl
def b15 : List EW.S := match q41_15 with
  | .for_ _ _ b => b
  | _ => []
end LW

namespace LW
open EW
theorem evB_nx {rec : EW.S → Env → Hs → R Fl} {s : EW.S} {r : List EW.S} {ρ ρ' : Env} {S S' : Hs} (h : rec s ρ S = .ok (.nx ρ') S') : evB rec (s :: r) ρ S = evB rec r ρ' S' := by
  show (rec s ρ S).bind _ = _
  rw [h]; rfl
theorem call15 (sc : Option D) (n : Nat) (hn : n ∈ [0, 1, 2, 3]) (d : D) (hd : d ∈ L15) (a b : Int) : ∃ a1 b1, ev (C 14) 59 (.call 39 [(.var 5), (.call 37 [(.var 1), (.lst [(.int 1), (.int 5), (.int 10000)])]), (.var 2)]) (E12 sc (some d) (some (w n))) (cu2 a b) = .ok NUM3 (cu2 a1 b1) := by
  obtain ⟨x, hx, a1, b1, e1⟩ := some2 12 a b [.int 1, .int 5, .int 10000] (by simp) (by decide)
  refine ⟨a1, b1, ?_⟩
  have e1 : C 14 37 [.cell 0, .lst [.int 1, .int 5, .int 10000]] (cu2 a b) = .ok x (cu2 a1 b1) := e1
  rw [← e39 a1 b1 n hn x hx d hd]
  simp only [ev_succ, evStep, evs, bind_ok, List.getElem?_cons_zero, List.getElem?_cons_succ, e1]
theorem turn15 (sc : Option D) (n : Nat) (hn : n ∈ [0, 1, 2, 3]) (d : D) (hd : d ∈ L15) (a b : Int) : ∃ a1 b1, evB (es (ev (C 14) 60) wf 59) b15 (E12 sc (some d) (some (w n))) (cu2 a b) = .ok (.nx (E12 sc (some d) (some (w n)))) (cu2 a1 b1) := by
  obtain ⟨a1, b1, e⟩ := call15 sc n hn d hd a b
  refine ⟨a1, b1, ?_⟩
  have e2 : ev (C 14) 60 (.cmp .ne (.call 39 [(.var 5), (.call 37 [(.var 1), (.lst [(.int 1), (.int 5), (.int 10000)])]), (.var 2)]) (.bin .mul (.lst [(.str [110, 117, 109, 98, 101, 114])]) (.int 3))) (E12 sc (some d) (some (w n))) (cu2 a b) = .ok (.bl false) (cu2 a1 b1) := by
    refine Eq.trans (b := (R.ok NUM3 (cu2 a1 b1)).bind fun x S => (ev (C 14) 59 (.bin .mul (.lst [(.str [110, 117, 109, 98, 101, 114])]) (.int 3)) (E12 sc (some d) (some (w n))) S).bind fun y S => R.of S ((cmpD .ne x y S).map .bl)) ?_ (by kernel_rfl)
    rw [← e]
    exact ev_succ (C 14) 59 _ _ _
  have e3 : es (ev (C 14) 60) wf 59 (.ifs (.cmp .ne (.call 39 [(.var 5), (.call 37 [(.var 1), (.lst [(.int 1), (.int 5), (.int 10000)])]), (.var 2)]) (.bin .mul (.lst [(.str [110, 117, 109, 98, 101, 114])]) (.int 3))) [.ret (.bl false)] []) (E12 sc (some d) (some (w n))) (cu2 a b) = .ok (.nx (E12 sc (some d) (some (w n)))) (cu2 a1 b1) := by
    refine Eq.trans (b := ((R.ok (D.bl false) (cu2 a1 b1)).bind fun d S => R.of S (tru d S)).bind fun k S => if k then evB (es (ev (C 14) 60) wf 58) [.ret (.bl false)] (E12 sc (some d) (some (w n))) S else evB (es (ev (C 14) 60) wf 58) [] (E12 sc (some d) (some (w n))) S) ?_ rfl
    rw [← e2]
    exact es_succ (ev (C 14) 60) wf 58 _ _ _
  have hb : b15 = [.ifs (.cmp .ne (.call 39 [(.var 5), (.call 37 [(.var 1), (.lst [(.int 1), (.int 5), (.int 10000)])]), (.var 2)]) (.bin .mul (.lst [(.str [110, 117, 109, 98, 101, 114])]) (.int 3))) [.ret (.bl false)] []] := rfl
  rw [hb, evB_nx e3]
  rfl
theorem turns (sc : Option D) (n : Nat) (hn : n ∈ [0, 1, 2, 3]) : ∀ (l : List D) (o : D) (a b : Int), (∀ d ∈ l, d ∈ L15) → ∃ (o' : D) (a' b' : Int), forL (es (ev (C 14) 60) wf 59) (.nm 2) b15 l (E12 sc (some o) (some (w n))) (cu2 a b) = .ok (.nx (E12 sc (some o') (some (w n)))) (cu2 a' b')
  | [], o, a, b, _ => ⟨o, a, b, rfl⟩
  | d :: l, o, a, b, h => by
    obtain ⟨a1, b1, e1⟩ := turn15 sc n hn d (h d List.mem_cons_self) a b
    obtain ⟨o', a', b', ih⟩ := turns sc n hn l d a1 b1 (fun y hy => h y (List.mem_cons_of_mem _ hy))
    refine ⟨o', a', b', ?_⟩
    rw [← ih]
    show (evB (es (ev (C 14) 60) wf 59) b15 (E12 sc (some d) (some (w n))) (cu2 a b)).bind _ = _
    rw [e1]
    rfl
theorem g15 (sc : Option D) (a b : Int) (n : Nat) (hn : n ∈ [0, 1, 2, 3]) : ∃ o a' b', R0 q41_15 (E12 sc (some (.tup [.int 5])) (some (w n))) (cu2 a b) = .ok (.nx (E12 sc (some o) (some (w n)))) (cu2 a' b') := by
  obtain ⟨o, a', b', e⟩ := turns sc n hn L15 (.tup [.int 5]) a b (fun d hd => hd)
  refine ⟨o, a', b', ?_⟩
  rw [← e]
  kernel_rfl
theorem g16 (sc : Option D) (o : D) (a b : Int) : ∀ n ∈ [0, 1, 2, 3], R0 q41_16 (E12 sc (some o) (some (w n))) (cu2 a b) = .ok (.nx (E12 sc (some o) (some (w n)))) (cu2 a b) := by
  intro n hn
  simp only [List.mem_cons, List.not_mem_nil, or_false] at hn
  rcases hn with rfl | rfl | rfl | rfl <;> kernel_rfl
end LW

namespace LW
open EW
theorem g17 (sc : Option D) (o : D) (a b : Int) (n : Nat) : R0 q41_17 (E12 sc (some o) (some (w n))) (cu2 a b) = .ok (.rt (.bl true)) (cu2 a b) := by kernel_rfl
end LW

namespace LW
open EW
theorem law_true (ns : List Int) (h : ns.length ≤ 63) : ∃ S, calls (fs.map FI.F) wf sf (kd + 1) 41 [.scr ns] [] = .ok (.bl true) S := by
  obtain ⟨a, b, ec⟩ := cup 13 ns h
  obtain ⟨n, hn, a1, b1, e13⟩ := g13 (some (.scr ns)) a b
  obtain ⟨o, a2, b2, e15⟩ := g15 (some (.scr ns)) a1 b1 n hn
  refine ⟨[], ?_⟩
  show C (14 + 1) 41 [.scr ns] [] = _
  rw [K41]
  have g0 : R0 q41_0 [some (.scr ns), none, none, none, none, none, none, none, none] [] = .ok (.nx (env (some (.scr ns)) none none none none none none none)) (cu a b) := by
    simp [q41_0, runFn, evB, es_succ, esStep, ev_succ, evStep, evT, evs, evO, evI, bind_ok, R.of, R.calm, cmpD, idxD, dicP, cellD, idxL, slcD, cellL, L2.ixN, biD, binD_add, binD_sub, tru, setT, setN, setN.setNs, putC, putL, leave, D.flat, isiD, topL, isD, cut, HT.sIx, ec]
  have hp : f41.F.np = 1 := rfl
  have hs : f41.F.ns = 9 := rfl
  have hm : f41.F.mt = false := rfl
  have hb : evB R0 f41.F.body [some (.scr ns), none, none, none, none, none, none, none, none] [] = .ok (.rt (.bl true)) (cu2 a2 b2) := by
    rw [q41_all, evB_nx g0, evB_nx (g1 _ _ _), evB_nx (g2 _ _ _), evB_nx (g3 _ _ _), evB_nx (g4 _ _ _), evB_nx (g5 _ _ _), evB_nx (g6 _ _ _), evB_nx (g7 _ _ _), evB_nx (g8 _ _ _), evB_nx (g9 _ _ _), evB_nx (g10 _ _ _), evB_nx (g11 _ _ _), evB_nx (g12 _ _ _), evB_nx e13, evB_nx (g14 _ _ _ n hn), evB_nx e15, evB_nx (g16 _ _ _ _ n hn)]
    show (R0 q41_17 _ _).bind _ = _
    rw [g17]; rfl
  have e : runFn wf 60 (C 14) f41.F [.scr ns] [] = match evB R0 f41.F.body [some (.scr ns), none, none, none, none, none, none, none, none] [] with
    | .ok (.nx _) S' => leave f41.F.mt 0 .non S'
    | .ok (.rt d) S' => leave f41.F.mt 0 d S'
    | .ok _ _ => .bad
    | .exc x S' => .exc x (S'.take 0)
    | .bad => .bad := rfl
  rw [e, hb, hm]
  rfl
end LW


open PySem PySem.W PyProof.Rows
set_option maxRecDepth 100000 in
set_option maxHeartbeats 0 in
theorem PySem.Challenge.cw_earthworks_k71_errors_of_bags_holds : PySem.Challenge.rw_earthworks_k71_errors_of_bags.Holds := by
  w_on; o_law; k_head; (case hw => w_witness2)
  k_fill
  refine EW.walk (l := PySem.Challenge.rw_earthworks_k71_errors_of_bags) (wf := LW.wf) (sf := LW.sf) (k := LW.kd) (i := 41) (x := "script") (fs := LW.fs) (G := LW.G) (Ft := LW.Ft) (pw := LW.pw) rfl rfl ⟨rfl, by decide, by decide⟩ (by decide +kernel) (fun w h Y => by first | exact PySem.W.kIn_of Y | exact PySem.W.km_in_of Y) (by decide +kernel) ⟨_, rfl, rfl⟩ ?F LW.law_true
  case F =>
    intro w mg fa h KX Gn hmg
    refine' LW.all_mk KX Gn ?F0 ?F1 ?F2 ?F3 ?F4 ?F5 ?F6 ?F7 ?F8 ?F9 ?F10 ?F11 ?F12 ?F13 ?F14 ?F15 ?F16 ?F17 ?F18 ?F19 ?F20 ?F21 ?F22 ?F23 ?F24 ?F25 ?F26 ?F27 ?F28 ?F29 ?F30 ?F31 ?F32 ?F33 ?F34 ?F35 ?F36 ?F37 ?F38 ?F39 ?F40 ?F41 ?W0 ?C0 ?C1 ?C2 ?C3 ?C4 ?C5 ?C6 ?V0 ?V1 ?V2 ?V3 ?V4 ?V5 ?b ?hw
    case F0 => (refine' EW.factF (x := "fits_whole") (st := LW.topS 9) KX Gn ?ze ?zl ?zc ?zk ?bb; (case ze => k_is); (case zl => k_is); (case zc => k_is); (case zk => k_is); (case bb => exact fun us hl => match us, hl with | [_, _, _], _ => rfl))
    case F1 => (refine' EW.factF (x := "is_tuple_of") (st := LW.topS 10) KX Gn ?ze ?zl ?zc ?zk ?bb; (case ze => k_is); (case zl => k_is); (case zc => k_is); (case zk => k_is); (case bb => exact fun us hl => match us, hl with | [_, _, _], _ => rfl))
    case F2 => (refine' EW.factF (x := "is_rising") (st := LW.topS 18) KX Gn ?ze ?zl ?zc ?zk ?bb; (case ze => k_is); (case zl => k_is); (case zc => k_is); (case zk => k_is); (case bb => exact fun us hl => match us, hl with | [_], _ => rfl))
    case F3 => (refine' EW.factF (x := "need_number") (st := LW.topS 19) KX Gn ?ze ?zl ?zc ?zk ?bb; (case ze => k_is); (case zl => k_is); (case zc => k_is); (case zk => k_is); (case bb => exact fun us hl => match us, hl with | [_, _, _], _ => rfl))
    case F4 => (refine' EW.factF (x := "weighed") (st := LW.topS 20) KX Gn ?ze ?zl ?zc ?zk ?bb; (case ze => k_is); (case zl => k_is); (case zc => k_is); (case zk => k_is); (case bb => exact fun us hl => match us, hl with | [_], _ => rfl))
    case F5 => (refine' EW.factF (x := "tag_in") (st := LW.topS 21) KX Gn ?ze ?zl ?zc ?zk ?bb; (case ze => k_is); (case zl => k_is); (case zc => k_is); (case zk => k_is); (case bb => exact fun us hl => match us, hl with | [_], _ => rfl))
    case F6 => (refine' EW.factF (x := "fits_digits") (st := LW.topS 22) KX Gn ?ze ?zl ?zc ?zk ?bb; (case ze => k_is); (case zl => k_is); (case zc => k_is); (case zk => k_is); (case bb => exact fun us hl => match us, hl with | [_], _ => rfl))
    case F7 => (refine' EW.factF (x := "fits_tag") (st := LW.topS 23) KX Gn ?ze ?zl ?zc ?zk ?bb; (case ze => k_is); (case zl => k_is); (case zc => k_is); (case zk => k_is); (case bb => exact fun us hl => match us, hl with | [_], _ => rfl))
    case F8 => (refine' EW.factF (x := "fits_written") (st := LW.topS 24) KX Gn ?ze ?zl ?zc ?zk ?bb; (case ze => k_is); (case zl => k_is); (case zc => k_is); (case zk => k_is); (case bb => exact fun us hl => match us, hl with | [_], _ => rfl))
    case F9 => (refine' EW.factF (x := "near_in") (st := LW.topS 25) KX Gn ?ze ?zl ?zc ?zk ?bb; (case ze => k_is); (case zl => k_is); (case zc => k_is); (case zk => k_is); (case bb => exact fun us hl => match us, hl with | [_], _ => rfl))
    case F10 => (refine' EW.factF (x := "fits_numbers") (st := LW.topS 26) KX Gn ?ze ?zl ?zc ?zk ?bb; (case ze => k_is); (case zl => k_is); (case zc => k_is); (case zk => k_is); (case bb => exact fun us hl => match us, hl with | [_], _ => rfl))
    case F11 => (refine' EW.factF (x := "need_numbers") (st := LW.topS 27) KX Gn ?ze ?zl ?zc ?zk ?bb; (case ze => k_is); (case zl => k_is); (case zc => k_is); (case zk => k_is); (case bb => exact fun us hl => match us, hl with | [_], _ => rfl))
    case F12 => (refine' EW.factF (x := "runs_in") (st := LW.topS 28) KX Gn ?ze ?zl ?zc ?zk ?bb; (case ze => k_is); (case zl => k_is); (case zc => k_is); (case zk => k_is); (case bb => exact fun us hl => match us, hl with | [_], _ => rfl))
    case F13 => (refine' EW.factF (x := "text_in") (st := LW.topS 29) KX Gn ?ze ?zl ?zc ?zk ?bb; (case ze => k_is); (case zl => k_is); (case zc => k_is); (case zk => k_is); (case bb => exact fun us hl => match us, hl with | [_], _ => rfl))
    case F14 => (refine' EW.factF (x := "read_in") (st := LW.topS 30) KX Gn ?ze ?zl ?zc ?zk ?bb; (case ze => k_is); (case zl => k_is); (case zc => k_is); (case zk => k_is); (case bb => exact fun us hl => match us, hl with | [_], _ => rfl))
    case F15 => (refine' EW.factF (x := "need_register") (st := LW.topS 31) KX Gn ?ze ?zl ?zc ?zk ?bb; (case ze => k_is); (case zl => k_is); (case zc => k_is); (case zk => k_is); (case bb => exact fun us hl => match us, hl with | [_], _ => rfl))
    case F16 => (refine' EW.factF (x := "need_row") (st := LW.topS 32) KX Gn ?ze ?zl ?zc ?zk ?bb; (case ze => k_is); (case zl => k_is); (case zc => k_is); (case zk => k_is); (case bb => exact fun us hl => match us, hl with | [_], _ => rfl))
    case F17 => (refine' EW.factF (x := "need_load") (st := LW.topS 33) KX Gn ?ze ?zl ?zc ?zk ?bb; (case ze => k_is); (case zl => k_is); (case zc => k_is); (case zk => k_is); (case bb => exact fun us hl => match us, hl with | [_, _, _], _ => rfl))
    case F18 => (refine' EW.factF (x := "in_one") (st := LW.topS 34) KX Gn ?ze ?zl ?zc ?zk ?bb; (case ze => k_is); (case zl => k_is); (case zc => k_is); (case zk => k_is); (case bb => exact fun us hl => match us, hl with | [_, _, _], _ => rfl))
    case F19 => (refine' EW.factF (x := "late_in") (st := LW.topS 35) KX Gn ?ze ?zl ?zc ?zk ?bb; (case ze => k_is); (case zl => k_is); (case zc => k_is); (case zk => k_is); (case bb => exact fun us hl => match us, hl with | [_, _, _], _ => rfl))
    case F20 => (refine' EW.factF (x := "early_in") (st := LW.topS 36) KX Gn ?ze ?zl ?zc ?zk ?bb; (case ze => k_is); (case zl => k_is); (case zc => k_is); (case zk => k_is); (case bb => exact fun us hl => match us, hl with | [_, _, _], _ => rfl))
    case F21 => (refine' EW.factF (x := "tag_of") (st := LW.topS 37) KX Gn ?ze ?zl ?zc ?zk ?bb; (case ze => k_is); (case zl => k_is); (case zc => k_is); (case zk => k_is); (case bb => exact fun us hl => match us, hl with | [_], _ => rfl))
    case F22 => (refine' EW.factF (x := "is_tag") (st := LW.topS 38) KX Gn ?ze ?zl ?zc ?zk ?bb; (case ze => k_is); (case zl => k_is); (case zc => k_is); (case zk => k_is); (case bb => exact fun us hl => match us, hl with | [_], _ => rfl))
    case F23 => (refine' EW.factF (x := "number_of") (st := LW.topS 39) KX Gn ?ze ?zl ?zc ?zk ?bb; (case ze => k_is); (case zl => k_is); (case zc => k_is); (case zk => k_is); (case bb => exact fun us hl => match us, hl with | [_], _ => rfl))
    case F24 => (refine' EW.factF (x := "likely_tags") (st := LW.topS 40) KX Gn ?ze ?zl ?zc ?zk ?bb; (case ze => k_is); (case zl => k_is); (case zc => k_is); (case zk => k_is); (case bb => exact fun us hl => match us, hl with | [_], _ => rfl))
    case F25 => (refine' EW.factF (x := "register_of") (st := LW.topS 41) KX Gn ?ze ?zl ?zc ?zk ?bb; (case ze => k_is); (case zl => k_is); (case zc => k_is); (case zk => k_is); (case bb => exact fun us hl => match us, hl with | [_], _ => rfl))
    case F26 => (refine' EW.factF (x := "is_register") (st := LW.topS 42) KX Gn ?ze ?zl ?zc ?zk ?bb; (case ze => k_is); (case zl => k_is); (case zc => k_is); (case zk => k_is); (case bb => exact fun us hl => match us, hl with | [_], _ => rfl))
    case F27 => (refine' EW.factF (x := "numbers_of") (st := LW.topS 43) KX Gn ?ze ?zl ?zc ?zk ?bb; (case ze => k_is); (case zl => k_is); (case zc => k_is); (case zk => k_is); (case bb => exact fun us hl => match us, hl with | [_], _ => rfl))
    case F28 => (refine' EW.factF (x := "gaps_of") (st := LW.topS 44) KX Gn ?ze ?zl ?zc ?zk ?bb; (case ze => k_is); (case zl => k_is); (case zc => k_is); (case zk => k_is); (case bb => exact fun us hl => match us, hl with | [_], _ => rfl))
    case F29 => (refine' EW.factF (x := "without") (st := LW.topS 45) KX Gn ?ze ?zl ?zc ?zk ?bb; (case ze => k_is); (case zl => k_is); (case zc => k_is); (case zk => k_is); (case bb => exact fun us hl => match us, hl with | [_, _], _ => rfl))
    case F30 => (refine' EW.factF (x := "written_twice") (st := LW.topS 46) KX Gn ?ze ?zl ?zc ?zk ?bb; (case ze => k_is); (case zl => k_is); (case zc => k_is); (case zk => k_is); (case bb => exact fun us hl => match us, hl with | [_], _ => rfl))
    case F31 => (refine' EW.factF (x := "slip_of") (st := LW.topS 47) KX Gn ?ze ?zl ?zc ?zk ?bb; (case ze => k_is); (case zl => k_is); (case zc => k_is); (case zk => k_is); (case bb => exact fun us hl => match us, hl with | [_, _, _], _ => rfl))
    case F32 => (refine' EW.factF (x := "fewest_boxes") (st := LW.topS 48) KX Gn ?ze ?zl ?zc ?zk ?bb; (case ze => k_is); (case zl => k_is); (case zc => k_is); (case zk => k_is); (case bb => exact fun us hl => match us, hl with | [_, _, _], _ => rfl))
    case F33 => (refine' EW.factF (x := "box_starts") (st := LW.topS 49) KX Gn ?ze ?zl ?zc ?zk ?bb; (case ze => k_is); (case zl => k_is); (case zc => k_is); (case zk => k_is); (case bb => exact fun us hl => match us, hl with | [_, _, _], _ => rfl))
    case F34 => (refine' EW.factF (x := "are_boxes") (st := LW.topS 50) KX Gn ?ze ?zl ?zc ?zk ?bb; (case ze => k_is); (case zl => k_is); (case zc => k_is); (case zk => k_is); (case bb => exact fun us hl => match us, hl with | [_, _, _, _], _ => rfl))
    case F35 => (refine' EW.factF (x := "_law_cup") (st := LW.topS 52) KX Gn ?ze ?zl ?zc ?zk ?bb; (case ze => k_is); (case zl => k_is); (case zc => k_is); (case zk => k_is); (case bb => exact fun us hl => match us, hl with | [_], _ => rfl))
    case F36 => (refine' EW.factF (x := "_law_roll") (st := LW.topS 53) KX Gn ?ze ?zl ?zc ?zk ?bb; (case ze => k_is); (case zl => k_is); (case zc => k_is); (case zk => k_is); (case bb => exact fun us hl => match us, hl with | [_, _], _ => rfl))
    case F37 => (refine' EW.factF (x := "_law_some") (st := LW.topS 54) KX Gn ?ze ?zl ?zc ?zk ?bb; (case ze => k_is); (case zl => k_is); (case zc => k_is); (case zk => k_is); (case bb => exact fun us hl => match us, hl with | [_, _], _ => rfl))
    case F38 => (refine' EW.factF (x := "_law_same") (st := LW.topS 55) KX Gn ?ze ?zl ?zc ?zk ?bb; (case ze => k_is); (case zl => k_is); (case zc => k_is); (case zk => k_is); (case bb => exact fun us hl => match us, hl with | [_, _], _ => rfl))
    case F39 => (refine' EW.factF (x := "_law_load_words") (st := LW.topS 57) KX Gn ?ze ?zl ?zc ?zk ?bb; (case ze => k_is); (case zl => k_is); (case zc => k_is); (case zk => k_is); (case bb => exact fun us hl => match us, hl with | [_, _, _], _ => rfl))
    case F40 => (refine' EW.factF (x := "_law_texts_right") (st := LW.topS 58) KX Gn ?ze ?zl ?zc ?zk ?bb; (case ze => k_is); (case zl => k_is); (case zc => k_is); (case zk => k_is); (case bb => exact fun us hl => match us, hl with | [], _ => rfl))
    case F41 => (refine' EW.factF (x := "law") (st := LW.topS 59) KX Gn ?ze ?zl ?zc ?zk ?bb; (case ze => k_is); (case zl => k_is); (case zc => k_is); (case zk => k_is); (case bb => exact fun us hl => match us, hl with | [_], _ => rfl))
    case W0 => (refine' EW.factF (x := "_law_word") (st := LW.topS 56) KX Gn ?ze ?zl ?zc ?zk ?bb; (case ze => k_is); (case zl => k_is); (case zc => k_is); (case zk => k_is); (case bb => exact fun us hl => match us, hl with | [_], _ => rfl))
    case hw => kernel_rfl
    case C0 => (refine' EW.factC KX Gn ?ze ?zq ?zk ?zs ?zt; (case ze => k_is); (case zq => k_exc); (case zk => k_is); (case zs => k_is); (case zt => k_is))
    case C1 => (refine' EW.factC KX Gn ?ze ?zq ?zk ?zs ?zt; (case ze => k_is); (case zq => k_exc); (case zk => k_is); (case zs => k_is); (case zt => k_is))
    case C2 => (refine' EW.factC KX Gn ?ze ?zq ?zk ?zs ?zt; (case ze => k_is); (case zq => k_exc); (case zk => k_is); (case zs => k_is); (case zt => k_is))
    case C3 => (refine' EW.factC KX Gn ?ze ?zq ?zk ?zs ?zt; (case ze => k_is); (case zq => k_exc); (case zk => k_is); (case zs => k_is); (case zt => k_is))
    case C4 => (refine' EW.factC KX Gn ?ze ?zq ?zk ?zs ?zt; (case ze => k_is); (case zq => k_exc); (case zk => k_is); (case zs => k_is); (case zt => k_is))
    case C5 => (refine' EW.factC KX Gn ?ze ?zq ?zk ?zs ?zt; (case ze => k_is); (case zq => k_exc); (case zk => k_is); (case zs => k_is); (case zt => k_is))
    case C6 => (refine' EW.factC KX Gn ?ze ?zq ?zk ?zs ?zt; (case ze => k_is); (case zq => k_exc); (case zk => k_is); (case zs => k_is); (case zt => k_is))
    case V0 => (refine' EW.factI KX Gn ?ze; (case ze => k_is))
    case V1 => (refine' EW.factS KX Gn ?ze ?zz ?zl; (case ze => k_is); (case zz => decide +kernel); (case zl => decide +kernel))
    case V2 => (refine' EW.factS KX Gn ?ze ?zz ?zl; (case ze => k_is); (case zz => decide +kernel); (case zl => decide +kernel))
    case V3 => (refine' EW.factI KX Gn ?ze; (case ze => k_is))
    case V4 => (refine' EW.factI KX Gn ?ze; (case ze => k_is))
    case V5 => (refine' EW.factI KX Gn ?ze; (case ze => k_is))
    case b =>
      intro x hx
      simp only [EW.bltNames, List.mem_cons, List.not_mem_nil, or_false] at hx
      rcases hx with rfl | rfl | rfl | rfl | rfl | rfl | rfl | rfl | rfl | rfl | rfl | rfl | rfl | rfl | rfl | rfl | rfl | rfl | rfl | rfl
      · exact PySem.W.mg_none_of KX Gn (by k_is)
      · exact PySem.W.mg_none_of KX Gn (by k_is)
      · exact PySem.W.mg_none_of KX Gn (by k_is)
      · exact PySem.W.mg_none_of KX Gn (by k_is)
      · exact PySem.W.mg_none_of KX Gn (by k_is)
      · exact PySem.W.mg_none_of KX Gn (by k_is)
      · exact PySem.W.mg_none_of KX Gn (by k_is)
      · exact PySem.W.mg_none_of KX Gn (by k_is)
      · exact PySem.W.mg_none_of KX Gn (by k_is)
      · exact PySem.W.mg_none_of KX Gn (by k_is)
      · exact PySem.W.mg_none_of KX Gn (by k_is)
      · exact PySem.W.mg_none_of KX Gn (by k_is)
      · exact PySem.W.mg_none_of KX Gn (by k_is)
      · exact PySem.W.mg_none_of KX Gn (by k_is)
      · exact PySem.W.mg_none_of KX Gn (by k_is)
      · exact PySem.W.mg_none_of KX Gn (by k_is)
      · exact PySem.W.mg_none_of KX Gn (by k_is)
      · exact PySem.W.mg_none_of KX Gn (by k_is)
      · exact PySem.W.mg_none_of KX Gn (by k_is)
      · exact PySem.W.mg_none_of KX Gn (by k_is)
