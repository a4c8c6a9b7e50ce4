import PyProof.Rows.All
import KE.SortData
import Wide.All
import OpenK.AllK
import Wide.FinOn
import PyProof.StrBlock2
import HandS.ForMost
import HandS.ForExc
import HandS.Walk
import HandS.Zip
import HandS.IsInst
import HandS.TupAny
import HandS.TupMul
import HandS.Style
import HandS.Wide
import HandS.WideBits
import HandS.SortInts
import HandS.Deep
import KE.DataEq
import HandS.Conv
import HandS.TryOnly
import KE.GoesEnum
import HandS.DictComp
import HandS.More
import KE.KRevSl
import PyProof.ListStr
import HandS.SetKeys
import HandS.SetFor
import PyProof.ReprRoads
import HandS.TryMany
import HandS.ExcOwn
import HandS.ExcField
import HandS.HeadHook1
import HandS.WordsExc
import HandS.Defaults
import HandS.HeadNt
import HandS.Codes
import HandS.HeadEnd
import HandS.Ends
import HandS.Head0
import HandS.Head1
import HandS.Head2
import HandS.HeadHook2
import PySem.Challenge.RW_wirewebs_k02_webs_judged
set_option Elab.async false
set_option linter.all false
/-! A small core of Python by values: data, core texts, an evaluator. -/
namespace Ev
open PySem

/-- data: lists, tuples and dicts by value; a cell is a shared object of the store -/
inductive D where
  | non | bl (b : Bool) | int (i : Int) | str (x : Str)
  | tup (ds : List D) | lst (ds : List D) | dic (ks vs : List D) | cell (n : Nat)
  deriving Inhabited

mutual
def D.toP : D → PyData
  | .non => .none
  | .bl b => .bool b
  | .int i => .int i
  | .str x => .str x
  | .tup ds => .tuple (D.toPs ds)
  | .lst ds => .list (D.toPs ds)
  | .dic _ _ => .dict []
  | .cell _ => .dict []
def D.toPs : List D → List PyData
  | [] => []
  | d :: ds => d.toP :: D.toPs ds
end
mutual
/-- no dict, no cell within; nested at most n deep -/
def D.pl : D → Nat → Bool
  | .non, _ => true
  | .bl _, _ => true
  | .int _, _ => true
  | .str _, _ => true
  | .tup ds, n => match n with | 0 => false | n + 1 => D.pls ds n
  | .lst ds, n => match n with | 0 => false | n + 1 => D.pls ds n
  | .dic _ _, _ => false
  | .cell _, _ => false
def D.pls : List D → Nat → Bool
  | [], _ => true
  | d :: ds, n => d.pl n && D.pls ds n
end
def D.plain (d : D) : Bool := d.pl 40
def D.plains (ds : List D) : Bool := D.pls ds 40
mutual
/-- == -/
def D.eqv : D → D → Bool
  | .non, e => match e with | .non => true | _ => false
  | .bl a, e => match e with | .bl b => a == b | .int j => (if a then 1 else 0) == j | _ => false
  | .int i, e => match e with | .bl b => i == (if b then 1 else 0) | .int j => i == j | _ => false
  | .str x, e => match e with | .str y => x == y | _ => false
  | .tup xs, e => match e with | .tup ys => D.eqvs xs ys | _ => false
  | .lst xs, e => match e with | .lst ys => D.eqvs xs ys | _ => false
  | .dic _ _, _ => false
  | .cell _, _ => false
def D.eqvs : List D → List D → Bool
  | [], e => match e with | [] => true | _ => false
  | x :: xs, e => match e with | y :: ys => D.eqv x y && D.eqvs xs ys | _ => false
end
/-- what a shared object holds: a list; an instance of the class c -/
inductive Cel where
  | lst (ds : List D) | ins (c : Nat) (fs : List (Str × D))
  deriving Inhabited
abbrev Sto := List Cel
/-- an exception: its class, its field -/
inductive Exn where
  | mk (c : Nat) (f : Option (Str × D))
inductive Out (α : Type) where
  | ok (a : α) (s : Sto) | exc (x : Exn) (s : Sto) | bad
def M (α : Type) := Sto → Out α
namespace M
def ret {α : Type} (a : α) : M α := fun s => .ok a s
def bnd {α β : Type} (m : M α) (f : α → M β) : M β := fun s => match m s with
  | .ok a s' => f a s'
  | .exc x s' => .exc x s'
  | .bad => .bad
def bad {α : Type} : M α := fun _ => .bad
/-- an exception is not gone on with -/
def nox {α : Type} (m : M α) : M α := fun s => match m s with
  | .exc _ _ => .bad
  | r => r
def lift {α : Type} : Option α → M α
  | some a => ret a
  | none => bad
end M
instance : Monad M where
  pure := M.ret
  bind := M.bnd

def LIM : Nat := 16777216
/-! ### operators -/
inductive Bop where
  | add | sub | mul | fdiv | mod | pow
  deriving DecidableEq, Repr
inductive Cop where
  | eq | ne | lt | le | gt | ge | in_ | nin
  deriving DecidableEq, Repr
inductive Tyn where
  | int | bool | str | tup | lst | dict
  deriving DecidableEq, Repr
def rep (n : Nat) (xs : List D) : List D := (List.replicate n xs).flatten
def mulOk (i j : Int) : Bool := (decide (-(2 ^ 64) < i) && decide (i < 2 ^ 64)) || (decide (-(2 ^ 64) < j) && decide (j < 2 ^ 64)) || decide (i.natAbs.log2 + j.natAbs.log2 < 1000000)
def addD : D → D → Option D
  | .int i, .int j => some (.int (i + j))
  | .str x, .str y => if x.length + y.length ≤ LIM then some (.str (x ++ y)) else none
  | .lst xs, .lst ys => if xs.length + ys.length ≤ LIM then some (.lst (xs ++ ys)) else none
  | .tup xs, .tup ys => if xs.length + ys.length ≤ LIM then some (.tup (xs ++ ys)) else none
  | .bl b, .int j => some (.int ((if b = true then (1 : Int) else 0) + j))
  | _, _ => none
/-- list + list -/
def catD : D → D → Option D
  | .lst xs, .lst ys => if xs.length + ys.length ≤ LIM then some (.lst (xs ++ ys)) else none
  | _, _ => none
def subD : D → D → Option D
  | .int i, .int j => some (.int (i - j))
  | _, _ => none
def mulD : D → D → Option D
  | .int i, .int j => if mulOk i j then some (.int (i * j)) else none
  | .tup xs, .int k => if -(2 ^ 63) ≤ k ∧ k < 2 ^ 63 ∧ xs.length * k.toNat ≤ LIM then some (.tup (rep k.toNat xs)) else none
  | .str z, .int k => if 0 ≤ k ∧ k ≤ 1000 ∧ z.length ≤ 1000 then some (.str (Txt.mul z k)) else none
  | _, _ => none
def fdivD : D → D → Option D
  | .int i, .int j => if 0 < j ∧ j.natAbs.log2 < 8000 then some (.int (i / j)) else none
  | _, _ => none
def modD : D → D → Option D
  | .int i, .int j => if 0 < j then some (.int (i % j)) else none
  | _, _ => none
def powD : D → D → Option D
  | .int i, .int j => if 0 ≤ j ∧ j ≤ 1000000 ∧ i.natAbs < 2 ^ 64 then some (.int (i ^ j.toNat)) else none
  | _, _ => none
def bopD : Bop → D → D → Option D
  | .add => addD | .sub => subD | .mul => mulD | .fdiv => fdivD | .mod => modD | .pow => powD
/-- x o= y, of what doesn't change in place -/
def augD (o : Bop) (x d : D) : Option D := match o, x, d with
  | .add, .int i, .int j => some (.int (i + j))
  | .sub, .int i, .int j => some (.int (i - j))
  | .add, .str x, .str y => if x.length + y.length ≤ LIM then some (.str (x ++ y)) else none
  | _, _, _ => none
def ltS (x y : Str) : Bool := decide (x.cps.toList < y.cps.toList)
def ordD (p : Int → Int → Bool) (q : Str → Str → Bool) : D → D → Option Bool
  | .int i, .int j => some (p i j)
  | .str x, .str y => some (q x y)
  | _, _ => none
/-- a cell's list stands for itself -/
def seeD (d : D) : M D := fun s => match d with
  | .cell n => match s[n]? with
    | some (.lst ds) => .ok (.lst ds) s
    | _ => .bad
  | d => .ok d s
/-- a list is there -/
def seeL (d : D) : M Unit := fun s => match d with
  | .lst _ => .ok () s
  | .cell n => match s[n]? with
    | some (.lst _) => .ok () s
    | _ => .bad
  | _ => .bad
/-- the place of a key -/
def keyAt : List D → List D → D → Option D
  | k :: ks, v :: vs, d => if D.eqv k d then some v else keyAt ks vs d
  | _, _, _ => none
/-- keys of one kind: whole numbers and texts -/
def isKey : D → Bool
  | .int _ => true
  | .str _ => true
  | _ => false
def inD (x c : D) : Option Bool := match c with
  | .lst ys => if x.plain && D.plains ys then some (ys.any fun y => D.eqv y x) else none
  | .tup ys => if x.plain && D.plains ys then some (ys.any fun y => D.eqv y x) else none
  | .str z => match x with
    | .str y => match y.cps.toList with
      | [c] => some (decide (c ∈ z.cps.toList))
      | _ => none
    | _ => none
  | .dic ks vs => if isKey x then some (keyAt ks vs x).isSome else none
  | _ => none
def copD : Cop → D → D → Option Bool
  | .eq, a, b => if a.plain && b.plain then some (D.eqv a b) else none
  | .ne, a, b => if a.plain && b.plain then some (!D.eqv a b) else none
  | .lt, a, b => ordD (fun i j => decide (i < j)) ltS a b
  | .le, a, b => ordD (fun i j => decide (i ≤ j)) (fun x y => !ltS y x) a b
  | .gt, a, b => ordD (fun i j => decide (j < i)) (fun x y => ltS y x) a b
  | .ge, a, b => ordD (fun i j => decide (j ≤ i)) (fun x y => !ltS x y) a b
  | .in_, a, b => inD a b
  | .nin, a, b => (inD a b).map not
/-! ### subscripts -/
def ixN (n : Nat) (i : Int) : Option Nat := if 0 ≤ i then (if i < n then some i.toNat else none) else if -(n : Int) ≤ i then some (i + n).toNat else none
def ixD : D → D → Option D
  | .lst xs, .int i => (ixN xs.length i).bind fun j => xs[j]?
  | .tup xs, .int i => (ixN xs.length i).bind fun j => xs[j]?
  | .str z, .int i => if z.length ≤ LIM then (ixN z.cps.toList.length i).bind fun j => (z.cps.toList[j]?).map fun c => .str ⟨#[c]⟩ else none
  | .dic ks vs, k => if isKey k then keyAt ks vs k else none
  | _, _ => none
def sIx (n d : Nat) : Option Int → Nat
  | none => d
  | some v => if v < 0 then (v + (n : Int)).toNat else min v.toNat n
def cut {α : Type} (xs : List α) (lo hi : Option Int) : List α := (xs.drop (sIx xs.length 0 lo)).take (sIx xs.length xs.length hi - sIx xs.length 0 lo)
def partD : Option D → Option (Option Int)
  | none => some none
  | some (.int i) => some (some i)
  | _ => none
def slD (d : D) (lo hi : Option Int) : Option D := match d with
  | .lst xs => some (.lst (cut xs lo hi))
  | .tup xs => some (.tup (cut xs lo hi))
  | .str z => if z.length ≤ LIM then some (.str ⟨(cut z.cps.toList lo hi).toArray⟩) else none
  | _ => none
def tyD : Tyn → D → Bool
  | .int, .int _ => true
  | .int, .bl _ => true
  | .bool, .bl _ => true
  | .str, .str _ => true
  | .tup, .tup _ => true
  | .lst, .lst _ => true
  | .lst, .cell _ => true
  | .dict, .dic _ _ => true
  | _, _ => false
/-! ### built-ins -/
inductive Bi where
  | len | int_ | abs | min2 | max2 | all | any | sum | maxl | minl
  | srt | srtset | lenset | repr | strn | ident
  deriving DecidableEq, Repr
def insI (x : Int) : List Int → List Int
  | [] => [x]
  | y :: ys => if x ≤ y then x :: y :: ys else y :: insI x ys
def sortI : List Int → List Int
  | [] => []
  | x :: xs => insI x (sortI xs)
def insS (x : Str) : List Str → List Str
  | [] => [x]
  | y :: ys => if ltS y x then y :: insS x ys else x :: y :: ys
def sortS : List Str → List Str
  | [] => []
  | x :: xs => insS x (sortS xs)
def allI : List D → Option (List Int)
  | [] => some []
  | .int i :: ds => (allI ds).map (i :: ·)
  | _ :: _ => none
def allS : List D → Option (List Str)
  | [] => some []
  | .str i :: ds => (allS ds).map (i :: ·)
  | _ :: _ => none
def allB : List D → Option (List Bool)
  | [] => some []
  | .bl i :: ds => (allB ds).map (i :: ·)
  | _ :: _ => none
def srtD (ds : List D) : Option (List D) := match allI ds with
  | some ns => some ((sortI ns).map .int)
  | none => match allS ds with
    | some xs => some ((sortS xs).map .str)
    | none => none
def nubI : List Int → List Int
  | [] => []
  | x :: xs => if xs.contains x then nubI xs else x :: nubI xs
def nubS : List Str → List Str
  | [] => []
  | x :: xs => if xs.contains x then nubS xs else x :: nubS xs
def nubA (ds : List D) : Option (List D) := match allI ds with
  | some ns => some ((nubI ns).map .int)
  | none => match allS ds with
    | some xs => some ((nubS xs).map .str)
    | none => none
def nubD (ds : List D) : Option (List D) := if ds.length ≤ 4000 then nubA ds else none
def seqD : D → Option (List D)
  | .lst xs => some xs
  | .tup xs => some xs
  | _ => none
/-- what a for or a comprehension walks -/
def itD : D → Option (List D)
  | .lst xs => some xs
  | .tup xs => some xs
  | .str z => if z.cps.size ≤ LIM then some (z.cps.toList.map fun c => .str ⟨#[c]⟩) else none
  | _ => none
def one (f : D → Option D) : List D → Option D
  | [d] => f d
  | _ => none
def two (f : D → D → Option D) : List D → Option D
  | [d, e] => f d e
  | _ => none
def lenD : D → Option D
  | .str x => if x.length ≤ LIM then some (.int x.length) else none
  | .lst xs => some (.int xs.length)
  | .tup xs => some (.int xs.length)
  | .dic ks _ => some (.int ks.length)
  | _ => none
def intD : D → Option D
  | .int i => some (.int i)
  | .bl b => some (.int (if b then 1 else 0))
  | _ => none
def absD : D → Option D
  | .int i => some (.int (if i < 0 then -i else i))
  | _ => none
def minD : D → D → Option D
  | .int i, .int j => some (.int (if j < i then j else i))
  | _, _ => none
def maxD : D → D → Option D
  | .int i, .int j => some (.int (if j > i then j else i))
  | _, _ => none
def allD : D → Option D
  | .lst xs => (allB xs).map fun bs => .bl (bs.all id)
  | _ => none
def anyD : D → Option D
  | .lst xs => (allB xs).map fun bs => .bl (bs.any id)
  | _ => none
def sumD : D → Option D
  | .lst xs => (allI xs).map fun ns => .int ns.sum
  | _ => none
def minLD : D → Option D
  | .lst xs => (allI xs).bind fun ns => match ns with
    | [] => none
    | n :: r => some (.int (r.foldl (fun a b => if b < a then b else a) n))
  | _ => none
def maxLD : D → Option D
  | .lst xs => (allI xs).bind fun ns => match ns with
    | [] => none
    | n :: r => some (.int (r.foldl (fun a b => if a < b then b else a) n))
  | _ => none
def strnD : D → Option D
  | .int i => if i.natAbs.log2 < 1920 then some (.str (toString i)) else none
  | _ => none
/-- each two of them can be compared, place by place -/
def alikesB (ds : List D) : Bool := ds.all fun a => ds.all fun b => PySem.W.alike a.toP b.toP
def tupB (ds : List D) : Bool := ds.all fun a => match a with
  | .tup (_ :: _) => true
  | _ => false
def flatB (ds : List D) : Bool := ds.all fun a => match a with
  | .tup _ => false
  | .non => false
  | _ => true
def leD (a b : D) : Bool := PySem.W.dataLe false D.toP a b
/-- sorted: of data that can be compared -/
def srtA (ds : List D) : Option (List D) := if ds.all (·.plain) && alikesB ds && (tupB ds || flatB ds) && decide (ds.length ≤ LIM) then some (ds.mergeSort leD) else none
def sortedD : D → Option D
  | .lst xs => (srtA xs).map .lst
  | _ => none
def sortedSetD (d : D) : Option D := (((seqD d).bind nubD).bind srtD).map .lst
def lenSetD (d : D) : Option D := ((seqD d).bind nubD).map fun l => .int l.length
/-- repr(..) of a tuple or list -/
def reprD (d : D) : Option D := match d with
  | .tup _ => if d.plain && d.toP.showable && decide (d.toP.shown.length ≤ LIM) then some (.str d.toP.shown) else none
  | .lst _ => if d.plain && d.toP.showable && decide (d.toP.shown.length ≤ LIM) then some (.str d.toP.shown) else none
  | _ => none
def biD : Bi → List D → Option D
  | .len => one lenD
  | .int_ => one intD
  | .abs => one absD
  | .min2 => two minD
  | .max2 => two maxD
  | .all => one allD
  | .any => one anyD
  | .sum => one sumD
  | .srt => one sortedD
  | .srtset => one sortedSetD
  | .lenset => one lenSetD
  | .repr => one reprD
  | .minl => one minLD
  | .maxl => one maxLD
  | .strn => one strnD
  | _ => fun _ => none
/-! ### the core -/
mutual
inductive E where
  | var (i : Nat) | take (i : Nat) | con (d : D)
  | tup (es : Es) | lst (es : Es)
  | bin (o : Bop) (a b : E) | neg (a : E) | repl (es : Es) (k : E)
  | cmp (o : Cop) (a b : E) | isn (a : E) (g : Bool) | chain (o o' : Cop) (a b c : E)
  | and (a b : E) | or (a b : E) | not (a : E) | ite (c a b : E)
  | ix (a b : E) | sl (a : E) (lo hi : Oe) | rev (a : E)
  | call (f : Nat) (es : Es) | bi (b : Bi) (es : Es) | isi (a : E) (ts : List Tyn)
  | tolst (i : Src) | totup (i : Src)
  | comp (e : E) (t : List Nat) (u : Bool) (i : Src) (c : Oe) (own : List Nat)
  | newc (e : E)
  | dnew | dcopy (a : E) | dcomp (k v : E) (t : List Nat) (u : Bool) (i : Src) (c : Oe) (own : List Nat)
  | dget (a k d : E) | isb (a : E) (b g : Bool) | idx (a x : E) | join (a b : E)
  | kcall (f : Nat) (pm : List Nat) (es : Es) | call0 (f : Nat) | lstr (a : E) | cat (a b : E)
inductive Es where
  | nil | cons (e : E) (es : Es)
inductive Oe where
  | no | yes (e : E)
/-- what is walked -/
inductive Src where
  | seq (e : E) | rng (e : E) | rng2 (a b : E) | enum (e : E) | zip (a b : E)
end
/-- what an except clause gives its name: a constant, what is in the error's field; these in a tuple, in a list -/
inductive HA where
  | con (d : D) | fld (f : Str)
inductive HV where
  | at_ (a : HA) | tup (as : List HA) | lst (as : List HA)
def HA.val (f : Option (Str × D)) : HA → Option D
  | .con d => some d
  | .fld x => match f with
    | some (g, d) => if g == x then some d else none
    | none => none
def HA.vals (f : Option (Str × D)) : List HA → Option (List D)
  | [] => some []
  | a :: as => (a.val f).bind fun d => (HA.vals f as).map (d :: ·)
def HV.val (f : Option (Str × D)) : HV → Option D
  | .at_ a => a.val f
  | .tup as => (HA.vals f as).map .tup
  | .lst as => (HA.vals f as).map .lst
/-- an except clause: of so many classes it takes these; its name; what it sets, to what -/
structure Hd where
  n : Nat
  cs : List Nat
  nm : Option Nat
  i : Nat
  v : HV
mutual
inductive Sm where
  | fz (is : List Nat) (s : Sm)
  | asg (i : Nat) (e : E) | own (i : Nat) (e : E)
  | unp (is : List Nat) (e : E) | par (is : List (Nat × Bool)) (es : Es)
  | app (i : Nat) (e : E) | setix (i : Nat) (k e : E) | pop (i : Nat) (k : E) | apppop (i j : Nat) (k : E) | ext (i : Nat) (e : E)
  | aug (i : Nat) (o : Bop) (e : E)
  | ife (c : E) (a b : Sb) | for_ (t : List Nat) (u : Bool) (i : Src) (b : Sb) | whl (c : E) (b : Sb)
  | ret (e : E) | pass | cont | ex (e : E) | never
  | rais (c : Nat) | raisF (c : Nat) (f : Str) (e : E) | try_ (b : Sb) (hs : List Hd)
inductive Sb where
  | nil | cons (s : Sm) (ss : Sb)
end
inductive Sl where
  | no | val (d : D) | own (d : D)
  deriving Inhabited
abbrev Envi := List Sl
def getV (env : Envi) (i : Nat) : Option D := match env[i]? with
  | some (.val d) => some d
  | some (.own d) => some d
  | _ => none
def takeV (env : Envi) (i : Nat) : Option D := match env[i]? with
  | some (.val d) => some d
  | _ => none
def wipe (env : Envi) : List Nat → Envi
  | [] => env
  | i :: is => (wipe env is).set i .no
def putAll : Envi → List Nat → List D → Option Envi
  | env, [], [] => some env
  | env, i :: is, d :: ds => putAll (env.set i (.val d)) is ds
  | _, _, _ => none
/-- a target: one name, or several that a tuple or list is unpacked into -/
def bindT (env : Envi) (t : List Nat) (u : Bool) (d : D) : Option Envi :=
  if u then (match d with
    | .tup ds => putAll env t ds
    | .lst ds => putAll env t ds
    | _ => none) else match t with
    | [i] => some (env.set i (.val d))
    | _ => none
def replD : List D → List D → D → D → List D
  | k :: ks, v :: vs, d, e => (if D.eqv k d then e else v) :: replD ks vs d e
  | _, _, _, _ => []
def putD (ks vs : List D) (d e : D) : List D × List D := if ks.any fun k => D.eqv k d then (ks, replD ks vs d e) else (ks ++ [d], vs ++ [e])
def putM : List D × List D → D → D → Option (List D × List D) := fun a k v => if isKey k && decide (a.1.length < LIM) then some (putD a.1 a.2 k v) else none
def compK (f : D → M (Option (D × D))) : List D → List D × List D → M (List D × List D)
  | [], a => pure a
  | d :: ds, a => do match ← f d with
    | some r => do
      let a ← M.lift (putM a r.1 r.2)
      compK f ds a
    | none => compK f ds a
def pairsK : List D → List D × List D → Option (List D × List D)
  | [], a => some a
  | .tup [k, v] :: ds, a => (putM a k v).bind (pairsK ds)
  | _ :: _, _ => none
def flatD : D → Bool
  | .non => true
  | .bl _ => true
  | .int _ => true
  | .str _ => true
  | _ => false
def idxD : D → D → Option D
  | .lst ds, x => if ds.all flatD && flatD x then (ds.findIdx? fun y => D.eqv y x).map fun j => .int (j : Nat) else none
  | _, _ => none
def tst (m : M D) : M Bool := do match ← m with
  | .bl b => pure b
  | _ => M.bad
/-- a part of a slice -/
def prt (m : M (Option D)) : M (Option Int) := do
  let l ← m
  M.lift (partD l)
/-- a test that may lack -/
def tso (m : M (Option D)) : M Bool := do match ← m with
  | none => pure true
  | some (.bl b) => pure b
  | _ => M.bad
def compL (f : D → M (Option D)) : List D → M (List D)
  | [] => pure []
  | d :: ds => do
    let r ← f d
    let rs ← compL f ds
    pure (match r with | some x => x :: rs | none => rs)
def pairs : List D → List D → List D
  | x :: xs, y :: ys => .tup [x, y] :: pairs xs ys
  | _, _ => []
def number : Nat → List D → List D
  | _, [] => []
  | k, x :: xs => .tup [.int k, x] :: number (k + 1) xs
def range (lo : Int) (n : Nat) : List D := (List.range n).map fun k => .int (lo + (k : Nat))
abbrev Fns := Nat → List D → M D
section
variable (F : Fns)
mutual
def ev : E → Envi → M D
  | .var i, env => M.lift (getV env i)
  | .take i, env => M.lift (takeV env i)
  | .con d, _ => pure d
  | .tup es, env => do pure (.tup (← evs es env))
  | .lst es, env => do pure (.lst (← evs es env))
  | .bin o a b, env => do
    let x ← ev a env
    let y ← ev b env
    let x ← seeD x
    let y ← seeD y
    M.lift (bopD o x y)
  | .cat a b, env => do
    let x ← ev a env
    let y ← ev b env
    let x ← seeD x
    let y ← seeD y
    M.lift (catD x y)
  | .repl es k, env => do
    let xs ← evs es env
    match ← ev k env with
    | .int k => if -(2 ^ 63) ≤ k ∧ k < 2 ^ 63 ∧ xs.length * k.toNat ≤ LIM then pure (.lst (rep k.toNat xs)) else M.bad
    | _ => M.bad
  | .neg a, env => do match ← ev a env with
    | .int i => pure (.int (-i))
    | _ => M.bad
  | .cmp o a b, env => do
    let x ← ev a env
    let y ← ev b env
    let x ← seeD x
    let y ← seeD y
    let r ← M.lift (copD o x y)
    pure (.bl r)
  | .isn a g, env => do
    let x ← ev a env
    pure (.bl (match x with | .non => g | _ => !g))
  | .chain o o' a b c, env => do
    let x ← ev a env
    let y ← ev b env
    let r ← M.lift (copD o x y)
    if r then do
      let z ← ev c env
      let r ← M.lift (copD o' y z)
      pure (.bl r)
    else pure (.bl false)
  | .and a b, env => do if ← tst (ev a env) then ev b env else pure (.bl false)
  | .or a b, env => do if ← tst (ev a env) then pure (.bl true) else ev b env
  | .not a, env => do pure (.bl (!(← tst (ev a env))))
  | .ite c a b, env => do if ← tst (ev c env) then ev a env else ev b env
  | .ix a b, env => do
    let x ← ev a env
    let y ← ev b env
    let x ← seeD x
    M.lift (ixD x y)
  | .sl a lo hi, env => do
    let x ← ev a env
    let l ← prt (evo lo env)
    let h ← prt (evo hi env)
    let x ← seeD x
    M.lift (slD x l h)
  | .rev a, env => do
    let x ← ev a env
    match ← seeD x with
    | .lst ds => pure (.lst ds.reverse)
    | .tup ds => pure (.tup ds.reverse)
    | _ => M.bad
  | .call f es, env => do
    let ds ← evs es env
    F f ds
  | .bi b es, env => do
    let ds ← evs es env
    let ds ← (match ds with | [d] => do pure [← seeD d] | ds => pure ds)
    M.lift (biD b ds)
  | .isi a ts, env => do
    let x ← ev a env
    pure (.bl (ts.any fun t => tyD t x))
  | .tolst i, env => do pure (.lst (← evi true i env))
  | .totup i, env => do pure (.tup (← evi true i env))
  | .comp e t u i c own, env => do
    let ds ← evi false i env
    let rs ← compL (fun d => M.nox (do
      let env' ← M.lift (bindT (wipe env own) t u d)
      if ← tso (evo c env') then do
        pure (some (← ev e env'))
      else pure none)) ds
    pure (.lst rs)
  | .newc e, env => do match ← ev e env with
    | .lst ds => fun s => .ok (.cell s.length) (s ++ [.lst ds])
    | _ => M.bad
  | .dnew, _ => pure (.dic [] [])
  | .dcopy a, env => do match ← ev a env with
    | .dic ks vs => pure (.dic ks vs)
    | .lst ds => M.lift ((pairsK ds ([], [])).map fun r => .dic r.1 r.2)
    | _ => M.bad
  | .dcomp k v t u i c own, env => do
    let ds ← evi false i env
    let r ← compK (fun d => M.nox (do
      let env' ← M.lift (bindT (wipe env own) t u d)
      if ← tso (evo c env') then do
        let k ← ev k env'
        let v ← ev v env'
        pure (some (k, v))
      else pure none)) ds ([], [])
    pure (.dic r.1 r.2)
  | .dget a k d, env => do
    let x ← ev a env
    match x with
    | .dic ks vs => do
      let k ← ev k env
      let d ← ev d env
      if isKey k then pure ((keyAt ks vs k).getD d) else M.bad
    | _ => M.bad
  | .isb a b g, env => do
    let x ← ev a env
    pure (.bl (match x with | .bl c => (b == c) == g | _ => !g))
  | .idx a x, env => do
    let d ← ev a env
    let _ ← seeL d
    let y ← ev x env
    let d ← seeD d
    M.lift (idxD d y)
  | .join a b, env => do
    let x ← ev a env
    match x with
    | .str z => do
      let y ← ev b env
      match y with
      | .lst ds => match allS ds with
        | some xs => if (xs.map (·.length)).sum + xs.length * z.length ≤ LIM then pure (.str (Txt.join z xs)) else M.bad
        | none => M.bad
      | _ => M.bad
    | _ => M.bad
  | .kcall f pm es, env => do
    let ds ← evs es env
    F f (pm.map fun i => ds.getD i .non)
  | .call0 f, _ => F f []
  | .lstr a, env => do
    let x ← ev a env
    match x with
    | .str z => if z.cps.size ≤ LIM then pure (.lst (z.cps.toList.map fun c => .str ⟨#[c]⟩)) else M.bad
    | _ => M.bad
def evs : Es → Envi → M (List D)
  | .nil, _ => pure []
  | .cons e es, env => do
    let d ← ev e env
    let ds ← evs es env
    pure (d :: ds)
def evo : Oe → Envi → M (Option D)
  | .no, _ => pure none
  | .yes e, env => do pure (some (← ev e env))
def evi (g : Bool) : Src → Envi → M (List D)
  | .seq e, env => do
    let x ← ev e env
    if g then (do
      let x ← seeD x
      M.lift (seqD x)) else M.lift (itD x)
  | .rng e, env => do match ← ev e env with
    | .int n => if -(2 ^ 62) ≤ n ∧ n < LIM then pure (range 0 n.toNat) else M.bad
    | _ => M.bad
  | .rng2 a b, env => do
    let x ← ev a env
    let y ← ev b env
    match x, y with
    | .int i, .int j => if -(2 ^ 62) ≤ i ∧ i < 2 ^ 62 ∧ j - i < LIM ∧ -(2 ^ 62) ≤ j ∧ j < 2 ^ 62 then pure (range i (j - i).toNat) else M.bad
    | _, _ => M.bad
  | .enum e, env => do
    let x ← ev e env
    let ds ← M.lift (seqD x)
    pure (number 0 ds)
  | .zip a b, env => do
    let x ← ev a env
    let y ← ev b env
    match x, y with
    | .lst xs, .lst ys => pure (pairs xs ys)
    | .tup xs, .tup ys => pure (pairs xs ys)
    | _, _ => M.bad
end
end
/-! ### statements -/
inductive Fl where
  | nx (env : Envi) | rt (d : D) | ct (env : Envi)
def freeze (env : Envi) : List Nat → Envi
  | [] => env
  | i :: is => match (freeze env is)[i]? with
    | some (.own d) => (freeze env is).set i (.val d)
    | _ => freeze env is
def loopW (c : Envi → M Bool) (b : Envi → M Fl) : Nat → Envi → M Fl
  | 0, _ => M.bad
  | n + 1, env => do
    if ← c env then (do match ← b env with
      | .nx e => loopW c b n e
      | .ct e => loopW c b n e
      | .rt d => pure (.rt d)) else pure (.nx env)
def forL (b : D → Envi → M Fl) : List D → Envi → M Fl
  | [], env => pure (.nx env)
  | d :: ds, env => do match ← b d env with
    | .nx e => forL b ds e
    | .ct e => forL b ds e
    | .rt d => pure (.rt d)
def putPar : Envi → List (Nat × Bool) → List D → Option Envi
  | env, [], [] => some env
  | env, (i, o) :: is, d :: ds => putPar (env.set i (if o then .own d else .val d)) is ds
  | _, _, _ => none
/-- what a name's list or dict becomes: an own one in its slot, a shared one in the store -/
def onList (env : Envi) (i : Nat) (f : List D → Option (List D)) : M Envi := fun s => match env[i]? with
  | some (.own (.lst ds)) => match f ds with
    | some es => .ok (env.set i (.own (.lst es))) s
    | none => .bad
  | some (.val (.cell n)) => match s[n]? with
    | some (.lst ds) => match f ds with
      | some es => .ok env (s.set n (.lst es))
      | none => .bad
    | _ => .bad
  | _ => .bad
def setD (env : Envi) (i : Nat) (k e : D) : M Envi := match env[i]? with
  | some (.own (.dic ks vs)) => if isKey k && decide (ks.length < LIM) then pure (env.set i (.own (.dic (putD ks vs k e).1 (putD ks vs k e).2))) else M.bad
  | _ => match k with
    | .int j => onList env i fun ds => (ixN ds.length j).map fun j => ds.set j e
    | _ => M.bad
def popAt (ds : List D) : D → Option (D × List D)
  | .int j => (Ev.ixN ds.length j).bind fun j => (ds[j]?).map fun d => (d, ds.eraseIdx j)
  | _ => none
def popD (env : Envi) (i : Nat) (k : D) : M (Envi × D) := fun s => match env[i]? with
  | some (.own (.lst ds)) => match popAt ds k with
    | some (d, es) => .ok (env.set i (.own (.lst es)), d) s
    | none => .bad
  | some (.val (.cell n)) => match s[n]? with
    | some (.lst ds) => match popAt ds k with
      | some (d, es) => .ok (env, d) (s.set n (.lst es))
      | none => .bad
    | _ => .bad
  | _ => .bad
/-- the name holds a list that may be changed -/
def recv (env : Envi) (i : Nat) : M Unit := fun s => match env[i]? with
  | some (.own (.lst _)) => .ok () s
  | some (.val (.cell n)) => match s[n]? with
    | some (.lst _) => .ok () s
    | _ => .bad
  | _ => .bad
def appD (env : Envi) (i : Nat) (d : D) : M Envi := onList env i fun ds => if ds.length < LIM then some (ds ++ [d]) else none
def extD (env : Envi) (i : Nat) (d : D) : M Envi := match d with
  | .lst es => onList env i fun ds => if ds.length + es.length ≤ LIM then some (ds ++ es) else none
  | _ => M.bad
/-- the except clauses, one behind another: all names but the one that is set are forgotten -/
def hdl : List Hd → Exn → Envi → M Fl
  | [], x, _ => fun s => .exc x s
  | h :: hs, .mk c f, env => if c < h.n then (if h.cs.contains c then M.bnd (M.lift (h.v.val f)) fun d => M.ret (.nx ((List.replicate env.length .no).set h.i (.val d))) else hdl hs (.mk c f) env) else M.bad
def rais (x : Exn) : M Fl := fun s => .exc x s
def tryM (b : M Fl) (h : Exn → M Fl) : M Fl := fun s => match b s with
  | .exc x s' => h x s'
  | r => r
section
variable (F : Fns) (W : Nat)
mutual
def ex : Sm → Envi → M Fl
  | .fz is s, env => ex s (freeze env is)
  | .asg i e, env => do
    let d ← ev F e env
    pure (.nx (env.set i (.val d)))
  | .own i e, env => do
    let d ← ev F e env
    pure (.nx (env.set i (.own d)))
  | .unp is e, env => do
    let d ← ev F e env
    let env ← M.lift (bindT env is true d)
    pure (.nx env)
  | .par is es, env => do
    let ds ← evs F es env
    let env ← M.lift (putPar env is ds)
    pure (.nx env)
  | .app i e, env => do
    let _ ← recv env i
    let d ← ev F e env
    pure (.nx (← appD env i d))
  | .setix i k e, env => do
    let d ← ev F e env
    let _ ← M.lift (getV env i)
    let k ← ev F k env
    pure (.nx (← setD env i k d))
  | .pop i k, env => do
    let _ ← recv env i
    let k ← ev F k env
    let r ← popD env i k
    pure (.nx r.1)
  | .apppop i j k, env => do
    let _ ← recv env i
    let _ ← recv env j
    let k ← ev F k env
    let r ← popD env j k
    pure (.nx (← appD r.1 i r.2))
  | .ext i e, env => do
    let _ ← recv env i
    let d ← ev F e env
    pure (.nx (← extD env i d))
  | .aug i o e, env => do
    let x ← M.lift (getV env i)
    let d ← ev F e env
    let z ← M.lift (augD o x d)
    pure (.nx (env.set i (.val z)))
  | .ife c a b, env => do if ← tst (ev F c env) then exs a env else exs b env
  | .for_ t u i b, env => do
    let ds ← evi F false i env
    forL (fun d env => do
      let env ← M.lift (bindT env t u d)
      exs b env) ds env
  | .whl c b, env => loopW (fun env => tst (ev F c env)) (fun env => exs b env) W env
  | .ret e, env => do pure (.rt (← ev F e env))
  | .pass, env => pure (.nx env)
  | .cont, env => pure (.ct env)
  | .ex e, env => do
    let _ ← ev F e env
    pure (.nx env)
  | .never, _ => M.bad
  | .rais c, _ => rais (.mk c none)
  | .raisF c f e, env => do
    let d ← ev F e env
    rais (.mk c (some (f, d)))
  | .try_ b hs, env => tryM (exs b env) fun x => hdl hs x env
def exs : Sb → Envi → M Fl
  | .nil, env => pure (.nx env)
  | .cons s ss, env => do match ← ex s env with
    | .nx env => exs ss env
    | f => pure f
end
end
/-- a def: how many parameters, how many names, its body -/
structure Fn where
  np : Nat
  nl : Nat
  body : Sb
def startE (fn : Fn) (ds : List D) : Envi := ds.map .val ++ List.replicate (fn.nl - fn.np) .no
def runF (T : List Fn) (W : Nat) : Nat → Fns
  | 0 => fun _ _ => M.bad
  | n + 1 => fun f ds => match T[f]? with
    | some fn => if ds.length = fn.np then (do match ← exs (runF T W n) W fn.body (startE fn ds) with
      | .rt d => pure d
      | .nx _ => pure .non
      | .ct _ => M.bad) else M.bad
    | none => M.bad
end Ev

set_option Elab.async false
set_option linter.all false
set_option maxRecDepth 100000
set_option maxHeartbeats 2000000
/-! How data lie in the abstract heap. -/
namespace Ev
open PySem PySem.Spec PyProof.Rows L2
theorem LIM_eq : LIM = sizeLine := by rw [sizeLine_eq]; rfl
mutual
/-- the value v stands for the data d: G what stands still, ρ where the cells lie -/
def Rep (K : PySem.W.Frag) (G : Hp) (ρ : List Addr) : D → V → Prop
  | .non, v => v = .non
  | .bl b, v => v = .bl b
  | .int i, v => v = .int i
  | .str x, v => v = .str x
  | .tup ds, v => ds.length ≤ LIM ∧ ∃ a vs, v = .ref a ∧ SqT K G a vs ∧ Reps K G ρ ds vs
  | .lst ds, v => ds.length ≤ LIM ∧ ∃ a vs, v = .ref a ∧ SqL K G a vs ∧ Reps K G ρ ds vs
  | .dic ks ws, v => ks.length ≤ LIM ∧ ∃ a kvs, v = .ref a ∧ G a = some (.dK kvs) ∧ Reps K G ρ ks (kvs.map fun p => kV p.1) ∧ Reps K G ρ ws (kvs.map fun p => p.2)
  | .cell n, v => ∃ a, v = .ref a ∧ ρ[n]? = some a
def Reps (K : PySem.W.Frag) (G : Hp) (ρ : List Addr) : List D → List V → Prop
  | [], vs => vs = []
  | d :: ds, vs => ∃ v r, vs = v :: r ∧ Rep K G ρ d v ∧ Reps K G ρ ds r
end
theorem sqL_mono {K : PySem.W.Frag} {G G' : Hp} (g : ∀ a o, G a = some o → G' a = some o) {a : Addr} {xs : List V} (h : SqL K G a xs) : SqL K G' a xs := Same.seq g h
theorem sqT_mono {K : PySem.W.Frag} {G G' : Hp} (g : ∀ a o, G a = some o → G' a = some o) {a : Addr} {xs : List V} (h : SqT K G a xs) : SqT K G' a xs := by
  rcases h with (h | ⟨o, h⟩) | h
  · exact .inl (.inl (g _ _ h))
  · exact .inl (.inr ⟨o, g _ _ h⟩)
  · exact .inr h
theorem pre_get {ρ ρ' : List Addr} (p : ρ <+: ρ') {n : Nat} {a : Addr} (h : ρ[n]? = some a) : ρ'[n]? = some a := by
  obtain ⟨t, rfl⟩ := p
  obtain ⟨hn, _⟩ := List.getElem?_eq_some_iff.mp h
  rw [List.getElem?_append_left hn]
  exact h
section
variable {K : PySem.W.Frag} {G G' H H' : Hp} {ρ ρ' : List Addr}
mutual
theorem Rep.mono (g : ∀ a o, G a = some o → G' a = some o) (p : ρ <+: ρ') : ∀ (d : D) (v : V), Rep K G ρ d v → Rep K G' ρ' d v
  | .non, _, h => h
  | .bl _, _, h => h
  | .int _, _, h => h
  | .str _, _, h => h
  | .tup ds, v, h => by
    obtain ⟨z, a, vs, e, h1, h2⟩ := h
    exact ⟨z, a, vs, e, sqT_mono g h1, Reps.mono g p ds vs h2⟩
  | .lst ds, v, h => by
    obtain ⟨z, a, vs, e, h1, h2⟩ := h
    exact ⟨z, a, vs, e, sqL_mono g h1, Reps.mono g p ds vs h2⟩
  | .dic ks ws, v, h => by
    obtain ⟨z, a, kvs, e, h1, h2, h3⟩ := h
    exact ⟨z, a, kvs, e, g _ _ h1, Reps.mono g p ks _ h2, Reps.mono g p ws _ h3⟩
  | .cell n, v, h => by
    obtain ⟨a, e, h1⟩ := h
    exact ⟨a, e, pre_get p h1⟩
theorem Reps.mono (g : ∀ a o, G a = some o → G' a = some o) (p : ρ <+: ρ') : ∀ (ds : List D) (vs : List V), Reps K G ρ ds vs → Reps K G' ρ' ds vs
  | [], _, h => h
  | d :: ds, vs, h => by
    obtain ⟨v, r, e, h1, h2⟩ := h
    exact ⟨v, r, e, Rep.mono g p d v h1, Reps.mono g p ds r h2⟩
end
theorem Reps.length : ∀ {ds : List D} {vs : List V}, Reps K G ρ ds vs → vs.length = ds.length
  | [], _, h => by
    have e : _ = [] := h
    rw [e]
    rfl
  | d :: ds, vs, h => by
    obtain ⟨v, r, e, _, h2⟩ := h
    rw [e, List.length_cons, List.length_cons, Reps.length h2]
theorem Reps.nil : Reps K G ρ [] [] := rfl
theorem Reps.cons {d : D} {v : V} {ds : List D} {vs : List V} (h : Rep K G ρ d v) (t : Reps K G ρ ds vs) : Reps K G ρ (d :: ds) (v :: vs) := ⟨v, vs, rfl, h, t⟩
theorem Reps.get : ∀ {ds : List D} {vs : List V} {i : Nat} {d : D}, Reps K G ρ ds vs → ds[i]? = some d → ∃ v, vs[i]? = some v ∧ Rep K G ρ d v
  | [], _, i, d, _, e => by simp at e
  | x :: ds, _, 0, d, h, e => by
    obtain ⟨v, r, rfl, h1, _⟩ := h
    simp at e
    subst e
    exact ⟨v, rfl, h1⟩
  | x :: ds, _, i + 1, d, h, e => by
    obtain ⟨v, r, rfl, _, h2⟩ := h
    obtain ⟨w, e2, h3⟩ := Reps.get (i := i) h2 (by simpa using e)
    exact ⟨w, by simpa using e2, h3⟩
theorem Reps.getV : ∀ {ds : List D} {vs : List V} {i : Nat} {v : V}, Reps K G ρ ds vs → vs[i]? = some v → ∃ d, ds[i]? = some d ∧ Rep K G ρ d v := fun {ds vs i v} h e => by
  obtain ⟨hi, _⟩ := List.getElem?_eq_some_iff.mp e
  have hd : i < ds.length := by rw [← h.length]; exact hi
  obtain ⟨w, e2, r⟩ := h.get (List.getElem?_eq_getElem hd)
  rw [e] at e2
  cases e2
  exact ⟨_, List.getElem?_eq_getElem hd, r⟩
theorem Reps.append : ∀ {ds es : List D} {vs ws : List V}, Reps K G ρ ds vs → Reps K G ρ es ws → Reps K G ρ (ds ++ es) (vs ++ ws)
  | [], _, _, _, h, t => by
    have e : _ = [] := h
    rw [e]
    exact t
  | d :: ds, _, _, _, h, t => by
    obtain ⟨v, r, rfl, h1, h2⟩ := h
    exact .cons h1 (Reps.append h2 t)
theorem Reps.take : ∀ (n : Nat) {ds : List D} {vs : List V}, Reps K G ρ ds vs → Reps K G ρ (ds.take n) (vs.take n)
  | 0, _, _, _ => .nil
  | n + 1, [], _, h => by
    have e : _ = [] := h
    rw [e]
    exact .nil
  | n + 1, d :: ds, _, h => by
    obtain ⟨v, r, rfl, h1, h2⟩ := h
    exact .cons h1 (Reps.take n h2)
theorem Reps.drop : ∀ (n : Nat) {ds : List D} {vs : List V}, Reps K G ρ ds vs → Reps K G ρ (ds.drop n) (vs.drop n)
  | 0, _, _, h => h
  | n + 1, [], _, h => by
    have e : _ = [] := h
    rw [e]
    exact .nil
  | n + 1, d :: ds, _, h => by
    obtain ⟨v, r, rfl, h1, h2⟩ := h
    exact Reps.drop n h2
theorem Reps.set : ∀ (i : Nat) {ds : List D} {vs : List V} {d : D} {v : V}, Reps K G ρ ds vs → Rep K G ρ d v → Reps K G ρ (ds.set i d) (vs.set i v)
  | _, [], _, _, _, h, _ => by
    have e : _ = [] := h
    rw [e]
    exact .nil
  | 0, x :: ds, _, _, _, h, t => by
    obtain ⟨v, r, rfl, h1, h2⟩ := h
    exact .cons t h2
  | i + 1, x :: ds, _, _, _, h, t => by
    obtain ⟨v, r, rfl, h1, h2⟩ := h
    exact .cons h1 (Reps.set i h2 t)
theorem Reps.erase : ∀ (i : Nat) {ds : List D} {vs : List V}, Reps K G ρ ds vs → Reps K G ρ (ds.eraseIdx i) (vs.eraseIdx i)
  | _, [], _, h => by
    have e : _ = [] := h
    rw [e]
    exact .nil
  | 0, x :: ds, _, h => by
    obtain ⟨v, r, rfl, h1, h2⟩ := h
    exact h2
  | i + 1, x :: ds, _, h => by
    obtain ⟨v, r, rfl, h1, h2⟩ := h
    exact .cons h1 (Reps.erase i h2)
theorem Reps.reverse : ∀ {ds : List D} {vs : List V}, Reps K G ρ ds vs → Reps K G ρ ds.reverse vs.reverse
  | [], _, h => by
    have e : _ = [] := h
    rw [e]
    exact .nil
  | d :: ds, _, h => by
    obtain ⟨v, r, rfl, h1, h2⟩ := h
    rw [List.reverse_cons, List.reverse_cons]
    exact Reps.append (Reps.reverse h2) (.cons h1 .nil)
theorem Reps.rep : ∀ (n : Nat) {ds : List D} {vs : List V}, Reps K G ρ ds vs → Reps K G ρ (rep n ds) (List.replicate n vs).flatten
  | 0, _, _, _ => .nil
  | n + 1, ds, vs, h => by
    have e : Ev.rep (n + 1) ds = ds ++ Ev.rep n ds := by
      unfold Ev.rep
      rw [List.replicate_succ, List.flatten_cons]
    rw [e, List.replicate_succ, List.flatten_cons]
    exact h.append (Reps.rep n h)
theorem Reps.isEmpty {ds : List D} {vs : List V} (h : Reps K G ρ ds vs) : ds = [] ↔ vs = [] := by
  have e := h.length
  constructor
  · intro z
    subst z
    exact List.eq_nil_of_length_eq_zero e
  · intro z
    subst z
    exact List.eq_nil_of_length_eq_zero e.symm
theorem Reps.ints : ∀ {ds : List D} {vs : List V} {ns : List Int}, Reps K G ρ ds vs → allI ds = some ns → vs = ns.map V.int
  | [], _, ns, h, e => by
    have h : _ = [] := h
    cases e
    exact h
  | d :: ds, _, ns, h, e => by
    obtain ⟨v, r, rfl, h1, h2⟩ := h
    cases d with
    | int i =>
      have e : (allI ds).map (i :: ·) = some ns := e
      cases q : allI ds with
      | none => rw [q] at e; cases e
      | some ms =>
        rw [q] at e
        cases e
        rw [Reps.ints h2 q, show v = .int i from h1]
        rfl
    | _ => cases e
theorem Reps.strs : ∀ {ds : List D} {vs : List V} {ns : List Str}, Reps K G ρ ds vs → allS ds = some ns → vs = ns.map V.str
  | [], _, ns, h, e => by
    have h : _ = [] := h
    cases e
    exact h
  | d :: ds, _, ns, h, e => by
    obtain ⟨v, r, rfl, h1, h2⟩ := h
    cases d with
    | str i =>
      have e : (allS ds).map (i :: ·) = some ns := e
      cases q : allS ds with
      | none => rw [q] at e; cases e
      | some ms =>
        rw [q] at e
        cases e
        rw [Reps.strs h2 q, show v = .str i from h1]
        rfl
    | _ => cases e
theorem Reps.bls : ∀ {ds : List D} {vs : List V} {ns : List Bool}, Reps K G ρ ds vs → allB ds = some ns → vs = ns.map V.bl
  | [], _, ns, h, e => by
    have h : _ = [] := h
    cases e
    exact h
  | d :: ds, _, ns, h, e => by
    obtain ⟨v, r, rfl, h1, h2⟩ := h
    cases d with
    | bl i =>
      have e : (allB ds).map (i :: ·) = some ns := e
      cases q : allB ds with
      | none => rw [q] at e; cases e
      | some ms =>
        rw [q] at e
        cases e
        rw [Reps.bls h2 q, show v = .bl i from h1]
        rfl
    | _ => cases e
theorem Reps.ofInts : ∀ (ns : List Int), Reps K G ρ (ns.map D.int) (ns.map V.int)
  | [] => .nil
  | n :: ns => .cons rfl (Reps.ofInts ns)
theorem Reps.ofStrs : ∀ (ns : List Str), Reps K G ρ (ns.map D.str) (ns.map V.str)
  | [] => .nil
  | n :: ns => .cons rfl (Reps.ofStrs ns)
/-! ### as the library's data -/
mutual
theorem Rep.dp (gh : ∀ a o, G a = some o → H a = some o) : ∀ (d : D) (n : Nat) (v : V), d.pl n = true → Rep K G ρ d v → Dp K H v d.toP
  | .non, _, _, _, h => by
    cases h
    exact .non
  | .bl b, _, _, _, h => by
    cases h
    exact .bl b
  | .int b, _, _, _, h => by
    cases h
    exact .int b
  | .str b, _, _, _, h => by
    cases h
    exact .str b
  | .tup ds, n, v, p, h => by
    obtain ⟨_, a, vs, rfl, h1, h2⟩ := h
    cases n with
    | zero => cases p
    | succ n => exact .tup (sqT_mono gh h1) (Reps.dp gh ds n vs p h2)
  | .lst ds, n, v, p, h => by
    obtain ⟨_, a, vs, rfl, h1, h2⟩ := h
    cases n with
    | zero => cases p
    | succ n => exact .lst (sqL_mono gh h1) (Reps.dp gh ds n vs p h2)
  | .dic _ _, _, _, p, _ => by cases p
  | .cell _, _, _, p, _ => by cases p
theorem Reps.dp (gh : ∀ a o, G a = some o → H a = some o) : ∀ (ds : List D) (n : Nat) (vs : List V), D.pls ds n = true → Reps K G ρ ds vs → DpAll K H vs (D.toPs ds)
  | [], _, _, _, h => by
    cases h
    exact .nil
  | d :: ds, n, vs, p, h => by
    obtain ⟨v, r, rfl, h1, h2⟩ := h
    obtain ⟨p1, p2⟩ := Bool.and_eq_true_iff.mp p
    exact .cons (Rep.dp gh d n v p1 h1) (Reps.dp gh ds n r p2 h2)
end
end
mutual
theorem toP_plain : ∀ (d : D) (n : Nat), d.pl n = true → d.toP.plain = true
  | .non, _, _ => rfl
  | .bl _, _, _ => rfl
  | .int _, _, _ => rfl
  | .str _, _, _ => rfl
  | .tup ds, n, p => by
    cases n with
    | zero => cases p
    | succ n => exact toPs_plain ds n p
  | .lst ds, n, p => by
    cases n with
    | zero => cases p
    | succ n => exact toPs_plain ds n p
  | .dic _ _, _, p => by cases p
  | .cell _, _, p => by cases p
theorem toPs_plain : ∀ (ds : List D) (n : Nat), D.pls ds n = true → PyData.plainAll (D.toPs ds) = true
  | [], _, _ => rfl
  | d :: ds, n, p => by
    obtain ⟨p1, p2⟩ := Bool.and_eq_true_iff.mp p
    exact Bool.and_eq_true_iff.mpr ⟨toP_plain d n p1, toPs_plain ds n p2⟩
end
mutual
theorem toP_depth : ∀ (d : D) (n : Nat), d.pl n = true → d.toP.depth ≤ n
  | .non, _, _ => Nat.zero_le _
  | .bl _, _, _ => Nat.zero_le _
  | .int _, _, _ => Nat.zero_le _
  | .str _, _, _ => Nat.zero_le _
  | .tup ds, n, p => by
    cases n with
    | zero => cases p
    | succ n => exact Nat.succ_le_succ (toPs_depth ds n p)
  | .lst ds, n, p => by
    cases n with
    | zero => cases p
    | succ n => exact Nat.succ_le_succ (toPs_depth ds n p)
  | .dic _ _, _, p => by cases p
  | .cell _, _, p => by cases p
theorem toPs_depth : ∀ (ds : List D) (n : Nat), D.pls ds n = true → PyData.depthAll (D.toPs ds) ≤ n
  | [], _, _ => Nat.zero_le _
  | d :: ds, n, p => by
    obtain ⟨p1, p2⟩ := Bool.and_eq_true_iff.mp p
    exact Nat.max_le.mpr ⟨toP_depth d n p1, toPs_depth ds n p2⟩
end
mutual
theorem toP_eqv : ∀ (d e : D) (n m : Nat), d.pl n = true → e.pl m = true → PyData.eqv d.toP e.toP = D.eqv d e
  | .non, e, _, _, _, q => by cases e <;> first | rfl | cases q
  | .bl _, e, _, _, _, q => by cases e <;> first | rfl | cases q
  | .int _, e, _, _, _, q => by cases e <;> first | rfl | cases q
  | .str _, e, _, _, _, q => by cases e <;> first | rfl | cases q
  | .tup ds, e, n, m, p, q => by
    cases n with
    | zero => cases p
    | succ n =>
      cases e with
      | tup es =>
        cases m with
        | zero => cases q
        | succ m => exact toPs_eqv ds es n m p q
      | _ => first | rfl | cases q
  | .lst ds, e, n, m, p, q => by
    cases n with
    | zero => cases p
    | succ n =>
      cases e with
      | lst es =>
        cases m with
        | zero => cases q
        | succ m => exact toPs_eqv ds es n m p q
      | _ => first | rfl | cases q
  | .dic _ _, _, _, _, p, _ => by cases p
  | .cell _, _, _, _, p, _ => by cases p
theorem toPs_eqv : ∀ (ds es : List D) (n m : Nat), D.pls ds n = true → D.pls es m = true → PyData.eqvAll (D.toPs ds) (D.toPs es) = D.eqvs ds es
  | [], [], _, _, _, _ => rfl
  | [], _ :: _, _, _, _, _ => rfl
  | _ :: _, [], _, _, _, _ => rfl
  | d :: ds, e :: es, n, m, p, q => by
    obtain ⟨p1, p2⟩ := Bool.and_eq_true_iff.mp p
    obtain ⟨q1, q2⟩ := Bool.and_eq_true_iff.mp q
    show (PyData.eqv d.toP e.toP && PyData.eqvAll (D.toPs ds) (D.toPs es)) = (D.eqv d e && D.eqvs ds es)
    rw [toP_eqv d e n m p1 q1, toPs_eqv ds es n m p2 q2]
end
end Ev

set_option Elab.async false
set_option linter.all false
set_option maxRecDepth 100000
set_option maxHeartbeats 2000000
/-! What a run of the evaluator says of the heap. -/
namespace Ev
open PySem PySem.Spec PyProof.Rows L2

/-- from one moment to a later one: what stands still stands, new cells are new objects, nothing else of what is tracked changes but cells -/
structure Ext (H G : Hp) (ρ : List Addr) (H' G' : Hp) (ρ' : List Addr) : Prop where
  g : ∀ a o, G a = some o → G' a = some o
  p : ρ <+: ρ'
  h : ∀ a o, H a = some o → a ∉ ρ → H' a = some o
  gn : ∀ a o, G' a = some o → G a = some o ∨ H a = none
  pn : ∀ a, a ∈ ρ' → a ∈ ρ ∨ H a = none
  d : ∀ a o, H a = some o → ∃ o', H' a = some o'
def CelAt (K : PySem.W.Frag) (H G : Hp) (ρ : List Addr) (c : Cel) (a : Addr) : Prop := match c with
  | .lst ds => ds.length ≤ LIM ∧ ∃ vs, H a = some (.lst vs) ∧ Reps K G ρ ds vs
  | .ins _ _ => False
structure Hold (K : PySem.W.Frag) (S : Sto) (H G : Hp) (ρ : List Addr) : Prop where
  gh : ∀ a o, G a = some o → H a = some o
  len : S.length = ρ.length
  nd : ρ.Nodup
  cel : ∀ (n : Nat) (c : Cel), S[n]? = some c → ∃ a, ρ[n]? = some a ∧ G a = none ∧ CelAt K H G ρ c a
/-- a list or dict that is seen at a -/
def Se (K : PySem.W.Frag) (H G : Hp) (ρ : List Addr) (d : D) (a : Addr) : Prop := match d with
  | .lst ds => ds.length ≤ LIM ∧ ∃ vs, H a = some (.lst vs) ∧ Reps K G ρ ds vs
  | .dic ks ws => ks.length ≤ LIM ∧ ∃ kvs, H a = some (.dK kvs) ∧ Reps K G ρ ks (kvs.map fun p => kV p.1) ∧ Reps K G ρ ws (kvs.map fun p => p.2)
  | _ => False
/-- an own list or dict, at a -/
def Ow (K : PySem.W.Frag) (H G : Hp) (ρ : List Addr) (d : D) (a : Addr) : Prop := G a = none ∧ a ∉ ρ ∧ Se K H G ρ d a
structure Rl (K : PySem.W.Frag) (env : Envi) (S : Sto) (σ : L2.St) (H G : Hp) (ρ : List Addr) : Prop extends Hold K S H G ρ where
  sl : σ.length = env.length
  val : ∀ (i : Nat) (d : D), env[i]? = some (.val d) → ∃ v, σ[i]? = some (some v) ∧ Rep K G ρ d v
  own : ∀ (i : Nat) (d : D), env[i]? = some (.own d) → ∃ a, σ[i]? = some (some (.ref a)) ∧ Ow K H G ρ d a
  sep : ∀ (i j : Nat) (d e : D) (a : Addr), env[i]? = some (.own d) → env[j]? = some (.own e) → σ[i]? = some (some (.ref a)) → σ[j]? = some (some (.ref a)) → i = j

section
variable {K : PySem.W.Frag} {S S' : Sto} {H G H' G' H'' G'' : Hp} {ρ ρ' ρ'' : List Addr} {env : Envi} {σ : L2.St} {a : Addr}
theorem Ext.refl : Ext H G ρ H G ρ := ⟨fun _ _ h => h, List.prefix_refl ρ, fun _ _ h _ => h, fun _ _ h => .inl h, fun _ h => .inl h, fun _ o h => ⟨o, h⟩⟩
theorem Ext.trans (x : Ext H G ρ H' G' ρ') (y : Ext H' G' ρ' H'' G'' ρ'') : Ext H G ρ H'' G'' ρ'' where
  g := fun a o h => y.g a o (x.g a o h)
  p := x.p.trans y.p
  h := fun a o h n => y.h a o (x.h a o h n) fun m => by
    rcases x.pn a m with q | q
    · exact n q
    · rw [q] at h
      cases h
  gn := fun a o h => by
    rcases y.gn a o h with q | q
    · exact x.gn a o q
    · refine .inr ?_
      cases e : H a with
      | none => rfl
      | some u =>
        obtain ⟨o', e'⟩ := x.d a u e
        rw [q] at e'
        cases e'
  pn := fun a h => by
    rcases y.pn a h with q | q
    · exact x.pn a q
    · refine .inr ?_
      cases e : H a with
      | none => rfl
      | some u =>
        obtain ⟨o', e'⟩ := x.d a u e
        rw [q] at e'
        cases e'
  d := fun a o h => by
    obtain ⟨o', e⟩ := x.d a o h
    exact y.d a o' e
theorem Hold.atCell (h : Hold K S H G ρ) (m : a ∈ ρ) : ∃ o, H a = some o := by
  obtain ⟨n, hn, e⟩ := List.getElem_of_mem m
  have hs : n < S.length := by rw [h.len]; exact hn
  obtain ⟨b, e1, _, c⟩ := h.cel n _ (List.getElem?_eq_getElem hs)
  rw [List.getElem?_eq_getElem hn, e] at e1
  cases e1
  unfold CelAt at c
  split at c
  · obtain ⟨_, vs, q, _⟩ := c
    exact ⟨_, q⟩
  · exact c.elim
theorem Hold.gNone (h : Hold K S H G ρ) (m : a ∈ ρ) : G a = none := by
  obtain ⟨n, hn, e⟩ := List.getElem_of_mem m
  have hs : n < S.length := by rw [h.len]; exact hn
  obtain ⟨b, e1, q, c⟩ := h.cel n _ (List.getElem?_eq_getElem hs)
  rw [List.getElem?_eq_getElem hn, e] at e1
  cases e1
  exact q
theorem CelAt.mono (x : Ext H G ρ H' G' ρ') {c : Cel} (e : ∀ o, H a = some o → H' a = some o) (h : CelAt K H G ρ c a) : CelAt K H' G' ρ' c a := by
  unfold CelAt at *
  split at h
  · obtain ⟨z, vs, q, r⟩ := h
    exact ⟨z, vs, e _ q, Reps.mono x.g x.p _ _ r⟩
  · exact h.elim
/-- a new object, that stands still from now on -/
theorem Hold.new {o : HO} (h : Hold K S H G ρ) (n : H a = none) : Ext H G ρ (upd H a o) (upd G a o) ρ ∧ Hold K S (upd H a o) (upd G a o) ρ := by
  have gn : G a = none := by
    cases e : G a with
    | none => rfl
    | some u =>
      have := h.gh a u e
      rw [n] at this
      cases this
  have na : a ∉ ρ := fun m => by
    obtain ⟨o, e⟩ := h.atCell m
    rw [n] at e
    cases e
  have x : Ext H G ρ (upd H a o) (upd G a o) ρ := by
    refine ⟨fun b u e => ?_, List.prefix_refl _, fun b u e _ => ?_, fun b u e => ?_, fun b m => .inl m, fun b u e => ?_⟩
    · rw [upd_ne (ne_of_none e gn)]
      exact e
    · rw [upd_ne (ne_of_none e n)]
      exact e
    · by_cases z : b = a
      · subst z
        exact .inr n
      · rw [upd_ne z] at e
        exact .inl e
    · exact ⟨u, by rw [upd_ne (ne_of_none e n)]; exact e⟩
  refine ⟨x, ⟨fun b u e => ?_, h.len, h.nd, fun k c e => ?_⟩⟩
  · by_cases z : b = a
    · subst z
      rw [upd_same] at e ⊢
      exact e
    · rw [upd_ne z] at e ⊢
      exact h.gh b u e
  · obtain ⟨b, e1, e2, e3⟩ := h.cel k c e
    have z : b ≠ a := fun q => na (q ▸ List.mem_of_getElem? e1)
    exact ⟨b, e1, by rw [upd_ne z]; exact e2, CelAt.mono x (fun u q => by rw [upd_ne z]; exact q) e3⟩
/-- a new object, not yet still -/
theorem Hold.fresh {o : HO} (h : Hold K S H G ρ) (n : H a = none) : Ext H G ρ (upd H a o) G ρ ∧ Hold K S (upd H a o) G ρ := by
  have na : a ∉ ρ := fun m => by
    obtain ⟨o, e⟩ := h.atCell m
    rw [n] at e
    cases e
  have x : Ext H G ρ (upd H a o) G ρ := by
    refine ⟨fun b u e => e, List.prefix_refl _, fun b u e _ => ?_, fun b u e => .inl e, fun b m => .inl m, fun b u e => ?_⟩
    · rw [upd_ne (ne_of_none e n)]
      exact e
    · exact ⟨u, by rw [upd_ne (ne_of_none e n)]; exact e⟩
  refine ⟨x, ⟨fun b u e => ?_, h.len, h.nd, fun k c e => ?_⟩⟩
  · have q := h.gh b u e
    rw [upd_ne (ne_of_none q n)]
    exact q
  · obtain ⟨b, e1, e2, e3⟩ := h.cel k c e
    have z : b ≠ a := fun q => na (q ▸ List.mem_of_getElem? e1)
    exact ⟨b, e1, e2, CelAt.mono x (fun u q => by rw [upd_ne z]; exact q) e3⟩
/-- an object that is there, of nobody: it stands still from now on -/
theorem Hold.still {o : HO} (h : Hold K S H G ρ) (e : H a = some o) (g : G a = none) (na : a ∉ ρ) : Hold K S H (upd G a o) ρ ∧ (∀ b u, G b = some u → (upd G a o) b = some u) := by
  have g' : ∀ b u, G b = some u → (upd G a o) b = some u := fun b u q => by
    rw [upd_ne (ne_of_none q g)]
    exact q
  refine ⟨⟨fun b u q => ?_, h.len, h.nd, fun k c q => ?_⟩, g'⟩
  · by_cases z : b = a
    · subst z
      rw [upd_same] at q
      cases q
      exact e
    · rw [upd_ne z] at q
      exact h.gh b u q
  · obtain ⟨b, e1, e2, e3⟩ := h.cel k c q
    have z : b ≠ a := fun q => na (q ▸ List.mem_of_getElem? e1)
    refine ⟨b, e1, by rw [upd_ne z]; exact e2, ?_⟩
    unfold CelAt at *
    split at e3
    · obtain ⟨w, vs, q, r⟩ := e3
      exact ⟨w, vs, q, Reps.mono g' (List.prefix_refl _) _ _ r⟩
    · exact e3.elim
theorem Se.there {d : D} (q : Se K H G ρ d a) : ∃ u, H a = some u := by
  unfold Se at q
  split at q
  · obtain ⟨_, vs, e, _⟩ := q
    exact ⟨_, e⟩
  · obtain ⟨_, vs, e, _⟩ := q
    exact ⟨_, e⟩
  · exact q.elim
theorem Se.mono {d : D} (g : ∀ a o, G a = some o → G' a = some o) (p : ρ <+: ρ') (e : ∀ o, H a = some o → H' a = some o) (q : Se K H G ρ d a) : Se K H' G' ρ' d a := by
  unfold Se at *
  split at q
  · obtain ⟨w, vs, e1, r⟩ := q
    exact ⟨w, vs, e _ e1, Reps.mono g p _ _ r⟩
  · obtain ⟨w, vs, e1, r, t⟩ := q
    exact ⟨w, vs, e _ e1, Reps.mono g p _ _ r, Reps.mono g p _ _ t⟩
  · exact q.elim
theorem Ow.mono {d : D} (x : Ext H G ρ H' G' ρ') (o : Ow K H G ρ d a) : Ow K H' G' ρ' d a := by
  obtain ⟨g, n, q⟩ := o
  obtain ⟨u, hu⟩ := q.there
  refine ⟨?_, fun m => ?_, q.mono x.g x.p fun o e => x.h _ _ e n⟩
  · cases e : G' a with
    | none => rfl
    | some w =>
      rcases x.gn a w e with z | z
      · rw [g] at z
        cases z
      · rw [hu] at z
        cases z
  · rcases x.pn a m with z | z
    · exact n z
    · rw [hu] at z
      cases z
theorem Rl.ext (r : Rl K env S σ H G ρ) (x : Ext H G ρ H' G' ρ') (h : Hold K S' H' G' ρ') : Rl K env S' σ H' G' ρ' :=
  { toHold := h
    sl := r.sl
    val := fun i d e => by
      obtain ⟨v, e1, q⟩ := r.val i d e
      exact ⟨v, e1, Rep.mono x.g x.p d v q⟩
    own := fun i d e => by
      obtain ⟨a, e1, q⟩ := r.own i d e
      exact ⟨a, e1, q.mono x⟩
    sep := r.sep }
end
/-! ### what is wanted behind a run -/
section
variable (K : PySem.W.Frag)
/-- behind a run from (H, G, ρ): RR says how the result lies, Wx what is wanted of an exception -/
def Aft {α β : Type} (RR : Hp → Hp → List Addr → α → β → Prop) (Wx : Exn → Sto → Hp → Hp → List Addr → Prop) (H G : Hp) (ρ : List Addr) (r : Out α) (Q : β → Hp → Prop) : Prop :=
  match r with
  | .ok d S' => ∀ v H' G' ρ', Ext H G ρ H' G' ρ' → Hold K S' H' G' ρ' → RR H' G' ρ' d v → Q v H'
  | .exc x S' => ∀ H' G' ρ', Ext H G ρ H' G' ρ' → Hold K S' H' G' ρ' → Wx x S' H' G' ρ'
  | .bad => False
abbrev RV : Hp → Hp → List Addr → D → V → Prop := fun _ G ρ d v => Rep K G ρ d v
abbrev RVs : Hp → Hp → List Addr → List D → List V → Prop := fun _ G ρ ds vs => Reps K G ρ ds vs
abbrev RB : Hp → Hp → List Addr → Bool → Bool → Prop := fun _ _ _ b c => c = b
/-- a value that is looked at: it may be an own list, too -/
def RW : Hp → Hp → List Addr → D → V → Prop := fun H G ρ d v => Rep K G ρ d v ∨ ∃ a, v = .ref a ∧ Ow K H G ρ d a
/-- a value that is seen at this moment -/
def RS : Hp → Hp → List Addr → D → V → Prop := fun H G ρ d v => Rep K G ρ d v ∨ ∃ a, v = .ref a ∧ Se K H G ρ d a
/-- a new list of nobody, that was not there in H0 -/
def RN (H0 : Hp) : Hp → Hp → List Addr → D → V → Prop := fun H G ρ d v => ∃ a, v = .ref a ∧ H0 a = none ∧ Ow K H G ρ d a
end
section
variable {K : PySem.W.Frag} {α β γ δ : Type} {Wx : Exn → Sto → Hp → Hp → List Addr → Prop} {H G H' G' : Hp} {ρ ρ' : List Addr} {S : Sto}
variable {RR RR' : Hp → Hp → List Addr → α → β → Prop} {RQ : Hp → Hp → List Addr → γ → δ → Prop}
theorem RW.mono {d : D} {v : V} (x : Ext H G ρ H' G' ρ') (r : RW K H G ρ d v) : RW K H' G' ρ' d v := by
  rcases r with q | ⟨a, e, o⟩
  · exact .inl (Rep.mono x.g x.p d v q)
  · exact .inr ⟨a, e, o.mono x⟩
theorem RW.see {d : D} {v : V} (r : RW K H G ρ d v) : RS K H G ρ d v := by
  rcases r with q | ⟨a, e, o⟩
  · exact .inl q
  · exact .inr ⟨a, e, o.2.2⟩
/-- a cell's list is seen -/
theorem see_ok {d e : D} {v : V} {S S' : Sto} (h : Hold K S H G ρ) (r : RW K H G ρ d v) (q : seeD d S = .ok e S') : S' = S ∧ RS K H G ρ e v := by
  unfold seeD at q
  split at q
  · rename_i n
    split at q
    · rename_i ds hs
      cases q
      refine ⟨rfl, ?_⟩
      obtain ⟨a, e1, e2, c⟩ := h.cel n _ hs
      rcases r with ⟨b, ev, eb⟩ | ⟨b, ev, o⟩
      · rw [e1] at eb
        cases eb
        exact .inr ⟨a, ev, c⟩
      · exact o.2.2.elim
    · cases q
  · cases q
    exact ⟨rfl, r.see⟩
theorem see_cases {d : D} {S : Sto} : (∃ e, seeD d S = .ok e S) ∨ seeD d S = .bad := by
  unfold seeD
  split
  · split
    · exact .inl ⟨_, rfl⟩
    · exact .inr rfl
  · exact .inl ⟨_, rfl⟩
theorem Aft.later {r : Out α} {Q : β → Hp → Prop} (x : Ext H G ρ H' G' ρ') (h : Aft K RR Wx H G ρ r Q) : Aft K RR Wx H' G' ρ' r Q := by
  cases r with
  | ok d S' => exact fun v H2 G2 ρ2 y hd rr => h v H2 G2 ρ2 (x.trans y) hd rr
  | exc e S' => exact fun H2 G2 ρ2 y hd => h H2 G2 ρ2 (x.trans y) hd
  | bad => exact h
theorem Aft.imp {r : Out α} {Q : β → Hp → Prop} (f : ∀ H' G' ρ' d v, RR' H' G' ρ' d v → RR H' G' ρ' d v) (h : Aft K RR Wx H G ρ r Q) : Aft K RR' Wx H G ρ r Q := by
  cases r with
  | ok d S' => exact fun v H2 G2 ρ2 y hd rr => h v H2 G2 ρ2 y hd (f _ _ _ _ _ rr)
  | exc e S' => exact h
  | bad => exact h
/-- two runs, one behind the other -/
theorem Aft.bind {m : M α} {f : α → M γ} {Q : δ → Hp → Prop} (h : Aft K RQ Wx H G ρ (M.bnd m f S) Q) :
    Aft K RR Wx H G ρ (m S) fun v H1 => ∃ d S1 G1 ρ1, Ext H G ρ H1 G1 ρ1 ∧ Hold K S1 H1 G1 ρ1 ∧ RR H1 G1 ρ1 d v ∧ Aft K RQ Wx H1 G1 ρ1 (f d S1) Q := by
  unfold M.bnd at h
  cases e : m S with
  | ok d S' =>
    rw [e] at h
    exact fun v H1 G1 ρ1 x hd rr => ⟨d, S', G1, ρ1, x, hd, rr, Aft.later x h⟩
  | exc y S' =>
    rw [e] at h
    exact h
  | bad =>
    rw [e] at h
    exact h
theorem Aft.ret {d : α} {Q : β → Hp → Prop} (hd : Hold K S H G ρ) (h : Aft K RR Wx H G ρ (M.ret d S) Q) {v : β} (r : RR H G ρ d v) : Q v H := h v H G ρ .refl hd r
/-- a partial reckoning -/
theorem Aft.lift {o : Option α} {f : α → M γ} {Q : δ → Hp → Prop} (h : Aft K RQ Wx H G ρ (M.bnd (M.lift o) f S) Q) : ∃ d, o = some d ∧ Aft K RQ Wx H G ρ (f d S) Q := by
  cases o with
  | none => exact h.elim
  | some d => exact ⟨d, rfl, h⟩
theorem Aft.lift1 {o : Option α} {Q : β → Hp → Prop} (h : Aft K RR Wx H G ρ (M.lift o S) Q) : ∃ d, o = some d ∧ Aft K RR Wx H G ρ (M.ret d S) Q := by
  cases o with
  | none => exact h.elim
  | some d => exact ⟨d, rfl, h⟩
end
end Ev

set_option Elab.async false
set_option linter.all false
set_option maxRecDepth 100000
set_option maxHeartbeats 2000000
/-! The operators by data. -/
namespace Ev
open PySem PySem.Spec PyProof.Rows L2
section
variable {K : PySem.W.Frag} {S : Sto} {H G : Hp} {ρ : List Addr}
/-- a list, a tuple that is looked at -/
theorem RS.list {ds : List D} {v : V} (h : Hold K S H G ρ) (r : RS K H G ρ (.lst ds) v) : ∃ a vs, v = .ref a ∧ SqL K H a vs ∧ Reps K G ρ ds vs ∧ ds.length ≤ LIM := by
  rcases r with ⟨z, a, vs, e, h1, h2⟩ | ⟨a, e, z, vs, h1, h2⟩
  · exact ⟨a, vs, e, sqL_mono h.gh h1, h2, z⟩
  · exact ⟨a, vs, e, SqL.of h1, h2, z⟩
theorem RS.tup {ds : List D} {v : V} (h : Hold K S H G ρ) (r : RS K H G ρ (.tup ds) v) : ∃ a vs, v = .ref a ∧ SqT K H a vs ∧ Reps K G ρ ds vs ∧ ds.length ≤ LIM := by
  rcases r with ⟨z, a, vs, e, h1, h2⟩ | ⟨a, e, z⟩
  · exact ⟨a, vs, e, sqT_mono h.gh h1, h2, z⟩
  · exact z.elim
theorem RS.tupR {ds : List D} {v : V} (r : RS K H G ρ (.tup ds) v) : Rep K G ρ (.tup ds) v := by
  rcases r with q | ⟨a, e, z⟩
  · exact q
  · exact z.elim
theorem RS.dic {ks ws : List D} {v : V} (h : Hold K S H G ρ) (r : RS K H G ρ (.dic ks ws) v) : ∃ a kvs, v = .ref a ∧ H a = some (.dK kvs) ∧ Reps K G ρ ks (kvs.map fun p => kV p.1) ∧ Reps K G ρ ws (kvs.map fun p => p.2) ∧ ks.length ≤ LIM := by
  rcases r with ⟨z, a, vs, e, h1, h2, h3⟩ | ⟨a, e, z, vs, h1, h2, h3⟩
  · exact ⟨a, vs, e, h.gh _ _ h1, h2, h3, z⟩
  · exact ⟨a, vs, e, h1, h2, h3, z⟩
theorem RS.int {i : Int} {v : V} (r : RS K H G ρ (.int i) v) : v = .int i := by
  rcases r with q | ⟨a, e, z⟩
  · exact q
  · exact z.elim
theorem RS.str {i : Str} {v : V} (r : RS K H G ρ (.str i) v) : v = .str i := by
  rcases r with q | ⟨a, e, z⟩
  · exact q
  · exact z.elim
theorem RS.bl {i : Bool} {v : V} (r : RS K H G ρ (.bl i) v) : v = .bl i := by
  rcases r with q | ⟨a, e, z⟩
  · exact q
  · exact z.elim
theorem RS.non {v : V} (r : RS K H G ρ .non v) : v = .non := by
  rcases r with q | ⟨a, e, z⟩
  · exact q
  · exact z.elim
theorem RS.dp {d : D} {v : V} (h : Hold K S H G ρ) (p : d.plain = true) (r : RS K H G ρ d v) : Dp K H v d.toP := by
  cases d with
  | lst ds =>
    obtain ⟨a, vs, rfl, h1, h2, _⟩ := r.list h
    exact .lst h1 (Reps.dp h.gh ds 39 vs p h2)
  | _ =>
    rcases r with q | ⟨a, e, z⟩
    · exact Rep.dp h.gh _ 40 _ p q
    · first | exact z.elim | cases p
end
section
variable {X : Cx}
/-- a reckoning with two values -/
def r2 (K : PySem.W.Frag) (f : D → D → Option D) : R2 := fun x y H Q => ∃ d e z S G ρ, Hold K S H G ρ ∧ RS K H G ρ d x ∧ RS K H G ρ e y ∧ f d e = some z ∧
  ∀ v H' G', Ext H G ρ H' G' ρ → Hold K S H' G' ρ → Rep K G' ρ z v → Q v H'
theorem newTup {K : PySem.W.Frag} {S : Sto} {H G : Hp} {ρ : List Addr} {zs : List D} {vs : List V} {Q : VK} (h : Hold K S H G ρ) (r : Reps K G ρ zs vs) (hz : zs.length ≤ LIM)
    (q : ∀ v H' G', Ext H G ρ H' G' ρ → Hold K S H' G' ρ → Rep K G' ρ (.tup zs) v → Q v H') (p : Addr) (n : H p = none) : Q (.ref p) (upd H p (.tup vs)) := by
  obtain ⟨x, h'⟩ := h.new (o := .tup vs) n
  exact q _ _ _ x h' ⟨hz, p, vs, rfl, SqT.of upd_same, Reps.mono x.g x.p _ _ r⟩
theorem newLst {K : PySem.W.Frag} {S : Sto} {H G : Hp} {ρ : List Addr} {zs : List D} {vs : List V} {Q : VK} (h : Hold K S H G ρ) (r : Reps K G ρ zs vs) (hz : zs.length ≤ LIM)
    (q : ∀ v H' G', Ext H G ρ H' G' ρ → Hold K S H' G' ρ → Rep K G' ρ (.lst zs) v → Q v H') (p : Addr) (n : H p = none) : Q (.ref p) (upd H p (.lst vs)) := by
  obtain ⟨x, h'⟩ := h.new (o := .lst vs) n
  exact q _ _ _ x h' ⟨hz, p, vs, rfl, SqL.of upd_same, Reps.mono x.g x.p _ _ r⟩
/-- list + list, of any kind -/
def rCatL (K : PySem.W.Frag) : R2 := fun x y H Q => ∃ l b xs zs, x = .ref l ∧ y = .ref b ∧ SqL K H l xs ∧ SqL K H b zs ∧ xs.length + zs.length ≤ sizeLine ∧ ∀ p, H p = none → Q (.ref p) (upd H p (.lst (xs ++ zs)))
theorem op_catL : OpR X (binaryOp .Add) (rCatL X.K) := by
  intro pins s σ H x y v u Q I rx ry h
  obtain ⟨l, b, xs, zs, rfl, rfl, hH, hB, hz, q⟩ := h
  cases rx
  cases ry
  obtain ⟨its, r, pl, z⟩ := I.list hH
  obtain ⟨its2, r2, pl2, z2⟩ := I.list hB
  obtain ⟨⟨cls, dd, data, sl⟩, ho, hc, n, hd⟩ := pl.isList
  obtain ⟨⟨cls2, dd2, data2, sl2⟩, ho2, hc2, n2, hd2⟩ := pl2.isList
  simp only at hc hd hc2 hd2
  subst hc hd hc2 hd2
  have e1 := r.length
  have e2 := r2.length
  have e : its.toArray ++ its2.toArray = (its ++ its2).toArray := by simp
  refine concat_meets ⟨_, ho, rfl⟩ ⟨_, ho2, rfl⟩ noFill_list_add seq_list_add PySem.F.slot_list_add PySem.F.entry_list_add (PySem.F.args_list_add_2 _ _) (list_addW l b its.toArray its2.toArray n n2 dd dd2 sl sl2 (by simp only [List.size_toArray]; omega)) ⟨ho, ho2, ?_⟩
  rw [e]
  exact ⟨.ref _, _, I.lnew (t' := s.toks) (r.append r2) (by rw [List.length_append]; omega), rfl, q _ I.fresh⟩
theorem op_add_bi : OpR X (binaryOp .Add) (fun x y H Q => ∃ k i, x = .bl k ∧ y = .int i ∧ Q (.int ((if k = true then (1 : Int) else 0) + i)) H) := by
  intro pins s σ H x y v u Q I rx ry h
  obtain ⟨k, i, rfl, rfl, q⟩ := h
  obtain ⟨t, rfl⟩ := ry
  cases rx
  exact PySem.IntBool.add_bool_int ⟨.int _, H, I.tok _, ⟨_, rfl⟩, q⟩
theorem op_addD : OpR X (binaryOp .Add) (r2 X.K addD) := by
  intro pins s σ H x y v u Q I rx ry h
  obtain ⟨d, e, z, S, G, ρ, hd, rd, re, hf, q⟩ := h
  unfold addD at hf
  split at hf
  · cases hf
    cases rd.int
    cases re.int
    exact op_add pins s σ H _ _ v u Q I rx ry ⟨_, _, rfl, rfl, q _ _ _ .refl hd rfl⟩
  · split at hf
    · rename_i hz
      cases hf
      cases rd.str
      cases re.str
      exact op_add_str pins s σ H _ _ v u Q I rx ry ⟨_, _, rfl, rfl, by rw [← LIM_eq]; exact hz, q _ _ _ .refl hd rfl⟩
    · cases hf
  · split at hf
    · rename_i hz
      cases hf
      obtain ⟨a, vs, rfl, h1, h2, _⟩ := rd.list hd
      obtain ⟨b, ws, rfl, h3, h4, _⟩ := re.list hd
      have e1 := h2.length
      have e2 := h4.length
      refine op_catL pins s σ H _ _ v u Q I rx ry ⟨a, b, vs, ws, rfl, rfl, h1, h3, by rw [← LIM_eq]; omega, newLst hd (h2.append h4) (by rw [List.length_append]; exact hz) q⟩
    · cases hf
  · split at hf
    · rename_i xs ys hz
      cases hf
      obtain ⟨a, vs, rfl, h1, h2, z1⟩ := rd.tup hd
      obtain ⟨b, ws, rfl, h3, h4, z2⟩ := re.tup hd
      have e1 := h2.length
      have e2 := h4.length
      refine op_catA pins s σ H _ _ v u Q I rx ry ⟨a, b, vs, ws, rfl, rfl, h1, h3, by rw [← LIM_eq]; omega, fun z => ?_, fun z z' => ?_, fun _ _ => newTup hd (h2.append h4) (by rw [List.length_append]; exact hz) q⟩
      · have ez := h2.isEmpty.mpr z
        subst ez
        exact q _ _ _ .refl hd re.tupR
      · have ez := h4.isEmpty.mpr z'
        subst ez
        rw [List.append_nil] at q
        exact q _ _ _ .refl hd rd.tupR
    · cases hf
  · cases hf
    cases rd.bl
    cases re.int
    exact op_add_bi pins s σ H _ _ v u Q I rx ry ⟨_, _, rfl, rfl, q _ _ _ .refl hd rfl⟩
  · cases hf
theorem op_subD : OpR X (binaryOp .Sub) (r2 X.K subD) := by
  intro pins s σ H x y v u Q I rx ry h
  obtain ⟨d, e, z, S, G, ρ, hd, rd, re, hf, q⟩ := h
  unfold subD at hf
  split at hf
  · cases hf
    cases rd.int
    cases re.int
    exact op_sub pins s σ H _ _ v u Q I rx ry ⟨_, _, rfl, rfl, q _ _ _ .refl hd rfl⟩
  · cases hf
theorem op_fdivD : OpR X (binaryOp .FloorDiv) (r2 X.K fdivD) := by
  intro pins s σ H x y v u Q I rx ry h
  obtain ⟨d, e, z, S, G, ρ, hd, rd, re, hf, q⟩ := h
  unfold fdivD at hf
  split at hf
  · split at hf
    · rename_i hc
      cases hf
      cases rd.int
      cases re.int
      exact op_fdivW pins s σ H _ _ v u Q I rx ry ⟨_, _, rfl, rfl, ⟨hc.1, by omega⟩, q _ _ _ .refl hd rfl⟩
    · cases hf
  · cases hf
theorem op_modD : OpR X (binaryOp .Mod) (r2 X.K modD) := by
  intro pins s σ H x y v u Q I rx ry h
  obtain ⟨d, e, z, S, G, ρ, hd, rd, re, hf, q⟩ := h
  unfold modD at hf
  split at hf
  · split at hf
    · rename_i hc
      cases hf
      cases rd.int
      cases re.int
      exact op_mod pins s σ H _ _ v u Q I rx ry ⟨_, _, rfl, rfl, hc, q _ _ _ .refl hd rfl⟩
    · cases hf
  · cases hf
theorem op_powD : OpR X (binaryOp .Pow) (r2 X.K powD) := by
  intro pins s σ H x y v u Q I rx ry h
  obtain ⟨d, e, z, S, G, ρ, hd, rd, re, hf, q⟩ := h
  unfold powD at hf
  split at hf
  · split at hf
    · rename_i hc
      cases hf
      cases rd.int
      cases re.int
      exact op_pow pins s σ H _ _ v u Q I rx ry ⟨_, _, rfl, rfl, hc, q _ _ _ .refl hd rfl⟩
    · cases hf
  · cases hf
/-- t * k where nothing is to be made: the tuple is empty, or k is 1 -/
theorem tuple_mul_self (l : Addr) (items : Array Value) (n : Nat) (dd : Option Addr) (sl : Array (Option Value)) (x : Int) (u : Tok) (c0 : (decide (x < -(2 ^ 63)) || decide (x ≥ 2 ^ 63)) = false) (c1 : (items.isEmpty || x == 1) = true) :
    Meets (Builtin.«tuple.__mul__» ⟨[.ref l, .int x u], []⟩) (fun _ R s => s.heap.get? l = some { cls := .type "tuple", dict := dd, data := .seq items n, slots := sl } ∧ R (.ok (.ret (Value.ref l))) s) :=
  .of_wp fun prog w A R s h => by
    obtain ⟨hp, g, d, tk, os⟩ := s
    obtain ⟨hl, h⟩ := h
    have f1 := AutoSeq1.idx_int
    wp_walk using wpAny_loadPart' hl
    repeat (first
      | (refine wpAny_ite_false (decide_eq_false (by rw [c0]; exact Bool.false_ne_true)) ?_; wp_walk using wpAny_loadPart' hl)
      | (refine wpAny_ite_true (decide_eq_true (by rw [c1])) ?_; wp_walk using wpAny_loadPart' hl))
    exact ⟨_, rfl, h⟩
theorem tuple_mul_none (l : Addr) (items : Array Value) (n : Nat) (dd : Option Addr) (sl : Array (Option Value)) (x : Int) (u : Tok) (c0 : (decide (x < -(2 ^ 63)) || decide (x ≥ 2 ^ 63)) = false) (c1 : (items.isEmpty || x == 1) = false) (c2 : (decide (x ≤ 0) || items.isEmpty) = true) :
    Meets (Builtin.«tuple.__mul__» ⟨[.ref l, .int x u], []⟩) (fun _ R s => s.heap.get? l = some { cls := .type "tuple", dict := dd, data := .seq items n, slots := sl } ∧
      R (.ok (.ret (Value.ref s.heap.objs.size))) { s with heap := s.heap.push { cls := Value.type "tuple", data := Data.seq #[] }, toks := s.toks }) :=
  .of_wp fun prog w A R s h => by
    obtain ⟨hp, g, d, tk, os⟩ := s
    obtain ⟨hl, h⟩ := h
    have f1 := AutoSeq1.idx_int
    wp_walk using wpAny_loadPart' hl
    repeat (first
      | (refine wpAny_ite_false (decide_eq_false (by rw [c0]; exact Bool.false_ne_true)) ?_; wp_walk using wpAny_loadPart' hl)
      | (refine wpAny_ite_false (decide_eq_false (by rw [c1]; exact Bool.false_ne_true)) ?_; wp_walk using wpAny_loadPart' hl)
      | (refine wpAny_ite_true (decide_eq_true (by rw [c2])) ?_; wp_walk using wpAny_loadPart' hl))
    exact ⟨_, rfl, h⟩
theorem mulT {pins : List (Addr × Obj)} {s : Shared} {σ : L2.St} {S : Sto} {H G : Hp} {ρ : List Addr} {l : Addr} {ds : List D} {vs : List V} {k : Int} {t : Tok} {Q : VK} (I : Inv X pins σ H s) (hd : Hold X.K S H G ρ) (hT : SqT X.K H l vs) (hR : Reps X.K G ρ ds vs)
    (h1 : -(2 ^ 63) ≤ k) (h2 : k < 2 ^ 63) (hz : ds.length * k.toNat ≤ LIM) (q : ∀ v H' G', Ext H G ρ H' G' ρ → Hold X.K S H' G' ρ → Rep X.K G' ρ (.tup (rep k.toNat ds)) v → Q v H') (rd : Rep X.K G ρ (.tup ds) (.ref l)) :
    wpAny (model X.prog X.w) X.A (binaryOp .Mult (.ref l) (.int k t)) (EP X pins σ Q) X.xe s := by
  obtain ⟨its, r, ⟨⟨cls, dd, data, sl⟩, ho, hc, n, hdt⟩, hs⟩ := I.tuple hT
  simp only at hc hdt
  subst hc hdt
  have hle : its.length = ds.length := by rw [← r.length, hR.length]
  have hsz0 : its.toArray.size = ds.length := by rw [List.size_toArray, hle]
  have c0 : (decide (k < -(2 ^ 63)) || decide (k ≥ 2 ^ 63)) = false := by
    rw [decide_eq_false (by omega), decide_eq_false (by omega)] <;> rfl
  have go : ∀ {R : Result → Shared → Prop}, True := fun {R} => trivial
  have road : ∀ {Q2 : Value → Shared → Prop}, (codeAny (model X.prog X.w) X.A (.builtin "tuple.__mul__" ⟨[.ref l, .int k t], []⟩) (fun _ _ => True) s → True) := fun {_} _ => trivial
  by_cases e1 : (its.toArray.isEmpty || k == 1) = true
  · refine wpAny_binaryOp_repeat_ref (T := "tuple") (U := "int") (by decide) ⟨_, ho, rfl⟩ (fun s' => typeIs_int s' k t) noFill_tuple_mul PySem.F.fills_int_mul PySem.F.slot_int_rmul repeat_tuple PySem.F.slot_int_index.lookup
      (call_meets PySem.F.slot_int_rmul (typeIs_int s k t) PySem.F.entry_int_rmul (PySem.F.args_int_rmul_2 _ _) (int_rmul_tuple k t l its.toArray n dd sl)
        ⟨ho, rfl, ⟨_, ho, rfl⟩, call_meets PySem.F.slot_tuple_mul ⟨_, ho, rfl⟩ PySem.F.entry_tuple_mul (PySem.F.args_tuple_mul_2 _ _) (tuple_mul_self l its.toArray n dd sl k t c0 e1) ⟨ho, ?_⟩⟩)
    have e : rep k.toNat ds = ds := by
      rcases Bool.or_eq_true_iff.mp e1 with z | z
      · have z2 : its = [] := by
          cases its with
          | nil => rfl
          | cons a b => cases z
        have z3 : ds = [] := by
          rw [z2] at hle
          exact List.eq_nil_of_length_eq_zero hle.symm
        rw [z3]
        unfold rep
        simp
      · have z2 : k = 1 := eq_of_beq z
        rw [z2]
        unfold rep
        simp
    rw [e] at q
    exact ⟨.ref l, H, I, rfl, q _ _ _ .refl hd rd⟩
  · have e1' : (its.toArray.isEmpty || k == 1) = false := by
      cases z : (its.toArray.isEmpty || k == 1) with
      | true => exact absurd z e1
      | false => rfl
    by_cases e2 : (decide (k ≤ 0) || its.toArray.isEmpty) = true
    · refine wpAny_binaryOp_repeat_ref (T := "tuple") (U := "int") (by decide) ⟨_, ho, rfl⟩ (fun s' => typeIs_int s' k t) noFill_tuple_mul PySem.F.fills_int_mul PySem.F.slot_int_rmul repeat_tuple PySem.F.slot_int_index.lookup
        (call_meets PySem.F.slot_int_rmul (typeIs_int s k t) PySem.F.entry_int_rmul (PySem.F.args_int_rmul_2 _ _) (int_rmul_tuple k t l its.toArray n dd sl)
          ⟨ho, rfl, ⟨_, ho, rfl⟩, call_meets PySem.F.slot_tuple_mul ⟨_, ho, rfl⟩ PySem.F.entry_tuple_mul (PySem.F.args_tuple_mul_2 _ _) (tuple_mul_none l its.toArray n dd sl k t c0 e1' e2) ⟨ho, ?_⟩⟩)
      have e : rep k.toNat ds = [] := by
        rcases Bool.or_eq_true_iff.mp e2 with z | z
        · have z2 : k ≤ 0 := of_decide_eq_true z
          rw [Int.toNat_of_nonpos z2]
          rfl
        · rw [z] at e1'
          cases e1'
      rw [e] at q
      exact ⟨.ref s.heap.objs.size, _, I.laid (t' := s.toks) (o := .tup []) (fun b ob q => Heap.get?_push_of_some _ q) (Nat.le_refl _) ⟨Nat.zero_le _, [], .nil, IsTup.new _ _⟩, rfl, newTup (vs := []) hd .nil (Nat.zero_le _) q _ (I.hok.fresh (Nat.le_refl _))⟩
    · have e2' : (decide (k ≤ 0) || its.toArray.isEmpty) = false := by
        cases z : (decide (k ≤ 0) || its.toArray.isEmpty) with
        | true => exact absurd z e2
        | false => rfl
      have k0 : 0 < k := by
        have := (Bool.or_eq_false_iff.mp e2').1
        have := of_decide_eq_false this
        omega
      have hm : ((its.toArray.size : Nat) : Int) * k ≤ 16777216 := by
        rw [hsz0]
        have a1 : ((ds.length * k.toNat : Nat) : Int) ≤ (16777216 : Nat) := Int.ofNat_le.mpr hz
        rw [Int.natCast_mul, Int.toNat_of_nonneg (by omega)] at a1
        exact a1
      have flen : (List.replicate k.toNat its).flatten.length ≤ sizeLine := by
        rw [PyProof.Rows.lm_len_rep_flat, hle, ← LIM_eq, Nat.mul_comm]
        exact hz
      have c4 : Builtin.Tuple.tupleTooMany (((its.toArray.size : Nat) : Int) * k) = false := by
        unfold Builtin.Tuple.tupleTooMany
        rw [sizeLine_eq]
        exact decide_eq_false (by omega)
      refine wpAny_binaryOp_repeat_ref (T := "tuple") (U := "int") (by decide) ⟨_, ho, rfl⟩ (fun s' => typeIs_int s' k t) noFill_tuple_mul PySem.F.fills_int_mul PySem.F.slot_int_rmul repeat_tuple PySem.F.slot_int_index.lookup
        (call_meets PySem.F.slot_int_rmul (typeIs_int s k t) PySem.F.entry_int_rmul (PySem.F.args_int_rmul_2 _ _) (int_rmul_tuple k t l its.toArray n dd sl)
          ⟨ho, rfl, ⟨_, ho, rfl⟩, call_meets PySem.F.slot_tuple_mul ⟨_, ho, rfl⟩ PySem.F.entry_tuple_mul (PySem.F.args_tuple_mul_2 _ _) (tuple_mulW l its.toArray n dd sl k t c0 e1' e2' (by omega) c4 (by rw [size_rep, List.size_toArray]; exact flen)) ⟨ho, ?_⟩⟩)
      rw [size_rep]
      refine ⟨.ref s.heap.objs.size, _, I.laid (t' := s.toks) (o := .tup (List.replicate k.toNat vs).flatten) (fun b ob q => Heap.get?_push_of_some _ q) (Nat.le_refl _) ?_, rfl, newTup hd (hR.rep k.toNat) ?_ q _ (I.hok.fresh (Nat.le_refl _))⟩
      · exact ⟨by rw [PyProof.Rows.lm_len_rep_flat, hR.length, ← LIM_eq, Nat.mul_comm]; exact hz, _, r.rep k.toNat, IsTup.new _ _⟩
      · unfold rep
        rw [PyProof.Rows.lm_len_rep_flat, Nat.mul_comm]
        exact hz
theorem strMulOk {z : Str} {k : Int} (h0 : 0 ≤ k) (h1 : k ≤ 1000) (h2 : z.length ≤ 1000) : MulOk z k := by
  refine ⟨?_, fun h _ => ?_, fun h _ => ?_⟩
  · simp only [Bool.or_eq_false_iff, decide_eq_false_iff_not]
    omega
  · have hk : 0 < k := by omega
    have h3 : (z.length : Int) * k ≤ 1000 * 1000 := Int.mul_le_mul (by omega) h1 h0 (by omega)
    have := Int.le_ediv_of_mul_le hk (show (z.length : Int) * k ≤ 2 ^ 63 - 1 by omega)
    omega
  · unfold Builtin.Str.tooLong
    have hk : k.toNat ≤ 1000 := by omega
    have := Nat.mul_le_mul h2 hk
    simp only [decide_eq_false_iff_not]
    unfold sizeLine
    omega
theorem op_mulD : OpR X (binaryOp .Mult) (r2 X.K mulD) := by
  intro pins s σ H x y v u Q I rx ry h
  obtain ⟨d, e, z, S, G, ρ, hd, rd, re, hf, q⟩ := h
  unfold mulD at hf
  split at hf
  · split at hf
    · rename_i hc
      cases hf
      cases rd.int
      cases re.int
      unfold mulOk at hc
      simp only [Bool.or_eq_true, Bool.and_eq_true, decide_eq_true_eq] at hc
      rcases hc with (hc | hc) | hc
      · exact op_mul pins s σ H _ _ v u Q I rx ry ⟨_, _, rfl, rfl, .inl hc, q _ _ _ .refl hd rfl⟩
      · exact op_mul pins s σ H _ _ v u Q I rx ry ⟨_, _, rfl, rfl, .inr hc, q _ _ _ .refl hd rfl⟩
      · exact op_mulW pins s σ H _ _ v u Q I rx ry ⟨_, _, rfl, rfl, hc, q _ _ _ .refl hd rfl⟩
    · cases hf
  · split at hf
    · rename_i hc
      cases hf
      cases re.int
      obtain ⟨l, vs, rfl, hT, hR, hz⟩ := rd.tup hd
      cases rx
      obtain ⟨t, rfl⟩ := ry
      exact mulT I hd hT hR hc.1 hc.2.1 hc.2.2 q rd.tupR
    · cases hf
  · rename_i z k
    split at hf
    · rename_i hc
      cases hf
      cases rd.str
      cases re.int
      obtain ⟨t, rfl⟩ := rx
      obtain ⟨t2, rfl⟩ := ry
      refine SB.mul (strMulOk hc.1 hc.2.1 hc.2.2) fun t' k' => ⟨.str _, H, I.tok _, ⟨_, rfl⟩, q _ _ _ .refl hd rfl⟩
    · cases hf
  · cases hf
def Bop.op : Bop → Operator
  | .add => .Add | .sub => .Sub | .mul => .Mult | .fdiv => .FloorDiv | .mod => .Mod | .pow => .Pow
theorem op_bopD (o : Bop) : OpR X (binaryOp o.op) (r2 X.K (bopD o)) := by
  cases o with
  | add => exact op_addD
  | sub => exact op_subD
  | mul => exact op_mulD
  | fdiv => exact op_fdivD
  | mod => exact op_modD
  | pow => exact op_powD
/-! ### comparisons -/
def c2 (K : PySem.W.Frag) (f : D → D → Option Bool) : R2 := fun x y H Q => ∃ d e z S G ρ, Hold K S H G ρ ∧ RS K H G ρ d x ∧ RS K H G ρ e y ∧ f d e = some z ∧ Q (.bl z) H
theorem op_eqP (hu : X.A.units + 64 < cLine) : OpR X (compareOp .Eq) (c2 X.K (copD .eq)) := by
  intro pins s σ H x y v u Q I rx ry h
  obtain ⟨d, e, z, S, G, ρ, hd, rd, re, hf, q⟩ := h
  have hf : (if (d.plain && e.plain) = true then some (D.eqv d e) else none) = some z := hf
  split at hf
  · rename_i p
    cases hf
    obtain ⟨p1, p2⟩ := Bool.and_eq_true_iff.mp p
    obtain ⟨as, r1⟩ := Dp.reads I _ x v (rd.dp hd p1) rx
    obtain ⟨bs, r2⟩ := Dp.reads I _ y u (re.dp hd p2) ry
    refine SeqAt.eq_plain r1 r2 (toP_plain d 40 p1) (toP_plain e 40 p2) ?_ ⟨.bl _, H, I, rfl, ?_⟩
    · have h1 := toP_depth d 40 p1
      have h2 := Nat.min_le_left d.toP.depth e.toP.depth
      omega
    · rw [toP_eqv d e 40 40 p1 p2]
      exact q
  · cases hf
theorem op_neP (hu : X.A.units + 64 < cLine) : OpR X (compareOp .NotEq) (c2 X.K (copD .ne)) := by
  intro pins s σ H x y v u Q I rx ry h
  obtain ⟨d, e, z, S, G, ρ, hd, rd, re, hf, q⟩ := h
  have hf : (if (d.plain && e.plain) = true then some (!D.eqv d e) else none) = some z := hf
  split at hf
  · rename_i p
    cases hf
    obtain ⟨p1, p2⟩ := Bool.and_eq_true_iff.mp p
    obtain ⟨as, r1⟩ := Dp.reads I _ x v (rd.dp hd p1) rx
    obtain ⟨bs, r2⟩ := Dp.reads I _ y u (re.dp hd p2) ry
    refine SeqAt.ne_plain r1 r2 (toP_plain d 40 p1) (toP_plain e 40 p2) ?_ ⟨.bl _, H, I, rfl, ?_⟩
    · have h1 := toP_depth d 40 p1
      have h2 := Nat.min_le_left d.toP.depth e.toP.depth
      omega
    · rw [toP_eqv d e 40 40 p1 p2]
      exact q
  · cases hf
theorem ord_ok {op : CmpOp} {p : Int → Int → Bool} {g : Str → Str → Bool} (hi : OpR X (compareOp op) (rI0 fun i j => .bl (p i j))) (hs : OpR X (compareOp op) (fun x y H Q => ∃ i j, x = .str i ∧ y = .str j ∧ Q (.bl (g i j)) H)) :
    OpR X (compareOp op) (c2 X.K (ordD p g)) := by
  intro pins s σ H x y v u Q I rx ry h
  obtain ⟨d, e, z, S, G, ρ, hd, rd, re, hf, q⟩ := h
  unfold ordD at hf
  split at hf
  · cases hf
    cases rd.int
    cases re.int
    exact hi pins s σ H _ _ v u Q I rx ry ⟨_, _, rfl, rfl, q⟩
  · cases hf
    cases rd.str
    cases re.str
    exact hs pins s σ H _ _ v u Q I rx ry ⟨_, _, rfl, rfl, q⟩
  · cases hf
def keyD : L2.Key → D
  | .inl i => .int i
  | .inr x => .str x
theorem rep_key {K : PySem.W.Frag} {G : Hp} {ρ : List Addr} {d : D} {k : L2.Key} (h : Rep K G ρ d (kV k)) : d = keyD k := by
  cases k with
  | inl i =>
    have h : Rep K G ρ d (.int i) := h
    cases d with
    | int j =>
      have e : V.int i = .int j := h
      cases e
      rfl
    | non => cases (show V.int i = .non from h)
    | bl b => cases (show V.int i = .bl b from h)
    | str b => cases (show V.int i = .str b from h)
    | tup ds => obtain ⟨_, a, vs, e, _⟩ := h; cases e
    | lst ds => obtain ⟨_, a, vs, e, _⟩ := h; cases e
    | dic ks ws => obtain ⟨_, a, vs, e, _⟩ := h; cases e
    | cell n => obtain ⟨a, e, _⟩ := h; cases e
  | inr x =>
    have h : Rep K G ρ d (.str x) := h
    cases d with
    | str j =>
      have e : V.str x = .str j := h
      cases e
      rfl
    | non => cases (show V.str x = .non from h)
    | bl b => cases (show V.str x = .bl b from h)
    | int b => cases (show V.str x = .int b from h)
    | tup ds => obtain ⟨_, a, vs, e, _⟩ := h; cases e
    | lst ds => obtain ⟨_, a, vs, e, _⟩ := h; cases e
    | dic ks ws => obtain ⟨_, a, vs, e, _⟩ := h; cases e
    | cell n => obtain ⟨a, e, _⟩ := h; cases e
theorem key_is {d : D} (h : isKey d = true) : ∃ k, d = keyD k := by
  cases d with
  | int i => exact ⟨.inl i, rfl⟩
  | str x => exact ⟨.inr x, rfl⟩
  | _ => cases h
theorem rep_keyD {K : PySem.W.Frag} {G : Hp} {ρ : List Addr} (k : L2.Key) : Rep K G ρ (keyD k) (kV k) := by
  cases k <;> rfl
theorem rwk {K : PySem.W.Frag} {H G : Hp} {ρ : List Addr} {k : L2.Key} {v : V} (h : RS K H G ρ (keyD k) v) : v = kV k := by
  cases k with
  | inl i => exact h.int
  | inr x => exact h.str
theorem eqv_keyD (a b : L2.Key) : D.eqv (keyD a) (keyD b) = decide (a = b) := by
  cases a with
  | inl i =>
    cases b with
    | inl j => rw [key_ll]; rfl
    | inr y => rw [key_lr]; rfl
  | inr x =>
    cases b with
    | inl j => rw [key_rl]; rfl
    | inr y =>
      rw [key_rr]
      show (x == y) = decide (x = y)
      rw [Bool.eq_iff_iff]
      simp
theorem at_key {K : PySem.W.Frag} {G : Hp} {ρ : List Addr} (k : L2.Key) : ∀ {kvs : List (L2.Key × V)} {ks ws : List D}, Reps K G ρ ks (kvs.map fun p => kV p.1) → Reps K G ρ ws (kvs.map fun p => p.2) →
    (valV kvs k = none ∧ keyAt ks ws (keyD k) = none) ∨ ∃ v e, valV kvs k = some v ∧ keyAt ks ws (keyD k) = some e ∧ Rep K G ρ e v
  | [], [], [], _, _ => .inl ⟨rfl, rfl⟩
  | [], [], _ :: _, _, h => by
    obtain ⟨v, r, e, _⟩ := h
    cases e
  | [], _ :: _, _, h, _ => by
    obtain ⟨v, r, e, _⟩ := h
    cases e
  | p :: kvs, [], _, h, _ => by cases (show _ = [] from h)
  | p :: kvs, _ :: _, [], _, h => by cases (show _ = [] from h)
  | p :: kvs, c :: ks, e :: ws, h, t => by
    obtain ⟨v, r, q, h1, h2⟩ := h
    obtain ⟨v', r', q', t1, t2⟩ := t
    cases q
    cases q'
    have ec := rep_key h1
    subst ec
    have e1 : keyAt (keyD p.1 :: ks) (e :: ws) (keyD k) = if D.eqv (keyD p.1) (keyD k) then some e else keyAt ks ws (keyD k) := rfl
    rw [e1, eqv_keyD]
    by_cases z : p.1 = k
    · rw [decide_eq_true z, valV_pos z]
      exact .inr ⟨p.2, e, rfl, rfl, t1⟩
    · rw [decide_eq_false z, valV_neg z]
      exact at_key k h2 t2
theorem in_ok (hu : X.A.units + 64 < cLine) {g : Bool} {op : CmpOp} (ho : op = if g then .NotIn else .In) : OpR X (compareOp op) (c2 X.K (fun x y => (inD x y).map fun b => if g then !b else b)) := by
  intro pins s σ H x y v u Q I rx ry h
  obtain ⟨d, e, z, S, G, ρ, hd, rd, re, hf, q⟩ := h
  obtain ⟨w, hf, hz⟩ := Option.map_eq_some_iff.mp hf
  have q : Q (.bl (if g then !w else w)) H := by
    rw [hz]
    exact q
  clear hz
  have hb : ∀ ys : List D, ∀ d : D, d.pl 40 = true → D.pls ys 40 = true → ((D.toPs ys).any fun y => PyData.eqv y d.toP) = ys.any fun y => D.eqv y d := by
    intro ys d p1
    induction ys with
    | nil => intro _; rfl
    | cons y ys ih =>
      intro p
      obtain ⟨q1, q2⟩ := Bool.and_eq_true_iff.mp p
      show (PyData.eqv y.toP d.toP || (D.toPs ys).any fun y => PyData.eqv y d.toP) = (D.eqv y d || ys.any fun y => D.eqv y d)
      rw [ih q2, toP_eqv y d 40 40 q1 p1]
  cases e with
  | lst ys =>
    have hf : (if (d.plain && D.plains ys) = true then some (ys.any fun y => D.eqv y d) else none) = some w := hf
    split at hf
    · rename_i p
      cases hf
      obtain ⟨p1, p2⟩ := Bool.and_eq_true_iff.mp p
      obtain ⟨as, r1⟩ := Dp.reads I _ x v (rd.dp hd p1) rx
      obtain ⟨a, vs, rfl, h1, h2, _⟩ := re.list hd
      obtain ⟨bs, r2⟩ := Dp.reads I (.list (D.toPs ys)) _ u (.lst h1 (Reps.dp hd.gh _ 40 vs p2 h2)) ry
      have hdp := toP_depth d 40 p1
      have hmn := Nat.min_le_right (PyData.depthAll (D.toPs ys)) d.toP.depth
      rw [← hb ys d p1 p2] at q
      cases g with
      | false =>
        subst ho
        exact SeqAt.in_list_data r2 r1 (toPs_plain _ 40 p2) (toP_plain d 40 p1) (by omega) ⟨.bl _, H, I, rfl, q⟩
      | true =>
        subst ho
        exact SeqAt.notIn_list_data r2 r1 (toPs_plain _ 40 p2) (toP_plain d 40 p1) (by omega) ⟨.bl _, H, I, rfl, q⟩
    · cases hf
  | tup ys =>
    have hf : (if (d.plain && D.plains ys) = true then some (ys.any fun y => D.eqv y d) else none) = some w := hf
    split at hf
    · rename_i p
      cases hf
      obtain ⟨p1, p2⟩ := Bool.and_eq_true_iff.mp p
      obtain ⟨as, r1⟩ := Dp.reads I _ x v (rd.dp hd p1) rx
      obtain ⟨a, vs, rfl, h1, h2, _⟩ := re.tup hd
      obtain ⟨bs, r2⟩ := Dp.reads I (.tuple (D.toPs ys)) _ u (.tup h1 (Reps.dp hd.gh _ 40 vs p2 h2)) ry
      have hdp := toP_depth d 40 p1
      have hmn := Nat.min_le_right (PyData.depthAll (D.toPs ys)) d.toP.depth
      rw [← hb ys d p1 p2] at q
      cases g with
      | false =>
        subst ho
        exact SeqAt.in_tuple_data r2 r1 (toPs_plain _ 40 p2) (toP_plain d 40 p1) (by omega) ⟨.bl _, H, I, rfl, q⟩
      | true =>
        subst ho
        exact SeqAt.notIn_tuple_data r2 r1 (toPs_plain _ 40 p2) (toP_plain d 40 p1) (by omega) ⟨.bl _, H, I, rfl, q⟩
    · cases hf
  | str z' =>
    cases d with
    | str y' =>
      have hf : (match y'.cps.toList with
        | [c] => some (decide (c ∈ z'.cps.toList))
        | _ => none) = some w := hf
      split at hf
      · rename_i c ec
        cases hf
        cases re.str
        have ey : y' = ⟨#[c]⟩ := by
          obtain ⟨a⟩ := y'
          have e2 : a.toList = [c] := ec
          congr
          rw [← Array.toList_inj]
          exact e2
        subst ey
        cases rd.str
        cases g with
        | false =>
          subst ho
          exact op_in_sign pins s σ H _ _ v u Q I rx ry ⟨c, z', rfl, rfl, q⟩
        | true =>
          subst ho
          exact op_notIn_sign pins s σ H _ _ v u Q I rx ry ⟨c, z', rfl, rfl, q⟩
      · cases hf
    | _ => cases hf
  | dic ks ws =>
    have hf : (if isKey d = true then some (keyAt ks ws d).isSome else none) = some w := hf
    split at hf
    · rename_i hk
      cases hf
      obtain ⟨k, rfl⟩ := key_is hk
      obtain ⟨a, kvs, rfl, e, r1, r2, _⟩ := re.dic hd
      have ex := rwk rd
      subst ex
      cases ry
      have hq : (valV kvs k).isSome = (keyAt ks ws (keyD k)).isSome := by
        rcases at_key k r1 r2 with ⟨e1, e2⟩ | ⟨v, e, e1, e2, _⟩
        · rw [e1, e2]
          rfl
        · rw [e1, e2]
          rfl
      rw [← hq] at q
      cases g with
      | false =>
        subst ho
        exact d_in (by omega) I (DGet.k e) rx fun s' I' => ⟨.bl _, H, I', rfl, q⟩
      | true =>
        subst ho
        exact d_notIn (by omega) I (DGet.k e) rx fun s' I' => ⟨.bl _, H, I', rfl, q⟩
    · cases hf
  | _ => cases hf
def Cop.op : Cop → CmpOp
  | .eq => .Eq | .ne => .NotEq | .lt => .Lt | .le => .LtE | .gt => .Gt | .ge => .GtE | .in_ => .In | .nin => .NotIn
theorem op_copD (hu : X.A.units + 64 < cLine) (o : Cop) : OpR X (compareOp o.op) (c2 X.K (copD o)) := by
  cases o with
  | eq => exact op_eqP hu
  | ne => exact op_neP hu
  | lt => exact ord_ok op_lt op_lt_str
  | le => exact ord_ok op_le op_le_str
  | gt => exact ord_ok op_gt op_gt_str
  | ge => exact ord_ok op_ge op_ge_str
  | in_ =>
    have e : c2 X.K (copD .in_) = c2 X.K (fun x y => (inD x y).map fun b => if false then !b else b) := by
      apply congrArg
      funext x y
      show inD x y = (inD x y).map fun b => if false then !b else b
      cases inD x y <;> rfl
    rw [e]
    exact in_ok hu rfl
  | nin =>
    have e : c2 X.K (copD .nin) = c2 X.K (fun x y => (inD x y).map fun b => if true then !b else b) := by
      apply congrArg
      funext x y
      rfl
    rw [e]
    exact in_ok hu rfl
/-! ### subscripts -/
theorem ix_dic (hu : X.A.units + 1 < cLine) : IxR X (fun x y H Q => ∃ a v, x = .ref a ∧ DGet H a y (some v) ∧ Q v H) := by
  intro value slice pins s σ H x y v u Q I rx ry h hs
  obtain ⟨a, w, rfl, g, q⟩ := h
  cases rx
  exact tail_any (dict_typeIs I g) PySem.F.slot_dict_getitem.lookup (d_getItem hu I g ry fun w' s3 I3 rw' => ⟨w, H, I3, rw', q⟩) hs
theorem ix_okD (hu : X.A.units + 64 < cLine) : IxR X (r2 X.K ixD) := by
  intro value slice pins s σ H x y v u Q I rx ry h hs
  obtain ⟨d, e, z, S, G, ρ, hd, rd, re, hf, q⟩ := h
  unfold ixD at hf
  split at hf
  · obtain ⟨a, vs, rfl, h1, h2, _⟩ := rd.list hd
    cases re.int
    obtain ⟨j, hj, hg⟩ := Option.bind_eq_some_iff.mp hf
    obtain ⟨w, hw, rw'⟩ := h2.get hg
    exact ix_list value slice pins s σ H _ _ v u Q I rx ry ⟨a, vs, _, w, rfl, rfl, h1, Option.bind_eq_some_iff.mpr ⟨j, by rw [h2.length]; exact hj, hw⟩, q _ _ _ .refl hd rw'⟩ hs
  · obtain ⟨a, vs, rfl, h1, h2, _⟩ := rd.tup hd
    cases re.int
    obtain ⟨j, hj, hg⟩ := Option.bind_eq_some_iff.mp hf
    obtain ⟨w, hw, rw'⟩ := h2.get hg
    exact ix_tup value slice pins s σ H _ _ v u Q I rx ry ⟨a, vs, _, w, rfl, rfl, h1, Option.bind_eq_some_iff.mpr ⟨j, by rw [h2.length]; exact hj, hw⟩, q _ _ _ .refl hd rw'⟩ hs
  · split at hf
    · rename_i hz
      cases rd.str
      cases re.int
      obtain ⟨j, hj, hg⟩ := Option.bind_eq_some_iff.mp hf
      obtain ⟨c, hc, ez⟩ := Option.map_eq_some_iff.mp hg
      subst ez
      exact ix_str value slice pins s σ H _ _ v u Q I rx ry ⟨_, _, c, rfl, rfl, by rw [← LIM_eq]; exact hz, Option.bind_eq_some_iff.mpr ⟨j, hj, hc⟩, q _ _ _ .refl hd rfl⟩ hs
    · cases hf
  · split at hf
    · rename_i hk
      obtain ⟨k, rfl⟩ := key_is hk
      obtain ⟨a, kvs, rfl, e, r1, r2, _⟩ := rd.dic hd
      have ex := rwk re
      subst ex
      rcases at_key k r1 r2 with ⟨e1, e2⟩ | ⟨w, e3, e1, e2, r3⟩
      · rw [e2] at hf
        cases hf
      · rw [e2] at hf
        cases hf
        exact ix_dic (by omega) value slice pins s σ H _ _ v u Q I rx ry ⟨a, w, rfl, by rw [← e1]; exact DGet.k e, q _ _ _ .refl hd r3⟩ hs
    · cases hf
  · cases hf
/-! ### slices -/
theorem sIx_same (n d : Nat) (o : Option Int) : Ev.sIx n d o = HT.sIx n d o := by
  cases o <;> rfl
theorem cut_same (xs : List V) (lo hi : Option Int) : cutV xs lo hi = Ev.cut xs lo hi := by
  unfold cutV Ev.cut
  rw [sIx_same, sIx_same]
theorem Reps.cut {K : PySem.W.Frag} {G : Hp} {ρ : List Addr} {ds : List D} {vs : List V} (h : Reps K G ρ ds vs) (lo hi : Option Int) : Reps K G ρ (Ev.cut ds lo hi) (cutV vs lo hi) := by
  rw [cut_same]
  unfold Ev.cut
  rw [h.length]
  exact (h.drop _).take _
theorem cut_len {α : Type} (xs : List α) (lo hi : Option Int) : (Ev.cut xs lo hi).length ≤ xs.length := by
  unfold Ev.cut
  rw [List.length_take, List.length_drop]
  omega
def r3 (K : PySem.W.Frag) : V → Option Int → Option Int → Hp → VK → Prop := fun x lo hi H Q => ∃ d z S G ρ, Hold K S H G ρ ∧ RS K H G ρ d x ∧ slD d lo hi = some z ∧
  ∀ v H' G', Ext H G ρ H' G' ρ → Hold K S H' G' ρ → Rep K G' ρ z v → Q v H'
theorem sl_okD : SlR X (r3 X.K) := by
  intro pins s σ H x v vl vu lo hi sl Q I rx hs pl pu h
  obtain ⟨d, z, S, G, ρ, hd, rd, hf, q⟩ := h
  cases d with
  | lst ds =>
    cases hf
    obtain ⟨a, vs, rfl, h1, h2, h3⟩ := rd.list hd
    exact sl_list pins s σ H _ v vl vu lo hi sl Q I rx hs pl pu ⟨a, vs, rfl, h1, newLst hd (h2.cut lo hi) (Nat.le_trans (cut_len ds lo hi) h3) q⟩
  | tup ds =>
    cases hf
    obtain ⟨a, vs, rfl, h1, h2, h3⟩ := rd.tup hd
    refine sl_tupA pins s σ H _ v vl vu lo hi sl Q I rx hs pl pu ⟨a, vs, rfl, h1, fun e => ?_, fun _ => newTup hd (h2.cut lo hi) (Nat.le_trans (cut_len ds lo hi) h3) q⟩
    have e2 : Ev.cut ds lo hi = ds := by
      unfold Ev.cut
      rw [sIx_same, sIx_same, ← h2.length, e.1, e.2, h2.length]
      show List.take (ds.length - 0) ds = ds
      exact List.take_of_length_le (by omega)
    rw [e2] at q
    exact q _ _ _ .refl hd rd.tupR
  | str zz =>
    have hf : (if zz.length ≤ LIM then some (D.str ⟨(Ev.cut zz.cps.toList lo hi).toArray⟩) else none) = some z := hf
    split at hf
    · rename_i hz
      cases hf
      cases rd.str
      have e : cutS zz lo hi = ⟨(Ev.cut zz.cps.toList lo hi).toArray⟩ := by
        unfold cutS Ev.cut
        rw [sIx_same, sIx_same] <;> rfl
      refine sl_str pins s σ H _ v vl vu lo hi sl Q I rx hs pl pu ⟨zz, rfl, by rw [← LIM_eq]; exact hz, ?_⟩
      rw [e]
      exact q _ _ _ .refl hd rfl
    · cases hf
  | _ => cases hf
end
end Ev

set_option Elab.async false
set_option linter.all false
set_option maxRecDepth 100000
set_option maxHeartbeats 2000000
/-! Expressions: the evaluator's run is the model's. -/
namespace Ev
open PySem PySem.Spec PyProof.Rows L2

/-- how an exception lies -/
def XRep (K : PySem.W.Frag) (ca : Nat → Value) (H G : Hp) (ρ : List Addr) : Exn → Value → Option Addr → Prop
  | .mk c none, cls, dx => cls = ca c ∧ dx = none
  | .mk c (some (f, d)), cls, dx => cls = ca c ∧ ∃ a v, dx = some a ∧ H a = some (.xd [(f, v)]) ∧ Rep K G ρ d v
abbrev WW (K : PySem.W.Frag) (ca : Nat → Value) (W : Value → Option Addr → Hp → Prop) : Exn → Sto → Hp → Hp → List Addr → Prop := fun x _ H' G' ρ' => ∀ cls dx, XRep K ca H' G' ρ' x cls dx → W cls dx H'
/-- the reading of a run: in an environment that lies so, and what is wanted behind it -/
def DN {α β : Type} (K : PySem.W.Frag) (ca : Nat → Value) (W : WX) (RR : Hp → Hp → List Addr → α → β → Prop) (m : Envi → M α) : L2.St → Hp → (β → Hp → Prop) → Prop :=
  fun σ H Q => ∃ env S G ρ, Rl K env S σ H G ρ ∧ Aft K RR (WW K ca fun c d H' => W c d σ H') H G ρ (m env S) Q
theorem PE.imp {X : Cx} {e : Expr} {t t' : TE} (h : PE X e t) (f : ∀ σ H Q, t' σ H Q → t σ H Q) : PE X e t' := ⟨fun pins s σ H Q I q => h.run pins s σ H Q I (f _ _ _ q)⟩
theorem PT.imp {X : Cx} {e : Expr} {t t' : TT} (h : PT X e t) (f : ∀ σ H Q, t' σ H Q → t σ H Q) : PT X e t' := ⟨fun pins s σ H Q I q => h.run pins s σ H Q I (f _ _ _ q)⟩
theorem PW.imp {X : Cx} {e : Expr} {t t' : TT} (h : PW X e t) (f : ∀ σ H Q, t' σ H Q → t σ H Q) : PW X e t' := ⟨fun wh pins s σ H Q I q => h.run wh pins s σ H Q I (f _ _ _ q)⟩
theorem PA.imp {X : Cx} {es : List Expr} {t t' : TA} (h : PA X es t) (f : ∀ σ H Q, t' σ H Q → t σ H Q) : PA X es t' := ⟨fun pos pins s σ H Q I q => h.run pos pins s σ H Q I (f _ _ _ q)⟩
theorem PS.imp {X : Cx} {e : Stmt} {t t' : TS} (h : PS X e t) (f : ∀ D σ H, t' D σ H → t D σ H) : PS X e t' := ⟨fun pins s σ H Q I q => h.run pins s σ H Q I (f _ _ _ q)⟩
theorem PSs.imp {X : Cx} {e : List Stmt} {t t' : TS} (h : PSs X e t) (f : ∀ D σ H, t' D σ H → t D σ H) : PSs X e t' := ⟨fun pins s σ H Q I q => h.run pins s σ H Q I (f _ _ _ q)⟩
/-- the value as it is wanted: only looked at (true), or kept -/
def RE (K : PySem.W.Frag) (bo : Bool) : Hp → Hp → List Addr → D → V → Prop := fun H G ρ d v => if bo then RW K H G ρ d v else Rep K G ρ d v
abbrev REs (K : PySem.W.Frag) (bo : Bool) : Hp → Hp → List Addr → List D → List V → Prop := fun H G ρ ds vs => Paired (RE K bo H G ρ) ds vs
section
variable {K : PySem.W.Frag} {ca : Nat → Value} {W : WX} {α β γ δ : Type} {H G H' G' : Hp} {ρ ρ' : List Addr} {S : Sto} {env : Envi} {σ : L2.St}
theorem RE.of {bo : Bool} {d : D} {v : V} (h : Rep K G ρ d v) : RE K bo H G ρ d v := by
  cases bo
  · exact h
  · exact .inl h
theorem RE.rw {bo : Bool} {d : D} {v : V} (h : RE K bo H G ρ d v) : RW K H G ρ d v := by
  cases bo
  · exact .inl h
  · exact h
theorem RE.mono {bo : Bool} {d : D} {v : V} (x : Ext H G ρ H' G' ρ') (h : RE K bo H G ρ d v) : RE K bo H' G' ρ' d v := by
  cases bo
  · exact Rep.mono x.g x.p d v h
  · exact RW.mono x h
theorem REs.reps : ∀ {ds : List D} {vs : List V}, REs K false H G ρ ds vs → Reps K G ρ ds vs
  | _, _, .nil => .nil
  | _, _, .cons h t => .cons h (REs.reps t)
theorem REs.see {bo : Bool} : ∀ {ds : List D} {vs : List V}, REs K bo H G ρ ds vs → Paired (RW K H G ρ) ds vs
  | _, _, .nil => .nil
  | _, _, .cons h t => .cons h.rw (REs.see t)
/-- one run, then the rest -/
theorem DN.oneE {RR : Hp → Hp → List Addr → α → β → Prop} {RQ : Hp → Hp → List Addr → γ → δ → Prop} {m : Envi → M α} {k : Envi → α → M γ} {Q : δ → Hp → Prop} {Fin : β → Hp → Prop}
    (h : DN K ca W RQ (fun env => M.bnd (m env) (k env)) σ H Q)
    (hf : ∀ env S G ρ S' H2 G2 ρ2 x v, Rl K env S σ H G ρ → m env S = .ok x S' → Ext H G ρ H2 G2 ρ2 → Hold K S' H2 G2 ρ2 → RR H2 G2 ρ2 x v → Aft K RQ (WW K ca fun c d H' => W c d σ H') H2 G2 ρ2 (k env x S') Q → Fin v H2) : DN K ca W RR m σ H Fin := by
  obtain ⟨env, S, G, ρ, rl, h⟩ := h
  refine ⟨env, S, G, ρ, rl, ?_⟩
  have h : Aft K RQ (WW K ca fun c d H' => W c d σ H') H G ρ (M.bnd (m env) (k env) S) Q := h
  unfold M.bnd at h
  cases e : m env S with
  | ok d S' =>
    rw [e] at h
    exact fun v H1 G1 ρ1 x hd r => hf env S G ρ S' H1 G1 ρ1 d v rl e x hd r (Aft.later x h)
  | exc y S' =>
    rw [e] at h
    exact h
  | bad =>
    rw [e] at h
    exact h
/-- one run, then the rest -/
theorem DN.one {RR : Hp → Hp → List Addr → α → β → Prop} {RQ : Hp → Hp → List Addr → γ → δ → Prop} {m : Envi → M α} {k : Envi → α → M γ} {Q : δ → Hp → Prop} {Fin : β → Hp → Prop}
    (h : DN K ca W RQ (fun env => M.bnd (m env) (k env)) σ H Q)
    (hf : ∀ env S H2 G2 ρ2 x v, Rl K env S σ H2 G2 ρ2 → RR H2 G2 ρ2 x v → Aft K RQ (WW K ca fun c d H' => W c d σ H') H2 G2 ρ2 (k env x S) Q → Fin v H2) : DN K ca W RR m σ H Fin := by
  obtain ⟨env, S, G, ρ, rl, h⟩ := h
  refine ⟨env, S, G, ρ, rl, ?_⟩
  have b := Aft.bind (RR := RR) h
  cases e : m env S with
  | ok d S' =>
    rw [e] at b
    intro v H1 G1 ρ1 x hd r
    obtain ⟨d', S1, G2, ρ2, x2, hd2, r2, q⟩ := b v H1 G1 ρ1 x hd r
    exact hf env S1 H1 G2 ρ2 d' v (rl.ext x2 hd2) r2 q
  | exc y S' =>
    rw [e] at b
    exact b
  | bad =>
    rw [e] at b
    exact b
theorem DN.congr {RR : Hp → Hp → List Addr → α → β → Prop} {m m' : Envi → M α} {Q : β → Hp → Prop} (e : ∀ env, m env = m' env) (h : DN K ca W RR m σ H Q) : DN K ca W RR m' σ H Q := by
  have z : m = m' := funext e
  rw [← z]
  exact h
theorem DN.ret {RR : Hp → Hp → List Addr → α → β → Prop} {m : Envi → M α} {d : α} {v : β} {Q : β → Hp → Prop} (rl : Rl K env S σ H G ρ) (h : Aft K RR (WW K ca fun c d H' => W c d σ H') H G ρ (M.ret d S) Q) (r : RR H G ρ d v) : Q v H :=
  Aft.ret rl.toHold h r
/-- two runs of values, then the rest -/
theorem DN.two {ba bb : Bool} {RQ : Hp → Hp → List Addr → γ → δ → Prop} {m n : Envi → M D} {k : D → D → M γ} {Q : δ → Hp → Prop} {Fin : V → V → Hp → Prop}
    (h : DN K ca W RQ (fun env => M.bnd (m env) fun x => M.bnd (n env) fun y => k x y) σ H Q)
    (hf : ∀ env S H2 G2 ρ2 x y v w, Rl K env S σ H2 G2 ρ2 → RE K ba H2 G2 ρ2 x v → RE K bb H2 G2 ρ2 y w → Aft K RQ (WW K ca fun c d H' => W c d σ H') H2 G2 ρ2 (k x y S) Q → Fin v w H2) :
    DN K ca W (RE K ba) m σ H fun v H1 => DN K ca W (RE K bb) n σ H1 fun w H2 => Fin v w H2 := by
  refine DN.one (k := fun env x => M.bnd (n env) fun y => k x y) h fun env S H1 G1 ρ1 x v rl r q => ?_
  refine ⟨env, S, G1, ρ1, rl, ?_⟩
  have b := Aft.bind (RR := RE K bb) q
  cases e : n env S with
  | ok d S' =>
    rw [e] at b
    intro w H2 G2 ρ2 x2 hd r2
    obtain ⟨d', S1, G3, ρ3, x3, hd3, r3, q3⟩ := b w H2 G2 ρ2 x2 hd r2
    exact hf env S1 H2 G3 ρ3 x d' v w (rl.ext x3 hd3) (r.mono x3) r3 q3
  | exc y S' =>
    rw [e] at b
    exact b
  | bad =>
    rw [e] at b
    exact b
/-- a reckoning at the end of a run -/
theorem Aft.r2 {f : D → D → Option D} {x y : D} {v w : V} {Wx : Exn → Sto → Hp → Hp → List Addr → Prop} {Q : VK} (hd : Hold K S H G ρ) (hx : RS K H G ρ x v) (hy : RS K H G ρ y w) (h : Aft K (RV K) Wx H G ρ (M.lift (f x y) S) Q) : Ev.r2 K f v w H Q := by
  obtain ⟨z, hz, h⟩ := Aft.lift1 h
  exact ⟨x, y, z, S, G, ρ, hd, hx, hy, hz, fun v H' G' e hd' r => h v H' G' ρ e hd' r⟩
/-- what is looked at first -/
theorem Aft.see {RQ : Hp → Hp → List Addr → γ → δ → Prop} {d : D} {v : V} {k : D → M γ} {Wx : Exn → Sto → Hp → Hp → List Addr → Prop} {Q : δ → Hp → Prop} (hd : Hold K S H G ρ) (r : RW K H G ρ d v) (h : Aft K RQ Wx H G ρ (M.bnd (seeD d) k S) Q) :
    ∃ e, RS K H G ρ e v ∧ Aft K RQ Wx H G ρ (k e S) Q := by
  rcases see_cases (d := d) (S := S) with ⟨e, q⟩ | q
  · refine ⟨e, (see_ok hd r q).2, ?_⟩
    unfold M.bnd at h
    rw [q] at h
    exact h
  · unfold M.bnd at h
    rw [q] at h
    exact h.elim
end
section
variable {X : Cx} {ca : Nat → Value} {W : WX} {F : Fns} {a b c : Expr} {a' b' c' : E} {pos : Pos}
abbrev DE (X : Cx) (ca : Nat → Value) (W : WX) (F : Fns) (bo : Bool) (e : E) : TE := DN X.K ca W (RE X.K bo) (ev F e)
theorem DE.up {bo : Bool} {e : E} (h : PE X a (DN X.K ca W (RV X.K) (ev F e))) : PE X a (DE X ca W F bo e) := by
  refine PE.imp h fun σ H Q q => ?_
  obtain ⟨env, S, G, ρ, rl, q⟩ := q
  refine ⟨env, S, G, ρ, rl, Aft.imp (fun _ _ _ _ _ h => h) ?_⟩
  cases e1 : ev F e env S with
  | ok d S' =>
    rw [e1] at q
    exact fun v H' G' ρ' x hd r => q v H' G' ρ' x hd (RE.of r)
  | exc y S' =>
    rw [e1] at q
    exact q
  | bad =>
    rw [e1] at q
    exact q
theorem e_var {i : Nat} {x : Str} (hN : X.N[i]? = some x) (hv : Vis X.env.scope x) (h1 : (x == ("__debug__" : Str)) = false) (h2 : (x == ("__classdict__" : Str)) = false) : PE X (.Name x pos) (DE X ca W F true (.var i)) := by
  refine PE.imp (pe_var hN hv h1 h2) fun σ H Q q => ?_
  obtain ⟨env, S, G, ρ, rl, q⟩ := q
  obtain ⟨d, hd, q⟩ := Aft.lift1 q
  unfold getV at hd
  split at hd
  · rename_i e
    cases hd
    obtain ⟨v, h1, h2⟩ := rl.val i _ e
    exact ⟨v, h1, Aft.ret rl.toHold q (.inl h2)⟩
  · rename_i e
    cases hd
    obtain ⟨v, h1, h2⟩ := rl.own i _ e
    exact ⟨_, h1, Aft.ret rl.toHold q (.inr ⟨v, rfl, h2⟩)⟩
  · cases hd
theorem e_take {i : Nat} {x : Str} (hN : X.N[i]? = some x) (hv : Vis X.env.scope x) (h1 : (x == ("__debug__" : Str)) = false) (h2 : (x == ("__classdict__" : Str)) = false) : PE X (.Name x pos) (DE X ca W F false (.take i)) := by
  refine PE.imp (pe_var hN hv h1 h2) fun σ H Q q => ?_
  obtain ⟨env, S, G, ρ, rl, q⟩ := q
  obtain ⟨d, hd, q⟩ := Aft.lift1 q
  unfold takeV at hd
  split at hd
  · rename_i e
    cases hd
    obtain ⟨v, h1, h2⟩ := rl.val i _ e
    exact ⟨v, h1, Aft.ret (RR := RE X.K false) rl.toHold q h2⟩
  · cases hd
theorem e_con {d : D} {v : V} {e : Expr} (h : PE X e (tC v)) (r : ∀ G ρ, Rep X.K G ρ d v) : PE X e (DN X.K ca W (RV X.K) (ev F (.con d))) := by
  refine PE.imp h fun σ H Q q => ?_
  obtain ⟨env, S, G, ρ, rl, q⟩ := q
  exact Aft.ret (RR := RV X.K) rl.toHold q (r G ρ)
theorem e_bin {o : Bop} {ba bb : Bool} (ha : PE X a (DE X ca W F ba a')) (hb : PE X b (DE X ca W F bb b')) : PE X (.BinOp a o.op b pos) (DN X.K ca W (RV X.K) (ev F (.bin o a' b'))) := by
  refine PE.imp (pe_op (op_bopD o) ha hb) fun σ H Q q => ?_
  refine DN.two (γ := D) (k := fun x y => M.bnd (seeD x) fun x => M.bnd (seeD y) fun y => M.lift (bopD o x y)) q fun env S H2 G2 ρ2 x y v w rl r1 r2 q => ?_
  obtain ⟨x', r1', q⟩ := Aft.see rl.toHold r1.rw q
  obtain ⟨y', r2', q⟩ := Aft.see rl.toHold r2.rw q
  exact Aft.r2 rl.toHold r1' r2' q
theorem e_neg {ba : Bool} (ha : PE X a (DE X ca W F ba a')) : PE X (.UnaryOp .USub a pos) (DN X.K ca W (RV X.K) (ev F (.neg a'))) := by
  refine PE.imp (pe_un un_neg ha) fun σ H Q q => ?_
  refine DN.one (γ := D) (k := fun _ x => match x with
    | D.int i => M.ret (D.int (-i))
    | _ => M.bad) q fun env S H2 G2 ρ2 x v rl r q => ?_
  cases x with
  | int i =>
    cases (show v = V.int i from r.rw.see.int)
    exact ⟨i, rfl, Aft.ret (RR := RV X.K) rl.toHold q rfl⟩
  | _ => exact q.elim
/-- the end of a comparison -/
theorem Aft.c2 {K : PySem.W.Frag} {H G : Hp} {ρ : List Addr} {S : Sto} {f : D → D → Option Bool} {x y : D} {v w : V} {Wx : Exn → Sto → Hp → Hp → List Addr → Prop} {Q : VK} (hd : Hold K S H G ρ) (hx : RS K H G ρ x v) (hy : RS K H G ρ y w)
    (h : Aft K (RV K) Wx H G ρ (M.bnd (M.lift (f x y)) (fun r => M.ret (D.bl r)) S) Q) : Ev.c2 K f v w H Q := by
  obtain ⟨z, hz, h⟩ := Aft.lift h
  exact ⟨x, y, z, S, G, ρ, hd, hx, hy, hz, Aft.ret (RR := RV K) hd h rfl⟩
theorem cmp_end {K : PySem.W.Frag} {o : Cop} {H2 G2 : Hp} {ρ2 : List Addr} {S : Sto} {x y : D} {v w : V} {Wx : Exn → Sto → Hp → Hp → List Addr → Prop} {Q : VK} (hd : Hold K S H2 G2 ρ2) (r1 : RW K H2 G2 ρ2 x v) (r2 : RW K H2 G2 ρ2 y w)
    (q : Aft K (RV K) Wx H2 G2 ρ2 (M.bnd (seeD x) (fun x => M.bnd (seeD y) fun y => M.bnd (M.lift (copD o x y)) fun r => M.ret (D.bl r)) S) Q) : Ev.c2 K (copD o) v w H2 Q := by
  obtain ⟨x', r1', q⟩ := Aft.see hd r1 q
  obtain ⟨y', r2', q⟩ := Aft.see hd r2 q
  exact Aft.c2 hd r1' r2' q
/-- a value that is a truth -/
abbrev DT (X : Cx) (ca : Nat → Value) (W : WX) (F : Fns) (e : E) : TT := DN X.K ca W RB (fun env => tst (ev F e env))
theorem DT.val {K : PySem.W.Frag} {m : Envi → M D} {σ : L2.St} {H : Hp} {Q : Bool → Hp → Prop} (q : DN K ca W RB (fun env => tst (m env)) σ H Q) : DN K ca W (RV K) m σ H (fun x H' => ∃ k, x = .bl k ∧ Q k H') := by
  refine DN.one (γ := Bool) (k := fun _ x => match x with
    | D.bl i => M.ret i
    | _ => M.bad) q fun env S H2 G2 ρ2 x v rl r q => ?_
  cases x with
  | bl i => exact ⟨i, r, Aft.ret (RR := RB) rl.toHold q rfl⟩
  | _ => exact q.elim
/-- a test by its value, where the model asks for the value's truth -/
theorem t_val {e' : E} (h : PE X a (DN X.K ca W (RV X.K) (ev F e'))) (he : ∀ whole, isTrue a X.env whole = (do let v ← whole; standAt a.pos; holding [v] (truthy v))) : PT X a (DT X ca W F e') :=
  PT.imp (pt_val h he) fun σ H Q q => DT.val q
theorem cmp_read {o : Cop} {ba bb : Bool} {σ : L2.St} {H : Hp} {Q : VK} (q : DN X.K ca W (RV X.K) (ev F (.cmp o a' b')) σ H Q) : tOp (Ev.c2 X.K (copD o)) (DE X ca W F ba a') (DE X ca W F bb b') σ H Q :=
  DN.two (γ := D) (k := fun x y => M.bnd (seeD x) fun x => M.bnd (seeD y) fun y => M.bnd (M.lift (copD o x y)) fun r => M.ret (D.bl r)) q fun env S H2 G2 ρ2 x y v w rl r1 r2 q => cmp_end rl.toHold r1.rw r2.rw q
theorem e_cmp {o : Cop} {ba bb : Bool} (hu : X.A.units + 64 < cLine) (ha : PE X a (DE X ca W F ba a')) (hb : PE X b (DE X ca W F bb b')) (hm : behindInMarks o.op b = false) : PE X (.Compare a [o.op] [b] pos) (DN X.K ca W (RV X.K) (ev F (.cmp o a' b'))) :=
  PE.imp (pe_cmpR (op_copD hu o) ha hb hm) fun _ _ _ q => cmp_read q
theorem t_cmp {o : Cop} {ba bb : Bool} (hu : X.A.units + 64 < cLine) (ha : PE X a (DE X ca W F ba a')) (hb : PE X b (DE X ca W F bb b')) (hm : behindInMarks o.op b = false) : PT X (.Compare a [o.op] [b] pos) (DT X ca W F (.cmp o a' b')) :=
  PT.imp (pt_cmpR (op_copD hu o) ha hb hm) fun _ _ _ q => cmp_read (DT.val q)
/-- is None -/
theorem RE.isnon {K : PySem.W.Frag} {H G : Hp} {ρ : List Addr} {d : D} {v : V} (r : RW K H G ρ d v) : decide (v = V.non) = (match d with | .non => true | _ => false) := by
  rcases r with q | ⟨a, e, o⟩
  · cases d with
    | non => cases (show v = V.non from q); rfl
    | bl b => cases (show v = V.bl b from q); rfl
    | int b => cases (show v = V.int b from q); rfl
    | str b => cases (show v = V.str b from q); rfl
    | tup ds => obtain ⟨_, a, vs, e, _⟩ := q; subst e; rfl
    | lst ds => obtain ⟨_, a, vs, e, _⟩ := q; subst e; rfl
    | dic ks ws => obtain ⟨_, a, vs, e, _⟩ := q; subst e; rfl
    | cell n => obtain ⟨a, e, _⟩ := q; subst e; rfl
  · subst e
    cases d with
    | lst ds => rfl
    | dic ks ws => rfl
    | _ => exact o.2.2.elim
theorem isn_read {g : Bool} {ba : Bool} {op : CmpOp} {σ : L2.St} {H : Hp} {Q : VK} (q : DN X.K ca W (RV X.K) (ev F (.isn a' g)) σ H Q) :
    tOp (fun x y H Q => y = .non ∧ Q (.bl (if g then decide (x = .non) else !decide (x = .non))) H) (DE X ca W F ba a') (tC .non) σ H Q := by
  refine DN.one (γ := D) (k := fun _ x => M.ret (D.bl (match x with | .non => g | _ => !g))) q fun env S H2 G2 ρ2 x v rl r q => ?_
  refine ⟨rfl, Aft.ret (RR := RV X.K) rl.toHold q ?_⟩
  rw [RE.isnon r.rw]
  cases g <;> cases x <;> rfl
theorem e_isn {ba : Bool} {j : Nat} {p' : Pos} (ha : PE X a (DE X ca W F ba a')) : PE X (.Compare a [.Is] [.Constant .none j p'] pos) (DN X.K ca W (RV X.K) (ev F (.isn a' true))) :=
  PE.imp (pe_cmpR op_isN ha pe_non (nomark _)) fun _ _ _ q => isn_read (op := .Is) q
theorem t_isn {ba : Bool} {j : Nat} {p' : Pos} (ha : PE X a (DE X ca W F ba a')) : PT X (.Compare a [.Is] [.Constant .none j p'] pos) (DT X ca W F (.isn a' true)) :=
  PT.imp (pt_cmpR op_isN ha pe_non (nomark _)) fun _ _ _ q => isn_read (op := .Is) (DT.val q)
theorem e_notn {ba : Bool} {j : Nat} {p' : Pos} (ha : PE X a (DE X ca W F ba a')) : PE X (.Compare a [.IsNot] [.Constant .none j p'] pos) (DN X.K ca W (RV X.K) (ev F (.isn a' false))) :=
  PE.imp (pe_cmpR op_notN ha pe_non (nomark _)) fun _ _ _ q => isn_read (op := .IsNot) q
theorem t_notn {ba : Bool} {j : Nat} {p' : Pos} (ha : PE X a (DE X ca W F ba a')) : PT X (.Compare a [.IsNot] [.Constant .none j p'] pos) (DT X ca W F (.isn a' false)) :=
  PT.imp (pt_cmpR op_notN ha pe_non (nomark _)) fun _ _ _ q => isn_read (op := .IsNot) (DT.val q)
/-- a op b op c -/
theorem chain_read {o o' : Cop} {ba bb bc : Bool} {σ : L2.St} {H : Hp} {Q : VK} (q : DN X.K ca W (RV X.K) (ev F (.chain o o' a' b' c')) σ H Q) :
    tChain (Ev.c2 X.K (copD o)) (Ev.c2 X.K (copD o')) (DE X ca W F ba a') (DE X ca W F bb b') (DE X ca W F bc c') σ H Q := by
  refine DN.one (γ := D) (k := fun env x => M.bnd (ev F b' env) fun y => M.bnd (M.lift (copD o x y)) fun r => if r then M.bnd (ev F c' env) fun z => M.bnd (M.lift (copD o' y z)) fun r => M.ret (D.bl r) else M.ret (D.bl false)) q
    fun env S H1 G1 ρ1 x v rl r q => ?_
  refine ⟨env, S, G1, ρ1, rl, ?_⟩
  have b := Aft.bind (RR := RE X.K bb) q
  cases e : ev F b' env S with
  | bad => rw [e] at b; exact b
  | exc y S' => rw [e] at b; exact b
  | ok d S' =>
    rw [e] at b
    intro w H2 G2 ρ2 x2 hd r2
    obtain ⟨y, S1, G3, ρ3, x3, hd3, r3, q3⟩ := b w H2 G2 ρ2 x2 hd r2
    obtain ⟨k, hk, q3⟩ := Aft.lift q3
    refine ⟨x, y, k, S1, G3, ρ3, hd3, (r.mono x3).rw.see, r3.rw.see, hk, k, rfl, ?_⟩
    cases k with
    | false => exact Aft.ret (RR := RV X.K) hd3 q3 rfl
    | true =>
      refine ⟨env, S1, G3, ρ3, rl.ext x3 hd3, ?_⟩
      have b := Aft.bind (RR := RE X.K bc) (show Aft X.K (RV X.K) _ H2 G3 ρ3 (M.bnd (ev F c' env) (fun z => M.bnd (M.lift (copD o' y z)) fun r => M.ret (D.bl r)) S1) Q from q3)
      cases e : ev F c' env S1 with
      | bad => rw [e] at b; exact b
      | exc y S' => rw [e] at b; exact b
      | ok d S' =>
        rw [e] at b
        intro w' H4 G4 ρ4 x4 hd4 r4
        obtain ⟨z, S5, G5, ρ5, x5, hd5, r5, q5⟩ := b w' H4 G4 ρ4 x4 hd4 r4
        exact Aft.c2 hd5 (r3.mono x5).rw.see r5.rw.see q5
theorem e_chain {o o' : Cop} {ba bb bc : Bool} (hu : X.A.units + 64 < cLine) (ha : PE X a (DE X ca W F ba a')) (hb : PE X b (DE X ca W F bb b')) (hc : PE X c (DE X ca W F bc c')) (hm : lastMarks [o.op, o'.op] [b, c] = false) :
    PE X (.Compare a [o.op, o'.op] [b, c] pos) (DN X.K ca W (RV X.K) (ev F (.chain o o' a' b' c'))) :=
  PE.imp (pe_chain (op_copD hu o) (op_copD hu o') ha hb hc hm) fun _ _ _ q => chain_read q
theorem t_chain {o o' : Cop} {ba bb bc : Bool} (hu : X.A.units + 64 < cLine) (ha : PE X a (DE X ca W F ba a')) (hb : PE X b (DE X ca W F bb b')) (hc : PE X c (DE X ca W F bc c')) (hm : lastMarks [o.op, o'.op] [b, c] = false) :
    PT X (.Compare a [o.op, o'.op] [b, c] pos) (DT X ca W F (.chain o o' a' b' c')) :=
  PT.imp (pt_chain (op_copD hu o) (op_copD hu o') ha hb hc hm) fun _ _ _ q => chain_read (DT.val q)
/-! ### and, or, not, if -/
theorem tst_bnd {m : M Bool} {f : Bool → M D} : tst (M.bnd m f) = M.bnd m fun b => tst (f b) := by
  funext S
  show M.bnd (M.bnd m f) _ S = M.bnd m _ S
  unfold M.bnd
  cases m S <;> rfl
theorem t_and {a b : Expr} {rest : List Expr} (ha : PT X a (DT X ca W F a')) (hb : PW X (.BoolOp .And (b :: rest) pos) (DT X ca W F b')) : PW X (.BoolOp .And (a :: b :: rest) pos) (DT X ca W F (.and a' b')) := by
  refine PW.imp (pw_and ha hb) fun σ H Q q => ?_
  have q : DN X.K ca W RB (fun env => M.bnd (tst (ev F a' env)) fun c => tst (if c then ev F b' env else M.ret (D.bl false))) σ H Q := DN.congr (fun env => tst_bnd (m := tst (ev F a' env)) (f := fun c => if c then ev F b' env else M.ret (D.bl false))) q
  refine DN.one (k := fun env c => tst (if c then ev F b' env else M.ret (D.bl false))) q fun env S H2 G2 ρ2 x v rl r q => ?_
  cases (show v = x from r)
  cases x with
  | true => exact ⟨env, S, G2, ρ2, rl, q⟩
  | false => exact Aft.ret (RR := RB) rl.toHold q rfl
theorem t_or {a b : Expr} {rest : List Expr} (ha : PT X a (DT X ca W F a')) (hb : PW X (.BoolOp .Or (b :: rest) pos) (DT X ca W F b')) : PW X (.BoolOp .Or (a :: b :: rest) pos) (DT X ca W F (.or a' b')) := by
  refine PW.imp (pw_or ha hb) fun σ H Q q => ?_
  have q : DN X.K ca W RB (fun env => M.bnd (tst (ev F a' env)) fun c => tst (if c then M.ret (D.bl true) else ev F b' env)) σ H Q := DN.congr (fun env => tst_bnd (m := tst (ev F a' env)) (f := fun c => if c then M.ret (D.bl true) else ev F b' env)) q
  refine DN.one (k := fun env c => tst (if c then M.ret (D.bl true) else ev F b' env)) q fun env S H2 G2 ρ2 x v rl r q => ?_
  cases (show v = x from r)
  cases x with
  | false => exact ⟨env, S, G2, ρ2, rl, q⟩
  | true => exact Aft.ret (RR := RB) rl.toHold q rfl
theorem t_not (ha : PT X a (DT X ca W F a')) : PT X (.UnaryOp .Not a pos) (DT X ca W F (.not a')) := by
  refine PT.imp (pt_not ha) fun σ H Q q => ?_
  have q : DN X.K ca W RB (fun env => M.bnd (tst (ev F a' env)) fun c => tst (M.ret (D.bl (!c)))) σ H Q := DN.congr (fun env => tst_bnd (m := tst (ev F a' env)) (f := fun c => M.ret (D.bl (!c)))) q
  refine DN.one (k := fun env c => tst (M.ret (D.bl (!c)))) q fun env S H2 G2 ρ2 x v rl r q => ?_
  cases (show v = x from r)
  exact Aft.ret (RR := RB) rl.toHold q rfl
theorem e_and {a b : Expr} {rest : List Expr} (ha : PE X a (DN X.K ca W (RV X.K) (ev F a'))) (hb : PE X (.BoolOp .And (b :: rest) pos) (DN X.K ca W (RV X.K) (ev F b'))) : PE X (.BoolOp .And (a :: b :: rest) pos) (DN X.K ca W (RV X.K) (ev F (.and a' b'))) := by
  refine PE.imp (pe_and ha hb) fun σ H Q q => ?_
  refine DT.val (DN.one (γ := D) (RR := RB) (k := fun env c => if c then ev F b' env else M.ret (D.bl false)) (Fin := fun k H' => if k = true then DN X.K ca W (RV X.K) (ev F b') σ H' Q else Q (.bl false) H') q fun env S H2 G2 ρ2 x v rl r q => ?_)
  cases (show v = x from r)
  cases x with
  | true => exact ⟨env, S, G2, ρ2, rl, q⟩
  | false => exact Aft.ret (RR := RV X.K) rl.toHold q rfl
theorem e_or {a b : Expr} {rest : List Expr} (ha : PE X a (DN X.K ca W (RV X.K) (ev F a'))) (hb : PE X (.BoolOp .Or (b :: rest) pos) (DN X.K ca W (RV X.K) (ev F b'))) : PE X (.BoolOp .Or (a :: b :: rest) pos) (DN X.K ca W (RV X.K) (ev F (.or a' b'))) := by
  refine PE.imp (pe_or ha hb) fun σ H Q q => ?_
  refine DT.val (DN.one (γ := D) (RR := RB) (k := fun env c => if c then M.ret (D.bl true) else ev F b' env) (Fin := fun k H' => if k = true then Q (.bl true) H' else DN X.K ca W (RV X.K) (ev F b') σ H' Q) q fun env S H2 G2 ρ2 x v rl r q => ?_)
  cases (show v = x from r)
  cases x with
  | false => exact ⟨env, S, G2, ρ2, rl, q⟩
  | true => exact Aft.ret (RR := RV X.K) rl.toHold q rfl
theorem e_not (ha : PE X a (DN X.K ca W (RV X.K) (ev F a'))) : PE X (.UnaryOp .Not a pos) (DN X.K ca W (RV X.K) (ev F (.not a'))) := by
  refine PE.imp (pe_not ha) fun σ H Q q => ?_
  refine DT.val (DN.one (γ := D) (RR := RB) (k := fun env c => M.ret (D.bl (!c))) (Fin := fun k H' => Q (.bl (!k)) H') q fun env S H2 G2 ρ2 x v rl r q => ?_)
  cases (show v = x from r)
  exact Aft.ret (RR := RV X.K) rl.toHold q rfl
theorem e_ite {bo : Bool} (hc : PT X c (DT X ca W F c')) (ha : PE X a (DE X ca W F bo a')) (hb : PE X b (DE X ca W F bo b')) : PE X (.IfExp c a b pos) (DE X ca W F bo (.ite c' a' b')) := by
  refine PE.imp (pe_ifExp hc ha hb) fun σ H Q q => ?_
  refine DN.one (γ := D) (RR := RB) (k := fun env c => if c then ev F a' env else ev F b' env) q fun env S H2 G2 ρ2 x v rl r q => ?_
  cases (show v = x from r)
  cases x with
  | true => exact ⟨env, S, G2, ρ2, rl, q⟩
  | false => exact ⟨env, S, G2, ρ2, rl, q⟩
end
end Ev

set_option Elab.async false
set_option linter.all false
set_option maxRecDepth 100000
set_option maxHeartbeats 2000000
/-! Arguments, displays, calls, subscripts. -/
namespace Ev
open PySem PySem.Spec PyProof.Rows L2
section
variable {K : PySem.W.Frag} {ca : Nat → Value} {W : WX} {H G H' G' : Hp} {ρ ρ' : List Addr} {S : Sto} {F : Fns}
theorem REs.mono {bo : Bool} (x : Ext H G ρ H' G' ρ') : ∀ {ds : List D} {vs : List V}, REs K bo H G ρ ds vs → REs K bo H' G' ρ' ds vs
  | _, _, .nil => .nil
  | _, _, .cons h t => .cons (h.mono x) (REs.mono x t)
def Es.len : Es → Nat
  | .nil => 0
  | .cons _ es => es.len + 1
theorem evs_len : ∀ (es : Es) (env : Envi) (S S' : Sto) (ds : List D), evs F es env S = .ok ds S' → ds.length = es.len
  | .nil, env, S, S', ds, h => by
    have h : (Out.ok ([] : List D) S) = .ok ds S' := h
    cases h
    rfl
  | .cons e es, env, S, S', ds, h => by
    have h : M.bnd (ev F e env) (fun d => M.bnd (evs F es env) fun ds => M.ret (d :: ds)) S = .ok ds S' := h
    unfold M.bnd at h
    cases e1 : ev F e env S with
    | bad => rw [e1] at h; cases h
    | exc _ _ => rw [e1] at h; cases h
    | ok d S1 =>
      rw [e1] at h
      dsimp only at h
      cases e2 : evs F es env S1 with
      | bad => rw [e2] at h; cases h
      | exc _ _ => rw [e2] at h; cases h
      | ok ds2 S2 =>
        rw [e2] at h
        have h : (Out.ok (d :: ds2) S2) = .ok ds S' := h
        cases h
        rw [List.length_cons, evs_len es env S1 S' ds2 e2]
        rfl
end
section
variable {X : Cx} {ca : Nat → Value} {W : WX} {F : Fns} {a b c : Expr} {a' b' c' : E} {es : List Expr} {es' : Es} {pos : Pos}
abbrev DA (X : Cx) (ca : Nat → Value) (W : WX) (F : Fns) (bo : Bool) (es : Es) : TA := DN X.K ca W (REs X.K bo) (evs F es)
theorem a_nil {bo : Bool} : PA X [] (DA X ca W F bo .nil) := PA.imp pa_nil fun σ H Q q => by
  obtain ⟨env, S, G, ρ, rl, q⟩ := q
  exact Aft.ret (RR := REs X.K bo) rl.toHold q .nil
theorem a_cons {bo : Bool} (ha : PE X a (DE X ca W F bo a')) (hr : PA X es (DA X ca W F bo es')) (hs : starEach (a :: es) X.env = (false, eval a X.env) :: starEach es X.env) : PA X (a :: es) (DA X ca W F bo (.cons a' es')) := by
  refine PA.imp (pa_cons ha hr hs) fun σ H Q q => ?_
  refine DN.one (γ := List D) (k := fun env d => M.bnd (evs F es' env) fun ds => M.ret (d :: ds)) q fun env S H1 G1 ρ1 d v rl r q => ?_
  refine ⟨env, S, G1, ρ1, rl, ?_⟩
  have b := Aft.bind (RR := REs X.K bo) q
  cases e : evs F es' env S with
  | bad => rw [e] at b; exact b
  | exc y S' => rw [e] at b; exact b
  | ok ds S' =>
    rw [e] at b
    intro vs H2 G2 ρ2 x2 hd r2
    obtain ⟨d', S1, G3, ρ3, x3, hd3, r3, q3⟩ := b vs H2 G2 ρ2 x2 hd r2
    exact Aft.ret (RR := REs X.K bo) hd3 q3 (.cons (r.mono x3) r3)
/-- the reading of a run that makes a new list or dict of nobody -/
def DF (K : PySem.W.Frag) (ca : Nat → Value) (W : WX) (m : Envi → M D) : TE :=
  fun σ H Q => ∃ env S G ρ, Rl K env S σ H G ρ ∧ Aft K (RN K H) (WW K ca fun c d H' => W c d σ H') H G ρ (m env S) Q
theorem Se.obj {K : PySem.W.Frag} {H G : Hp} {ρ : List Addr} {d : D} {a : Addr} (s : Se K H G ρ d a) : ∃ o, H a = some o ∧ ∀ G', G' a = some o → (∀ b u, G b = some u → G' b = some u) → Rep K G' ρ d (.ref a) := by
  unfold Se at s
  split at s
  · obtain ⟨z, vs, e, r⟩ := s
    exact ⟨_, e, fun G' h g => ⟨z, a, vs, rfl, SqL.of h, Reps.mono g (List.prefix_refl _) _ _ r⟩⟩
  · obtain ⟨z, vs, e, r, t⟩ := s
    exact ⟨_, e, fun G' h g => ⟨z, a, vs, rfl, h, Reps.mono g (List.prefix_refl _) _ _ r, Reps.mono g (List.prefix_refl _) _ _ t⟩⟩
  · exact s.elim
theorem DF.up {e : Expr} {m : Envi → M D} (h : PE X e (DF X.K ca W m)) : PE X e (DN X.K ca W (RV X.K) m) := by
  refine PE.imp h fun σ H Q q => ?_
  obtain ⟨env, S, G, ρ, rl, q⟩ := q
  refine ⟨env, S, G, ρ, rl, ?_⟩
  cases e1 : m env S with
  | bad => rw [e1] at q; exact q
  | exc y S' => rw [e1] at q; exact q
  | ok d S' =>
    rw [e1] at q
    intro v H1 G1 ρ1 x hd r
    obtain ⟨a, rfl, h0, g0, n0, s⟩ := r
    obtain ⟨o, ho, f⟩ := s.obj
    obtain ⟨hd', g'⟩ := hd.still ho g0 n0
    refine q _ H1 (upd G1 a o) ρ1 ⟨fun b u e => g' b u (x.g b u e), x.p, x.h, fun b u e => ?_, x.pn, x.d⟩ hd' (f _ upd_same g')
    by_cases z : b = a
    · subst z
      exact .inr h0
    · rw [upd_ne z] at e
      exact x.gn b u e
theorem freshL {K : PySem.W.Frag} {S : Sto} {H H0 G : Hp} {ρ : List Addr} {zs : List D} {vs : List V} (hd : Hold K S H G ρ) (h0 : ∀ a, H a = none → H0 a = none) (r : Reps K G ρ zs vs) (hz : zs.length ≤ LIM) {Wx : Exn → Sto → Hp → Hp → List Addr → Prop} {Q : VK}
    (q : Aft K (RN K H0) Wx H G ρ (M.ret (D.lst zs) S) Q) (p : Addr) (n : H p = none) : Q (.ref p) (upd H p (.lst vs)) := by
  obtain ⟨x, h'⟩ := hd.fresh (o := .lst vs) n
  have gn : G p = none := by
    cases e : G p with
    | none => rfl
    | some u =>
      have := hd.gh p u e
      rw [n] at this
      cases this
  have na : p ∉ ρ := fun m => by
    obtain ⟨o, e⟩ := hd.atCell m
    rw [n] at e
    cases e
  exact q _ _ _ _ x h' ⟨p, rfl, h0 p n, gn, na, hz, vs, upd_same, r⟩
theorem Ext.none {H G H' G' : Hp} {ρ ρ' : List Addr} (x : Ext H G ρ H' G' ρ') (a : Addr) (h : H' a = Option.none) : H a = Option.none := by
  cases e : H a with
  | none => rfl
  | some u =>
    obtain ⟨o', e'⟩ := x.d a u e
    rw [h] at e'
    cases e'
theorem e_tup {k : Nat} (h : PA X es (DA X ca W F false es')) (hz : es'.len ≤ LIM) : PE X (.Tuple es k pos) (DN X.K ca W (RV X.K) (ev F (.tup es'))) := by
  refine PE.imp (pe_tup h) fun σ H Q q => ?_
  refine DN.oneE (γ := D) (k := fun env ds => M.ret (D.tup ds)) q fun env S G ρ S' H2 G2 ρ2 ds vs rl e x hd r q => ?_
  have hl : ds.length ≤ LIM := by rw [evs_len es' env S S' ds e]; exact hz
  have rr := REs.reps r
  exact ⟨by rw [rr.length, ← LIM_eq]; exact hl, newTup hd rr hl fun v H' G' y hd' r' => q v H' G' ρ2 y hd' r'⟩
theorem f_lst (h : PA X es (DA X ca W F false es')) (hz : es'.len ≤ LIM) : PE X (.List es pos) (DF X.K ca W (ev F (.lst es'))) := by
  refine PE.imp (pe_lst h) fun σ H Q q => ?_
  obtain ⟨env, S, G, ρ, rl, q⟩ := q
  refine ⟨env, S, G, ρ, rl, ?_⟩
  have q : Aft X.K (RN X.K H) _ H G ρ (M.bnd (evs F es' env) (fun ds => M.ret (D.lst ds)) S) Q := q
  unfold M.bnd at q
  cases e : evs F es' env S with
  | bad => rw [e] at q; exact q
  | exc y S' => rw [e] at q; exact q
  | ok ds S' =>
    rw [e] at q
    intro vs H2 G2 ρ2 x hd r
    have hl : ds.length ≤ LIM := by rw [evs_len es' env S S' ds e]; exact hz
    have rr := REs.reps r
    exact ⟨by rw [rr.length, ← LIM_eq]; exact hl, freshL hd x.none rr hl (Aft.later x q)⟩
theorem f_cat {ba bb : Bool} (ha : PE X a (DE X ca W F ba a')) (hb : PE X b (DE X ca W F bb b')) : PE X (.BinOp a .Add b pos) (DF X.K ca W (ev F (.cat a' b'))) := by
  refine PE.imp (pe_op op_catL ha hb) fun σ H Q q => ?_
  obtain ⟨env, S, G, ρ, rl, q⟩ := q
  refine ⟨env, S, G, ρ, rl, ?_⟩
  have q : Aft X.K (RN X.K H) _ H G ρ (M.bnd (ev F a' env) (fun x => M.bnd (ev F b' env) fun y => M.bnd (seeD x) fun x => M.bnd (seeD y) fun y => M.lift (catD x y)) S) Q := q
  unfold M.bnd at q
  cases e : ev F a' env S with
  | bad => rw [e] at q; exact q
  | exc y S' => rw [e] at q; exact q
  | ok x S' =>
    rw [e] at q
    intro v H2 G2 ρ2 x2 hd r
    refine ⟨env, S', G2, ρ2, rl.ext x2 hd, ?_⟩
    have q := Aft.later x2 q
    dsimp only at q
    cases e2 : ev F b' env S' with
    | bad => rw [e2] at q; exact q
    | exc y S' => rw [e2] at q; exact q
    | ok y S2 =>
      rw [e2] at q
      intro w H3 G3 ρ3 x3 hd3 r3
      have q := Aft.later x3 q
      have q : Aft X.K (RN X.K H) _ H3 G3 ρ3 (M.bnd (seeD x) (fun x => M.bnd (seeD y) fun y => M.lift (catD x y)) S2) Q := q
      obtain ⟨x', r1', q⟩ := Aft.see hd3 (r.mono x3).rw q
      obtain ⟨y', r3', q⟩ := Aft.see hd3 r3.rw q
      obtain ⟨z, hz, q⟩ := Aft.lift1 q
      unfold catD at hz
      split at hz
      · split at hz
        · rename_i hl
          cases hz
          obtain ⟨l, vs, rfl, h1, h2, _⟩ := r1'.list hd3
          obtain ⟨b, ws, rfl, h3, h4, _⟩ := r3'.list hd3
          exact ⟨l, b, vs, ws, rfl, rfl, h1, h3, by rw [h2.length, h4.length, ← LIM_eq]; exact hl, fun p n => freshL hd3 (fun a z => x2.none a (x3.none a z)) (h2.append h4) (by rw [List.length_append]; exact hl) q p n⟩
        · cases hz
      · cases hz
theorem op_repD : OpR X (binaryOp .Mult) rRep := op_rep
theorem f_repl {bo : Bool} (h : PA X es (DA X ca W F false es')) (hz : es'.len ≤ LIM) (hb : PE X b (DE X ca W F bo b')) {p2 : Pos} : PE X (.BinOp (.List es p2) .Mult b pos) (DF X.K ca W (ev F (.repl es' b'))) := by
  refine PE.imp (pe_op op_rep (pe_lst h) hb) fun σ H Q q => ?_
  obtain ⟨env, S, G, ρ, rl, q⟩ := q
  refine ⟨env, S, G, ρ, rl, ?_⟩
  have q : Aft X.K (RN X.K H) _ H G ρ (M.bnd (evs F es' env) (fun ds => M.bnd (ev F b' env) fun k => match k with
    | D.int k => if -(2 ^ 63) ≤ k ∧ k < 2 ^ 63 ∧ ds.length * k.toNat ≤ LIM then M.ret (D.lst (rep k.toNat ds)) else M.bad
    | _ => M.bad) S) Q := q
  unfold M.bnd at q
  cases e : evs F es' env S with
  | bad => rw [e] at q; exact q
  | exc y S' => rw [e] at q; exact q
  | ok ds S' =>
    rw [e] at q
    intro vs H2 G2 ρ2 x hd r
    have hl : ds.length ≤ LIM := by rw [evs_len es' env S S' ds e]; exact hz
    have rr := REs.reps r
    refine ⟨by rw [rr.length, ← LIM_eq]; exact hl, fun p n => ?_⟩
    obtain ⟨x2, hd2⟩ := hd.fresh (o := .lst vs) n
    refine ⟨env, S', G2, ρ2, rl.ext (x.trans x2) hd2, ?_⟩
    have q := Aft.later (x.trans x2) q
    dsimp only at q
    have gp : G2 p = none := by
      cases e : G2 p with
      | none => rfl
      | some u =>
        have := hd.gh p u e
        rw [n] at this
        cases this
    have np : p ∉ ρ2 := fun m => by
      obtain ⟨o, e⟩ := hd.atCell m
      rw [n] at e
      cases e
    cases e2 : ev F b' env S' with
    | bad => rw [e2] at q; exact q
    | exc y S' => rw [e2] at q; exact q
    | ok k S2 =>
      rw [e2] at q
      intro w H3 G3 ρ3 x3 hd3 r3
      have q := Aft.later x3 q
      cases k with
      | int k =>
        cases (show w = V.int k from r3.rw.see.int)
        have q : Aft X.K (RN X.K H) _ H3 G3 ρ3 ((if -(2 ^ 63) ≤ k ∧ k < 2 ^ 63 ∧ ds.length * k.toNat ≤ LIM then M.ret (D.lst (rep k.toNat ds)) else M.bad) S2) Q := q
        split at q
        · rename_i hc
          have r4 := Reps.mono x3.g x3.p _ _ rr
          refine ⟨p, k, vs, rfl, rfl, x3.h _ _ upd_same np, hc.1, hc.2.1, by rw [rr.length, ← LIM_eq]; exact hc.2.2, ?_⟩
          refine freshL hd3 (fun a z => x.none a (x2.none a (x3.none a z))) (r4.rep k.toNat) ?_ q
          unfold rep
          rw [PyProof.Rows.lm_len_rep_flat, Nat.mul_comm]
          exact hc.2.2
        · exact q.elim
      | _ => exact q.elim
/-! ### subscripts -/
theorem e_ix {ba bb : Bool} (hu : X.A.units + 64 < cLine) (ha : PE X a (DE X ca W F ba a')) (hb : PE X b (DE X ca W F bb b')) (hs : PlainIx b) : PE X (.Subscript a b pos) (DN X.K ca W (RV X.K) (ev F (.ix a' b'))) := by
  refine PE.imp (pe_ix (ix_okD hu) ha hb hs) fun σ H Q q => ?_
  refine DN.two (γ := D) (k := fun x y => M.bnd (seeD x) fun x => M.lift (ixD x y)) q fun env S H2 G2 ρ2 x y v w rl r1 r2 q => ?_
  obtain ⟨x', r1', q⟩ := Aft.see rl.toHold r1.rw q
  exact Aft.r2 rl.toHold r1' r2.rw.see q
/-! ### built-ins -/
def rBi (K : PySem.W.Frag) (f : Bi) : List V → Hp → VK → Prop := fun vs H Q => ∃ ds z S G ρ, Hold K S H G ρ ∧ Paired (RS K H G ρ) ds vs ∧ biD f ds = some z ∧ ∀ v H' G', Ext H G ρ H' G' ρ → Hold K S H' G' ρ → Rep K G' ρ z v → Q v H'
theorem bi_read {b : Bi} {es' : Es} {bo : Bool} {σ : L2.St} {H : Hp} {Q : VK} (q : DN X.K ca W (RV X.K) (ev F (.bi b es')) σ H Q) : tCB (rBi X.K b) (DA X ca W F bo es') σ H Q := by
  refine DN.one (γ := D) (k := fun env ds => M.bnd (match ds with | [d] => M.bnd (seeD d) fun d => M.ret [d] | ds => M.ret ds) fun ds => M.lift (biD b ds)) q fun env S H2 G2 ρ2 ds vs rl r q => ?_
  have hd := rl.toHold
  have go : ∀ ds' : List D, Paired (RS X.K H2 G2 ρ2) ds' vs → Aft X.K (RV X.K) (WW X.K ca fun c d H' => W c d σ H') H2 G2 ρ2 (M.lift (biD b ds') S) Q → rBi X.K b vs H2 Q := fun ds' r' q => by
    obtain ⟨z, hz, h⟩ := Aft.lift1 q
    exact ⟨ds', z, S, G2, ρ2, hd, r', hz, fun v H' G' e hd' r => h v H' G' ρ2 e hd' r⟩
  cases r with
  | nil => exact go [] .nil q
  | cons h t =>
    cases t with
    | nil =>
      rename_i d v
      rcases see_cases (d := d) (S := S) with ⟨e, z⟩ | z
      · refine go [e] (.cons (see_ok hd h.rw z).2 .nil) ?_
        have q : Aft X.K (RV X.K) (WW X.K ca fun c d H' => W c d σ H') H2 G2 ρ2 (M.bnd (M.bnd (seeD d) fun d => M.ret [d]) (fun ds => M.lift (biD b ds)) S) Q := q
        unfold M.bnd at q
        rw [z] at q
        exact q
      · have q : Aft X.K (RV X.K) (WW X.K ca fun c d H' => W c d σ H') H2 G2 ρ2 (M.bnd (M.bnd (seeD d) fun d => M.ret [d]) (fun ds => M.lift (biD b ds)) S) Q := q
        unfold M.bnd at q
        rw [z] at q
        exact q.elim
    | cons h2 t =>
      refine go _ (.cons h.rw.see (.cons h2.rw.see ?_)) q
      clear q go
      induction t with
      | nil => exact .nil
      | cons h t ih => exact .cons h.rw.see (ih)
theorem e_bi {id : String} {x : Str} {p : Pos} {b : Bi} {bo : Bool} (hc : CallR X (.builtin id) (rBi X.K b)) (hg : Gl X x) (hm : X.mg x = none) (hv : bootBuiltins x = some (.builtin id)) (ha : PA X (a :: es) (DA X ca W F bo es')) (hn : x ≠ "__name__") (hdb : (x == ("__debug__" : Str)) = false)
    (he : starEach (a :: es) X.env = (false, eval a X.env) :: starEach es X.env) (hpl : (backTo pos (starEach es X.env)).any (·.1) = false) : PE X (.Call (.Name x p) (a :: es) [] pos) (DN X.K ca W (RV X.K) (ev F (.bi b es'))) :=
  PE.imp (pe_callB hc hg hm hv ha hn hdb he hpl) fun _ _ _ q => bi_read q
theorem e_bity {T : String} {x : Str} {p : Pos} {b : Bi} {bo : Bool} (hc : CallR X (.type T) (rBi X.K b)) (hg : Gl X x) (hm : X.mg x = none) (hv : bootBuiltins x = some (.type T)) (ha : PA X (a :: es) (DA X ca W F bo es')) (hn : x ≠ "__name__") (hdb : (x == ("__debug__" : Str)) = false)
    (he : starEach (a :: es) X.env = (false, eval a X.env) :: starEach es X.env) (hpl : (backTo pos (starEach es X.env)).any (·.1) = false) : PE X (.Call (.Name x p) (a :: es) [] pos) (DN X.K ca W (RV X.K) (ev F (.bi b es'))) :=
  PE.imp (pe_callTy hc hg hm hv ha hn hdb he hpl) fun _ _ _ q => bi_read q
theorem pr1 {K : PySem.W.Frag} {H G : Hp} {ρ : List Addr} {d : D} {vs : List V} (h : Paired (RS K H G ρ) [d] vs) : ∃ v, vs = [v] ∧ RS K H G ρ d v := by
  cases h with
  | cons h t => cases t; exact ⟨_, rfl, h⟩
theorem pr2 {K : PySem.W.Frag} {H G : Hp} {ρ : List Addr} {d e : D} {vs : List V} (h : Paired (RS K H G ρ) [d, e] vs) : ∃ v w, vs = [v, w] ∧ RS K H G ρ d v ∧ RS K H G ρ e w := by
  cases h with
  | cons h t =>
    cases t with
    | cons h2 t => cases t; exact ⟨_, _, rfl, h, h2⟩
theorem bi_one {f : Value} {b : Bi} {g : D → Option D} (e : biD b = one g) (h : CallR X f (fun vs H Q => ∃ v d z S G ρ, vs = [v] ∧ Hold X.K S H G ρ ∧ RS X.K H G ρ d v ∧ g d = some z ∧ ∀ v H' G', Ext H G ρ H' G' ρ → Hold X.K S H' G' ρ → Rep X.K G' ρ z v → Q v H')) : CallR X f (rBi X.K b) := by
  intro pins s σ H vs us Q I r q
  obtain ⟨ds, z, S, G, ρ, hd, hr, hf, q⟩ := q
  rw [e] at hf
  unfold one at hf
  split at hf
  · obtain ⟨v, rfl, rv⟩ := pr1 hr
    exact h pins s σ H _ us Q I r ⟨v, _, z, S, G, ρ, rfl, hd, rv, hf, q⟩
  · cases hf
theorem bi_two {f : Value} {b : Bi} {g : D → D → Option D} (e : biD b = two g) (h : CallR X f (fun vs H Q => ∃ v w d d' z S G ρ, vs = [v, w] ∧ Hold X.K S H G ρ ∧ RS X.K H G ρ d v ∧ RS X.K H G ρ d' w ∧ g d d' = some z ∧ ∀ v H' G', Ext H G ρ H' G' ρ → Hold X.K S H' G' ρ → Rep X.K G' ρ z v → Q v H')) : CallR X f (rBi X.K b) := by
  intro pins s σ H vs us Q I r q
  obtain ⟨ds, z, S, G, ρ, hd, hr, hf, q⟩ := q
  rw [e] at hf
  unfold two at hf
  split at hf
  · obtain ⟨v, w, rfl, rv, rw'⟩ := pr2 hr
    exact h pins s σ H _ us Q I r ⟨v, w, _, _, z, S, G, ρ, rfl, hd, rv, rw', hf, q⟩
  · cases hf
theorem bi_len : CallR X (.builtin "len") (rBi X.K .len) := by
  refine bi_one rfl fun pins s σ H vs us Q I r h => ?_
  obtain ⟨v, d, z, S, G, ρ, rfl, hd, rv, hf, q⟩ := h
  cases d with
  | str x =>
    have hf : (if x.length ≤ LIM then some (D.int x.length) else none) = some z := hf
    split at hf
    · rename_i hz
      cases hf
      cases rv.str
      exact call_len pins s σ H _ us Q I r ⟨_, _, rfl, ⟨by rw [← LIM_eq]; exact hz, rfl⟩, q _ _ _ .refl hd rfl⟩
    · cases hf
  | lst xs =>
    cases hf
    obtain ⟨a, ws, rfl, h1, h2, _⟩ := rv.list hd
    exact call_len pins s σ H _ us Q I r ⟨_, _, rfl, .inl ⟨ws, h1, h2.length.symm⟩, q _ _ _ .refl hd rfl⟩
  | tup xs =>
    cases hf
    obtain ⟨a, ws, rfl, h1, h2, _⟩ := rv.tup hd
    exact call_len pins s σ H _ us Q I r ⟨_, _, rfl, .inr ⟨ws, h1, h2.length.symm⟩, q _ _ _ .refl hd rfl⟩
  | dic ks ws =>
    cases hf
    obtain ⟨a, kvs, rfl, e, r1, r2, _⟩ := rv.dic hd
    obtain ⟨u, rfl, ru⟩ := vals1 r
    cases ru
    have hl : kvs.length = ks.length := by
      have := r1.length
      rw [List.length_map] at this
      exact this
    exact d_len I (.inl e) fun t s' I' => ⟨.int ks.length, H, I', ⟨t, by rw [hl]⟩, q _ _ _ .refl hd rfl⟩
  | _ => cases hf
theorem bi_int : CallR X (.type "int") (rBi X.K .int_) := by
  refine bi_one rfl fun pins s σ H vs us Q I r h => ?_
  obtain ⟨v, d, z, S, G, ρ, rfl, hd, rv, hf, q⟩ := h
  cases d with
  | int x =>
    cases hf
    cases rv.int
    exact call_int1 pins s σ H _ us Q I r (.inl ⟨_, rfl, q _ _ _ .refl hd rfl⟩)
  | bl x =>
    cases hf
    cases rv.bl
    exact call_int1 pins s σ H _ us Q I r (.inr ⟨_, rfl, q _ _ _ .refl hd rfl⟩)
  | _ => cases hf
theorem bi_abs : CallR X (.builtin "abs") (rBi X.K .abs) := by
  refine bi_one rfl fun pins s σ H vs us Q I r h => ?_
  obtain ⟨v, d, z, S, G, ρ, rfl, hd, rv, hf, q⟩ := h
  cases d with
  | int x =>
    cases hf
    cases rv.int
    exact call_abs pins s σ H _ us Q I r ⟨_, rfl, q _ _ _ .refl hd rfl⟩
  | _ => cases hf
theorem bi_min (hc : X.calm = true) : CallR X (.builtin "min") (rBi X.K .min2) := by
  refine bi_two rfl fun pins s σ H vs us Q I r h => ?_
  obtain ⟨v, w, d, d', z, S, G, ρ, rfl, hd, rv, rw', hf, q⟩ := h
  unfold minD at hf
  split at hf
  · cases hf
    cases rv.int
    cases rw'.int
    exact call_min2 hc pins s σ H _ us Q I r ⟨_, _, rfl, q _ _ _ .refl hd rfl⟩
  · cases hf
theorem bi_max (hc : X.calm = true) : CallR X (.builtin "max") (rBi X.K .max2) := by
  refine bi_two rfl fun pins s σ H vs us Q I r h => ?_
  obtain ⟨v, w, d, d', z, S, G, ρ, rfl, hd, rv, rw', hf, q⟩ := h
  unfold maxD at hf
  split at hf
  · cases hf
    cases rv.int
    cases rw'.int
    exact call_max2 hc pins s σ H _ us Q I r ⟨_, _, rfl, q _ _ _ .refl hd rfl⟩
  · cases hf
theorem bi_all (hc : X.calm = true) : CallR X (.builtin "all") (rBi X.K .all) := by
  refine bi_one rfl fun pins s σ H vs us Q I r h => ?_
  obtain ⟨v, d, z, S, G, ρ, rfl, hd, rv, hf, q⟩ := h
  cases d with
  | lst xs =>
    obtain ⟨bs, hb, rfl⟩ := Option.map_eq_some_iff.mp (show (allB xs).map (fun bs => D.bl (bs.all id)) = some z from hf)
    obtain ⟨a, ws, rfl, h1, h2, _⟩ := rv.list hd
    have ew := h2.bls hb
    subst ew
    exact cr_all hc pins s σ H _ us Q I r ⟨a, bs, rfl, h1, q _ _ _ .refl hd rfl⟩
  | _ => cases hf
theorem bi_any (hc : X.calm = true) : CallR X (.builtin "any") (rBi X.K .any) := by
  refine bi_one rfl fun pins s σ H vs us Q I r h => ?_
  obtain ⟨v, d, z, S, G, ρ, rfl, hd, rv, hf, q⟩ := h
  cases d with
  | lst xs =>
    obtain ⟨bs, hb, rfl⟩ := Option.map_eq_some_iff.mp (show (allB xs).map (fun bs => D.bl (bs.any id)) = some z from hf)
    obtain ⟨a, ws, rfl, h1, h2, _⟩ := rv.list hd
    have ew := h2.bls hb
    subst ew
    exact cr_any hc pins s σ H _ us Q I r ⟨a, bs, rfl, h1, q _ _ _ .refl hd rfl⟩
  | _ => cases hf
theorem bi_sum (hc : X.calm = true) : CallR X (.builtin "sum") (rBi X.K .sum) := by
  refine bi_one rfl fun pins s σ H vs us Q I r h => ?_
  obtain ⟨v, d, z, S, G, ρ, rfl, hd, rv, hf, q⟩ := h
  cases d with
  | lst xs =>
    obtain ⟨bs, hb, rfl⟩ := Option.map_eq_some_iff.mp (show (allI xs).map (fun bs => D.int bs.sum) = some z from hf)
    obtain ⟨a, ws, rfl, h1, h2, _⟩ := rv.list hd
    have ew := h2.ints hb
    subst ew
    exact cr_sum hc pins s σ H _ us Q I r ⟨a, bs, rfl, h1, q _ _ _ .refl hd rfl⟩
  | _ => cases hf
theorem foldMin : ∀ (r : List Int) (n : Int), (r.foldl (fun a b => if b < a then b else a) n ∈ n :: r) ∧ ∀ y ∈ n :: r, r.foldl (fun a b => if b < a then b else a) n ≤ y
  | [], n => by simp
  | b :: r, n => by
    obtain ⟨h1, h2⟩ := foldMin r (if b < n then b else n)
    rw [List.foldl_cons]
    generalize r.foldl (fun a b => if b < a then b else a) (if b < n then b else n) = z at h1 h2
    refine ⟨?_, fun y hy => ?_⟩
    · rcases List.mem_cons.mp h1 with e | m
      · rw [e]
        split <;> simp
      · simp [m]
    · have h3 := h2 _ (List.mem_cons_self ..)
      rcases List.mem_cons.mp hy with e | hy
      · rw [e]
        split at h3 <;> omega
      · rcases List.mem_cons.mp hy with e | hy
        · rw [e]
          split at h3 <;> omega
        · exact h2 y (List.mem_cons_of_mem _ hy)
theorem foldMax : ∀ (r : List Int) (n : Int), (r.foldl (fun a b => if a < b then b else a) n ∈ n :: r) ∧ ∀ y ∈ n :: r, y ≤ r.foldl (fun a b => if a < b then b else a) n
  | [], n => by simp
  | b :: r, n => by
    obtain ⟨h1, h2⟩ := foldMax r (if n < b then b else n)
    rw [List.foldl_cons]
    generalize r.foldl (fun a b => if a < b then b else a) (if n < b then b else n) = z at h1 h2
    refine ⟨?_, fun y hy => ?_⟩
    · rcases List.mem_cons.mp h1 with e | m
      · rw [e]
        split <;> simp
      · simp [m]
    · have h3 := h2 _ (List.mem_cons_self ..)
      rcases List.mem_cons.mp hy with e | hy
      · rw [e]
        split at h3 <;> omega
      · rcases List.mem_cons.mp hy with e | hy
        · rw [e]
          split at h3 <;> omega
        · exact h2 y (List.mem_cons_of_mem _ hy)
theorem bi_minl (hc : X.calm = true) : CallR X (.builtin "min") (rBi X.K .minl) := by
  refine bi_one rfl fun pins s σ H vs us Q I r h => ?_
  obtain ⟨v, d, z, S, G, ρ, rfl, hd, rv, hf, q⟩ := h
  cases d with
  | lst xs =>
    obtain ⟨ns, hb, hf⟩ := Option.bind_eq_some_iff.mp (show (allI xs).bind _ = some z from hf)
    obtain ⟨a, ws, rfl, h1, h2, _⟩ := rv.list hd
    have ew := h2.ints hb
    subst ew
    cases ns with
    | nil => cases hf
    | cons n r =>
      cases hf
      obtain ⟨f1, f2⟩ := foldMin r n
      refine cr_min hc pins s σ H _ us Q I ‹_› ⟨a, n :: r, rfl, h1, by simp, fun m hm hle => ?_⟩
      have e : m = r.foldl (fun a b => if b < a then b else a) n := by
        have := hle _ f1
        have := f2 _ hm
        omega
      rw [e]
      exact q _ _ _ .refl hd rfl
  | _ => cases hf
theorem bi_maxl (hc : X.calm = true) : CallR X (.builtin "max") (rBi X.K .maxl) := by
  refine bi_one rfl fun pins s σ H vs us Q I r h => ?_
  obtain ⟨v, d, z, S, G, ρ, rfl, hd, rv, hf, q⟩ := h
  cases d with
  | lst xs =>
    obtain ⟨ns, hb, hf⟩ := Option.bind_eq_some_iff.mp (show (allI xs).bind _ = some z from hf)
    obtain ⟨a, ws, rfl, h1, h2, _⟩ := rv.list hd
    have ew := h2.ints hb
    subst ew
    cases ns with
    | nil => cases hf
    | cons n r =>
      cases hf
      obtain ⟨f1, f2⟩ := foldMax r n
      refine cr_max hc pins s σ H _ us Q I ‹_› ⟨a, n :: r, rfl, h1, by simp, fun m hm hle => ?_⟩
      have e : m = r.foldl (fun a b => if a < b then b else a) n := by
        have := hle _ f1
        have := f2 _ hm
        omega
      rw [e]
      exact q _ _ _ .refl hd rfl
  | _ => cases hf
theorem bi_strn : CallR X (.type "str") (rBi X.K .strn) := by
  refine bi_one rfl fun pins s σ H vs us Q I r h => ?_
  obtain ⟨v, d, z, S, G, ρ, rfl, hd, rv, hf, q⟩ := h
  cases d with
  | int i =>
    have hf : (if i.natAbs.log2 < 1920 then some (D.str (toString i)) else none) = some z := hf
    split at hf
    · rename_i hz
      cases hf
      cases rv.int
      exact call_str_int pins s σ H _ us Q I r ⟨_, rfl, hz, q _ _ _ .refl hd rfl⟩
    · cases hf
  | _ => cases hf
/-! ### sorts -/
theorem insI_perm (x : Int) : ∀ l : List Int, (insI x l).Perm (x :: l)
  | [] => .refl _
  | y :: ys => by
    show (if x ≤ y then x :: y :: ys else y :: insI x ys).Perm (x :: y :: ys)
    split
    · exact .refl _
    · exact ((insI_perm x ys).cons y).trans (.swap x y ys)
theorem sortI_perm : ∀ l : List Int, (sortI l).Perm l
  | [] => .refl _
  | x :: xs => (insI_perm x (sortI xs)).trans ((sortI_perm xs).cons x)
theorem insI_sorted (x : Int) : ∀ l : List Int, l.Pairwise (· ≤ ·) → (insI x l).Pairwise (· ≤ ·)
  | [], _ => List.pairwise_singleton _ _
  | y :: ys, h => by
    show (if x ≤ y then x :: y :: ys else y :: insI x ys).Pairwise (· ≤ ·)
    obtain ⟨h1, h2⟩ := List.pairwise_cons.mp h
    split
    · rename_i hxy
      refine List.pairwise_cons.mpr ⟨fun z hz => ?_, h⟩
      rcases List.mem_cons.mp hz with e | hz
      · rw [e]
        exact hxy
      · exact Int.le_trans hxy (h1 z hz)
    · rename_i hxy
      refine List.pairwise_cons.mpr ⟨fun z hz => ?_, insI_sorted x ys h2⟩
      rcases List.mem_cons.mp ((insI_perm x ys).mem_iff.mp hz) with e | hz
      · rw [e]
        omega
      · exact h1 z hz
theorem sortI_sorted : ∀ l : List Int, (sortI l).Pairwise (· ≤ ·)
  | [] => .nil
  | x :: xs => insI_sorted x _ (sortI_sorted xs)
theorem sorted_unique : ∀ {l m : List Int}, l.Pairwise (· ≤ ·) → m.Pairwise (· ≤ ·) → l.Perm m → l = m := fun h1 h2 p => List.Perm.eq_of_pairwise (fun a b _ _ h h' => Int.le_antisymm h h') h1 h2 p
end
end Ev

set_option Elab.async false
set_option linter.all false
set_option maxRecDepth 100000
set_option maxHeartbeats 2000000
/-! Calls, isinstance, slices, list(..), tuple(..). -/
namespace Ev
open PySem PySem.Spec PyProof.Rows L2
section
variable {X : Cx} {ca : Nat → Value} {W : WX} {F : Fns} {a b c : Expr} {a' b' c' : E} {es : List Expr} {es' : Es} {pos : Pos}
/-- what a def promises, by data -/
def spF (K : PySem.W.Frag) (ca : Nat → Value) (np : Nat) (f : List D → M D) : Sp := fun vs H Q E => ∃ ds S G ρ, ds.length = np ∧ Hold K S H G ρ ∧ Reps K G ρ ds vs ∧ Aft K (RV K) (WW K ca E) H G ρ (f ds S) Q
theorem e_call {k f np : Nat} {g : Addr} {fd : FuncData} {ps : List Str} {x : Str} {p : Pos} (Fo : FnOk X.prog X.w X.K X.mg X.base (L2.CX X.prog X.w) k g fd ps (spF X.K ca np (F f))) (hr : Room k X.A) (tk : Takes X W) (hg : Gl X x) (hm : X.mg x = some (.ref g)) (hk : PySem.W.keepIn X.K (.ref g) = true)
    (hb : Binds X.K fd ps []) (hl : es'.len = np) (ha : PA X (a :: es) (DA X ca W F false es')) (hdb : (x == ("__debug__" : Str)) = false) (he : starEach (a :: es) X.env = (false, eval a X.env) :: starEach es X.env) (hpl : (backTo pos (starEach es X.env)).any (·.1) = false) :
    PE X (.Call (.Name x p) (a :: es) [] pos) (DN X.K ca W (RV X.K) (ev F (.call f es'))) := by
  refine PE.imp (pe_callS Fo hr hg hm hk hb (fun σ => passAt tk σ) ha hdb he hpl) fun σ H Q q => ?_
  refine DN.oneE (γ := D) (k := fun env ds => F f ds) q fun env S G ρ S' H2 G2 ρ2 ds vs rl e x hd r q => ?_
  exact ⟨ds, S', G2, ρ2, by rw [evs_len es' env S S' ds e, hl], hd, REs.reps r, q⟩
/-! ### isinstance -/
def Tyn.nm : Tyn → String
  | .int => "int" | .bool => "bool" | .str => "str" | .tup => "tuple" | .lst => "list" | .dict => "dict"
def tyN : D → String
  | .non => "NoneType" | .bl _ => "bool" | .int _ => "int" | .str _ => "str" | .tup _ => "tuple" | .lst _ => "list" | .dic _ _ => "dict" | .cell _ => "list"
theorem ty_kit (t : Tyn) (d : D) : kitB (tyN d) t.nm = some (tyD t d) := by
  cases t <;> cases d <;> (simp only [tyN, Tyn.nm, tyD]; decide +kernel)
theorem RW.ty {K : PySem.W.Frag} {S : Sto} {H G : Hp} {ρ : List Addr} {d : D} {v : V} (hd : Hold K S H G ρ) (r : RW K H G ρ d v) : TyX K H v (.type (tyN d)) := by
  have lst : ∀ {a : Addr} {vs : List V}, SqL K H a vs → TyX K H (.ref a) (.type "list") := fun {a vs} h => by
    rcases h with (h | ⟨o, h⟩) | ⟨o, its, n, h1, h2, _⟩
    · exact .base (.lst h)
    · exact .base (.frz h)
    · exact .kList h1 h2
  have tup : ∀ {a : Addr} {vs : List V}, SqT K H a vs → TyX K H (.ref a) (.type "tuple") := fun {a vs} h => by
    rcases h with (h | ⟨o, h⟩) | ⟨o, its, n, h1, h2, _⟩
    · exact .base (.tup h)
    · exact .fTuple h
    · exact .kTuple h1 h2
  rcases r with q | ⟨a, rfl, o⟩
  · cases d with
    | non => cases (show v = V.non from q); exact .base .non
    | bl b => cases (show v = V.bl b from q); exact .base (.bl b)
    | int b => cases (show v = V.int b from q); exact .base (.int b)
    | str b => cases (show v = V.str b from q); exact .base (.str b)
    | tup ds => obtain ⟨_, a, vs, rfl, h, _⟩ := q; exact tup (sqT_mono hd.gh h)
    | lst ds => obtain ⟨_, a, vs, rfl, h, _⟩ := q; exact lst (sqL_mono hd.gh h)
    | dic ks ws => obtain ⟨_, a, vs, rfl, h, _⟩ := q; exact .base (.dK (hd.gh _ _ h))
    | cell n =>
      obtain ⟨a, rfl, e⟩ := q
      have hn : n < S.length := by
        rw [hd.len]
        exact (List.getElem?_eq_some_iff.mp e).1
      obtain ⟨b, e1, _, c⟩ := hd.cel n _ (List.getElem?_eq_getElem hn)
      rw [e] at e1
      cases e1
      unfold CelAt at c
      split at c
      · obtain ⟨_, vs, h, _⟩ := c
        exact .base (.lst h)
      · exact c.elim
  · have s := o.2.2
    cases d with
    | lst ds => obtain ⟨_, vs, h, _⟩ := s; exact .base (.lst h)
    | dic ks ws => obtain ⟨_, vs, h, _⟩ := s; exact .base (.dK h)
    | _ => exact s.elim
theorem e_isi {t : Tyn} {bo : Bool} {p p2 : Pos} (ha : PE X a (DE X ca W F bo a')) (hg : Gl X "isinstance") (hm : X.mg "isinstance" = none) (hg2 : Gl X t.nm) (hm2 : X.mg t.nm = none) (hs : starEach [a, .Name t.nm p2] X.env = (false, eval a X.env) :: starEach [.Name t.nm p2] X.env) :
    PE X (.Call (.Name "isinstance" p) [a, .Name t.nm p2] [] pos) (DN X.K ca W (RV X.K) (ev F (.isi a' [t]))) := by
  have hT : PE X (.Name t.nm p2) (tC (.ty t.nm)) := pe_bltn hg2 hm2 (u := .type t.nm) (by cases t <;> decide +kernel) rfl (by cases t <;> decide) (by cases t <;> decide)
  refine PE.imp (pe_callB call_isi hg hm (by decide +kernel) (pa_cons ha (pa_cons hT pa_nil) hs) (by decide) (by decide) hs rfl) fun σ H Q q => ?_
  refine DN.one (γ := D) (k := fun env d => M.ret (D.bl ([t].any fun t => tyD t d))) q fun env S H2 G2 ρ2 d v rl r q => ?_
  refine ⟨v, .ty t.nm, .type (tyN d), .type t.nm, tyD t d, rfl, .ty _, RW.ty rl.toHold r.rw, kit_ty (ty_kit t d), Aft.ret (RR := RV X.K) rl.toHold q ?_⟩
  show V.bl (tyD t d) = V.bl ([t].any fun t => tyD t d)
  rw [List.any_cons, List.any_nil, Bool.or_false]
theorem e_isi2 {t t2 : Tyn} {bo : Bool} {p p2 p3 p4 : Pos} {k : Nat} (ha : PE X a (DE X ca W F bo a')) (hg : Gl X "isinstance") (hm : X.mg "isinstance" = none) (hg2 : Gl X t.nm) (hm2 : X.mg t.nm = none) (hg3 : Gl X t2.nm) (hm3 : X.mg t2.nm = none)
    (hs : starEach [a, .Tuple [.Name t.nm p2, .Name t2.nm p3] k p4] X.env = (false, eval a X.env) :: starEach [.Tuple [.Name t.nm p2, .Name t2.nm p3] k p4] X.env) :
    PE X (.Call (.Name "isinstance" p) [a, .Tuple [.Name t.nm p2, .Name t2.nm p3] k p4] [] pos) (DN X.K ca W (RV X.K) (ev F (.isi a' [t, t2]))) := by
  have hT : PE X (.Name t.nm p2) (tC (.ty t.nm)) := pe_bltn hg2 hm2 (u := .type t.nm) (by cases t <;> decide +kernel) rfl (by cases t <;> decide) (by cases t <;> decide)
  have hT2 : PE X (.Name t2.nm p3) (tC (.ty t2.nm)) := pe_bltn hg3 hm3 (u := .type t2.nm) (by cases t2 <;> decide +kernel) rfl (by cases t2 <;> decide) (by cases t2 <;> decide)
  refine PE.imp (pe_callB call_isiT hg hm (by decide +kernel) (pa_cons ha (pa_cons (pe_tup (pa_cons hT (pa_cons hT2 pa_nil))) pa_nil) hs) (by decide) (by decide) hs rfl) fun σ H Q q => ?_
  refine DN.one (γ := D) (k := fun env d => M.ret (D.bl ([t, t2].any fun t => tyD t d))) q fun env S H2 G2 ρ2 d v rl r q => ?_
  refine ⟨by show 2 ≤ sizeLine; rw [sizeLine_eq]; decide, fun tp np => ?_⟩
  obtain ⟨x, hd⟩ := rl.toHold.fresh (o := .tup [V.ty t.nm, V.ty t2.nm]) np
  refine ⟨v, tp, [.ty t.nm, .ty t2.nm], .type (tyN d), [.type t.nm, .type t2.nm], tyD t d || tyD t2 d, rfl, upd_same, .cons (.ty _) (.cons (.ty _) .nil), RW.ty hd (r.rw.mono x), ?_, q _ _ _ _ x hd ?_⟩
  · refine kitAny_cons (kit_ty (ty_kit t d)) (fun e => ?_) (fun e => by rw [e]; rfl)
    rw [e, Bool.false_or]
    exact kitAny_cons (kit_ty (ty_kit t2 d)) (fun e => by rw [e]; exact kitAny_nil) (fun e => e)
  · show V.bl (tyD t d || tyD t2 d) = V.bl ([t, t2].any fun t => tyD t d)
    rw [List.any_cons, List.any_cons, List.any_nil, Bool.or_false]
/-! ### slices -/
/-- a part of a slice that may lack -/
abbrev REq : Hp → Hp → List Addr → Option Int → Option Int → Prop := fun _ _ _ a b => b = a
abbrev DO (X : Cx) (ca : Nat → Value) (W : WX) (F : Fns) (o : Oe) : TO := DN X.K ca W REq (fun env => prt (evo F o env))
theorem o_no : PO X none (DO X ca W F .no) := ⟨fun pins s σ H Q I h => by
  obtain ⟨env, S, G, ρ, rl, q⟩ := h
  exact po_none.run pins s σ H Q I (Aft.ret (RR := REq) (d := none) rl.toHold q rfl)⟩
theorem o_yes {bo : Bool} (ha : PE X a (DE X ca W F bo a')) : PO X (some a) (DO X ca W F (.yes a')) := ⟨fun pins s σ H Q I h => by
  refine (po_some ha).run pins s σ H Q I ?_
  have h : DN X.K ca W REq (fun env => M.bnd (ev F a' env) fun d => M.lift (partD (some d))) σ H Q := DN.congr (fun env => by
    show M.bnd (M.bnd (ev F a' env) fun d => M.ret (some d)) (fun l => M.lift (partD l)) = _
    funext S
    unfold M.bnd
    cases ev F a' env S <;> rfl) h
  refine DN.one (γ := Option Int) (k := fun env d => M.lift (partD (some d))) h fun env S H2 G2 ρ2 d v rl r q => ?_
  cases d with
  | int i => exact ⟨i, RS.int r.rw.see, Aft.ret (RR := REq) rl.toHold q rfl⟩
  | _ => exact q.elim⟩
theorem e_sl {bo : Bool} {lo hi : Option Expr} {lo' hi' : Oe} {p2 : Pos} (ha : PE X a (DE X ca W F bo a')) (hl : PO X lo (DO X ca W F lo')) (hh : PO X hi (DO X ca W F hi')) : PE X (.Subscript a (.Slice lo hi none p2) pos) (DN X.K ca W (RV X.K) (ev F (.sl a' lo' hi'))) := by
  refine PE.imp (pe_slice sl_okD ha hl hh) fun σ H Q q => ?_
  refine DN.one (γ := D) (k := fun env x => M.bnd (prt (evo F lo' env)) fun l => M.bnd (prt (evo F hi' env)) fun h => M.bnd (seeD x) fun x => M.lift (slD x l h)) q fun env S H1 G1 ρ1 x v rl rx q => ?_
  refine ⟨env, S, G1, ρ1, rl, ?_⟩
  have b := Aft.bind (RR := REq) q
  dsimp only
  cases e : prt (evo F lo' env) S with
  | bad => rw [e] at b; exact b
  | exc y S' => rw [e] at b; exact b
  | ok l S' =>
    rw [e] at b
    intro lv H2 G2 ρ2 x2 hd2 rl2
    obtain ⟨l', S2, G2', ρ2', x2', hd2', rl2', q2⟩ := b lv H2 G2 ρ2 x2 hd2 rl2
    cases (show lv = l' from rl2')
    refine ⟨env, S2, G2', ρ2', rl.ext x2' hd2', ?_⟩
    have b := Aft.bind (RR := REq) q2
    dsimp only
    cases e : prt (evo F hi' env) S2 with
    | bad => rw [e] at b; exact b
    | exc y S' => rw [e] at b; exact b
    | ok h S' =>
      rw [e] at b
      intro hv H3 G3 ρ3 x3 hd3 rl3
      obtain ⟨h', S3, G3', ρ3', x3', hd3', rl3', q3⟩ := b hv H3 G3 ρ3 x3 hd3 rl3
      cases (show hv = h' from rl3')
      obtain ⟨y, ry, q3⟩ := Aft.see hd3' ((rx.mono x2').rw.mono x3') q3
      obtain ⟨z, hz, q3⟩ := Aft.lift1 q3
      exact ⟨y, z, S3, G3', ρ3', hd3', ry, hz, fun v H' G' e hd' r => q3 v H' G' ρ3' e hd' r⟩
/-! ### list(..), tuple(..) of a list, a tuple; of a range -/
theorem seq_read {bo : Bool} {σ : L2.St} {H : Hp} {Q : VK} {RR : Hp → Hp → List Addr → D → V → Prop} {mk : List D → D} {Fin : V → Hp → Prop} (q : DN X.K ca W RR (fun env => M.bnd (evi F true (.seq a') env) fun ds => M.ret (mk ds)) σ H Q)
    (hf : ∀ env S H2 G2 ρ2 x ds v, Rl X.K env S σ H2 G2 ρ2 → RS X.K H2 G2 ρ2 x v → seqD x = some ds → Aft X.K RR (WW X.K ca fun c d H' => W c d σ H') H2 G2 ρ2 (M.ret (mk ds) S) Q → Fin v H2) : DE X ca W F bo a' σ H Fin := by
  have q : DN X.K ca W RR (fun env => M.bnd (ev F a' env) fun x => M.bnd (seeD x) fun x => M.bnd (M.lift (seqD x)) fun ds => M.ret (mk ds)) σ H Q := DN.congr (fun env => by
    show M.bnd (M.bnd (ev F a' env) fun x => M.bnd (seeD x) fun x => M.lift (seqD x)) (fun ds => M.ret (mk ds)) = _
    funext S
    unfold M.bnd
    cases ev F a' env S with
    | ok x S' =>
      dsimp only
      cases seeD x S' <;> rfl
    | exc _ _ => rfl
    | bad => rfl) q
  refine DN.one (γ := D) (k := fun env x => M.bnd (seeD x) fun x => M.bnd (M.lift (seqD x)) fun ds => M.ret (mk ds)) q fun env S H2 G2 ρ2 d v rl r q => ?_
  obtain ⟨y, ry, q⟩ := Aft.see rl.toHold r.rw q
  obtain ⟨ds, hds, q⟩ := Aft.lift q
  exact hf env S H2 G2 ρ2 y ds v rl ry hds q
theorem seq_is {K : PySem.W.Frag} {S : Sto} {H G : Hp} {ρ : List Addr} {x : D} {ds : List D} {v : V} (hd : Hold K S H G ρ) (r : RS K H G ρ x v) (h : seqD x = some ds) :
    ∃ a vs, v = .ref a ∧ Reps K G ρ ds vs ∧ ds.length ≤ LIM ∧ ((x = .lst ds ∧ SqL K H a vs) ∨ (x = .tup ds ∧ SqT K H a vs)) := by
  cases x with
  | lst xs =>
    cases h
    obtain ⟨a, vs, rfl, h1, h2, h3⟩ := r.list hd
    exact ⟨a, vs, rfl, h2, h3, .inl ⟨rfl, h1⟩⟩
  | tup xs =>
    cases h
    obtain ⟨a, vs, rfl, h1, h2, h3⟩ := r.tup hd
    exact ⟨a, vs, rfl, h2, h3, .inr ⟨rfl, h1⟩⟩
  | _ => cases h
theorem e_totup {bo : Bool} {p : Pos} (ha : PE X a (DE X ca W F bo a')) (hg : Gl X "tuple") (hm : X.mg "tuple" = none) (hs : starEach [a] X.env = (false, eval a X.env) :: starEach [] X.env) : PE X (.Call (.Name "tuple" p) [a] [] pos) (DN X.K ca W (RV X.K) (ev F (.totup (.seq a')))) := by
  refine PE.imp (pe_callTy call_tuple_of hg hm (by decide +kernel) (pa_cons ha pa_nil hs) (by decide) (by decide) hs rfl) fun σ H Q q => ?_
  refine seq_read (mk := D.tup) q fun env S H2 G2 ρ2 x ds v rl r h q => ?_
  obtain ⟨b, vs, rfl, r1, hz, k⟩ := seq_is rl.toHold r h
  refine ⟨b, vs, rfl, ?_⟩
  rcases k with ⟨e, h1⟩ | ⟨e, h1⟩
  · exact .inl ⟨h1, newTup rl.toHold r1 hz fun v H' G' y hd' r' => q v H' G' ρ2 y hd' r'⟩
  · subst e
    exact .inr ⟨h1, Aft.ret (RR := RV X.K) rl.toHold q r.tupR⟩
theorem f_tolst {bo : Bool} {p : Pos} (ha : PE X a (DE X ca W F bo a')) (hg : Gl X "list") (hm : X.mg "list" = none) (hs : starEach [a] X.env = (false, eval a X.env) :: starEach [] X.env) : PE X (.Call (.Name "list" p) [a] [] pos) (DF X.K ca W (ev F (.tolst (.seq a')))) := by
  refine PE.imp (pe_callTy call_list_of hg hm (by decide +kernel) (pa_cons ha pa_nil hs) (by decide) (by decide) hs rfl) fun σ H Q q => ?_
  obtain ⟨env, S, G, ρ, rl, q⟩ := q
  have q : DN X.K ca W (RN X.K H) (fun env => M.bnd (evi F true (.seq a') env) fun ds => M.ret (D.lst ds)) σ H (fun v H' => Q v H') := ⟨env, S, G, ρ, rl, q⟩
  clear rl
  have q2 : DE X ca W F bo a' σ H fun x H2 => (∀ z, H2 z = none → H z = none) ∧ tNil σ H2 fun xs H3 => (fun (xs : List V) H (Q : VK) => ∃ p ys, xs = [.ref p] ∧ (SqL X.K H p ys ∨ SqT X.K H p ys) ∧ ∀ l, H l = none → Q (.ref l) (upd H l (.lst ys))) (x :: xs) H3 Q := by
    obtain ⟨env, S, G, ρ, rl, q⟩ := q
    refine ⟨env, S, G, ρ, rl, ?_⟩
    have q : Aft X.K (RN X.K H) _ H G ρ (M.bnd (M.bnd (ev F a' env) fun x => M.bnd (seeD x) fun x => M.lift (seqD x)) (fun ds => M.ret (D.lst ds)) S) Q := q
    have e0 : M.bnd (M.bnd (ev F a' env) fun x => M.bnd (seeD x) fun x => M.lift (seqD x)) (fun ds => M.ret (D.lst ds)) S = M.bnd (ev F a' env) (fun x => M.bnd (seeD x) fun x => M.bnd (M.lift (seqD x)) fun ds => M.ret (D.lst ds)) S := by
      unfold M.bnd
      cases ev F a' env S with
      | ok x S' =>
        dsimp only
        cases seeD x S' <;> rfl
      | exc _ _ => rfl
      | bad => rfl
    rw [e0] at q
    have b := Aft.bind (RR := RE X.K bo) q
    cases e : ev F a' env S with
    | bad => rw [e] at b; exact b
    | exc y S' => rw [e] at b; exact b
    | ok x S' =>
      rw [e] at b
      intro v H2 G2 ρ2 x2 hd2 r2
      obtain ⟨y, S3, G3, ρ3, x3, hd3, r3, q⟩ := b v H2 G2 ρ2 x2 hd2 r2
      obtain ⟨y', ry, q⟩ := Aft.see hd3 r3.rw q
      obtain ⟨ds, hds, q⟩ := Aft.lift q
      obtain ⟨c, vs, rfl, r1, hz, k⟩ := seq_is hd3 ry hds
      refine ⟨x3.none, c, vs, rfl, ?_, freshL hd3 x3.none r1 hz q⟩
      rcases k with ⟨_, h1⟩ | ⟨_, h1⟩
      · exact .inl h1
      · exact .inr h1
  obtain ⟨env, S, G, ρ, rl, q⟩ := q2
  refine ⟨env, S, G, ρ, rl, ?_⟩
  cases e : ev F a' env S with
  | bad => rw [e] at q; exact q
  | exc y S' => rw [e] at q; exact q
  | ok x S' =>
    rw [e] at q
    exact fun v H2 G2 ρ2 x2 hd2 r2 => (q v H2 G2 ρ2 x2 hd2 r2).2
end
end Ev

set_option Elab.async false
set_option linter.all false
set_option maxRecDepth 100000
set_option maxHeartbeats 2000000
/-! What is walked; targets. -/
namespace Ev
open PySem PySem.Spec PyProof.Rows L2
section
variable {X : Cx} {tg e : Expr} {wi wi' : TI} {g g' : TG}
theorem pi_or (h : PI X tg e wi) (h' : PI X tg e wi') : PI X tg e (fun σ H R => wi σ H R ∨ wi' σ H R) := ⟨fun pins s σ H R I q => q.elim (h.run pins s σ H R I) (h'.run pins s σ H R I)⟩
theorem pi_imp (h : PI X tg e wi) (f : ∀ σ H R, wi' σ H R → wi σ H R) : PI X tg e wi' := ⟨fun pins s σ H R I q => h.run pins s σ H R I (f _ _ _ q)⟩
theorem pg_or (h : PG X tg g) (h' : PG X tg g') : PG X tg (fun v σ H Q => g v σ H Q ∨ g' v σ H Q) := ⟨fun pins s σ H v u Q I r q => q.elim (h.run pins s σ H v u Q I r) (h'.run pins s σ H v u Q I r)⟩
theorem pg_imp (h : PG X tg g) (f : ∀ v σ H Q, g' v σ H Q → g v σ H Q) : PG X tg g' := ⟨fun pins s σ H v u Q I r q => h.run pins s σ H v u Q I r (f _ _ _ _ q)⟩
end
/-! ### enumerate of a tuple -/
set_option maxHeartbeats 4000000 in
theorem meets_enumB {v : Value} {o : Obj} {P : Heap → Prop} (B : Begins v o P) :
    Meets (Builtin.«enumerate.__new__» ⟨[.type "enumerate", v], []⟩) (fun _ R s => P s.heap ∧
      R (.ok (.ret (.ref (s.heap.push o).objs.size))) { s with heap := (s.heap.push o).push { cls := .type "enumerate", data := .fields #[.none, .bool false, .ref s.heap.objs.size, rawInt 0, .none, .none] } }) :=
  .of_wp fun prog w A R s h => by
    obtain ⟨hp, g, d, tk, os⟩ := s
    obtain ⟨h1, h⟩ := h
    have hsub := sub_enumerate
    have q1 : ∀ {A' : Around} {E : Value → Shared → Prop} {Q : Value → Shared → Prop}, Q (.ref hp.objs.size) ⟨hp.push o, g, d, tk, os⟩ → wpAny (model prog w) A' (pyIter v) Q E ⟨hp, g, d, tk, os⟩ :=
      fun q => B.iter prog w _ _ ⟨hp, g, d, tk, os⟩ _ h1 q
    wp_walk using q1
    refine wpAny_stack_any fun st => wpAny_pure ?_
    split
    · rename_i c _ _ _ _ _
      cases (c == Value.type "enumerate")
      · wp_walk using q1
        exact ⟨_, rfl, h⟩
      · wp_walk using q1
        exact ⟨_, rfl, h⟩
    · wp_walk using q1
      exact ⟨_, rfl, h⟩
theorem enumB {prog : Program} {w : World} {A : Around} {E : Value → Shared → Prop} {s : Shared} {v : Value} {o : Obj} {P : Heap → Prop} {Q : Value → Shared → Prop} (B : Begins v o P) (h1 : P s.heap)
    (h : ∀ h', IsEnum h' (s.heap.objs.size + 1) s.heap.objs.size 0 .none → h'.get? s.heap.objs.size = some o → (∀ b o, s.heap.get? b = some o → h'.get? b = some o) → Q (.ref (s.heap.objs.size + 1)) { s with heap := h' }) :
    wpAny (model prog w) A (call (.type "enumerate") [v]) Q E s := by
  refine callType_new F.called_enumerate (by decide) (F.typeCall_enumerate_1 _) (F.newCall_enumerate_1 _) (fun obj => F.args_object_init_2 obj _) F.entry_enumerate_new
    (meets_enumB B) ⟨h1, ?_⟩
  have hz : (s.heap.push o).objs.size = s.heap.objs.size + 1 := Heap.size_push ..
  show _ ∧ _
  rw [hz]
  have he : IsEnum ((s.heap.push o).push { cls := .type "enumerate", data := .fields #[.none, .bool false, .ref s.heap.objs.size, rawInt 0, .none, .none] }) (s.heap.objs.size + 1) s.heap.objs.size 0 .none := by
    have := Heap.get?_push_size (s.heap.push o) (o := { cls := .type "enumerate", data := .fields #[.none, .bool false, .ref s.heap.objs.size, rawInt 0, .none, .none] }) rfl
    rw [hz] at this
    exact this
  exact ⟨⟨_, he, rfl⟩, h _ he (Heap.get?_push_of_some _ (Heap.get?_push_size _ B.free)) fun b o x => Heap.get?_push_of_some _ (Heap.get?_push_of_some _ x)⟩
/-- the tuple at a, each item in a new pair -/
def IteT (K : PySem.W.Frag) (a : Addr) : It :=
  ⟨fun i H => ∃ (xs : List V) (x : V), SqT K H a xs ∧ xs[i]? = some x, fun i H v H' => ∃ T x, v = .ref T ∧ H T = none ∧ H' = upd H T (.tup [.int (i : Nat), x]) ∧ ∀ xs, SqT K H a xs → xs[i]? = some x, fun i H => ∃ xs : List V, SqT K H a xs ∧ xs.length ≤ i⟩
theorem enum_endT {prog : Program} {w : World} {A : Around} {E : Value → Shared → Prop} {s : Shared} {e it l : Addr} {i : Nat} {items : Array Value} {old : Value} {Q : Option Value → Shared → Prop} (hh : A.handled = none)
    (he : IsEnum s.heap e it i old) (hit : s.heap.IsTupleIter it l i) (hl : s.heap.IsTuple l items) (hx : items[i]? = none)
    (hQ : ∀ h', Heap.ExtBut it s.heap h' → Q none { s with heap := h' }) : wpAny (model prog w) A (pyNext (.ref e)) Q E s := by
  have hT : s.TypeIs (.ref e) "enumerate" := ⟨_, he, rfl⟩
  unfold pyNext
  refine wpAny_bind (wpAny_attempt (wpAny_callSpecial?_slot (name := Str.ofString "__next__") hT F.slot_enumerate_next
    (wpAny_call_entry F.slot_enumerate_next hT F.entry_enumerate_next ?_ (F.args_enumerate_next_1 _))))
  show wpAny _ _ (field (.ref e) 2 >>= _) _ _ _
  refine wpAny_bind (wpAny_field he rfl (x := .ref it) rfl ?_)
  refine wpAny_bind (wpAny_nextOf_tuple_end hh hit hl hx fun h' x he' hx' => ?_)
  obtain ⟨o, ho, hc⟩ := hx'
  refine wpAny_bind (wpAny_isInstance (T := "StopIteration") (b := true) ⟨o, ho, hc⟩ isSubtype_stop ?_)
  exact wpAny_pure (hQ _ he')
theorem turn_enumT {P : Program} {w : World} {K : PySem.W.Frag} {elts : List Expr} {kk : Nat} {tpos : Pos} (a e it : Addr) :
    Turn P w K (.Tuple elts kk tpos) (IteT K a) [e, it] e (fun i h => (∃ old, IsEnum h e it ((i : Nat) : Int) old) ∧ h.IsTupleIter it a i ∧ e ≠ it) where
  mem := by simp
  obj := fun i h st b hb => by
    obtain ⟨⟨old, he⟩, ⟨o, ho, hc, hd⟩, _⟩ := st
    have e' : b = e ∨ b = it := by simpa using hb
    rcases e' with z | z
    · rw [z]; exact ⟨_, he, fun v q => nomatch q⟩
    · rw [z]; exact ⟨o, ho, fun v q => by rw [hd] at q; cases q⟩
  keep := fun i h h' st k => let ⟨⟨old, he⟩, hi, hne⟩ := st; ⟨⟨old, k e (by simp) _ he⟩, hi.at fun o q => k it (by simp) o q, hne⟩
  item := by
    intro X hP hw hK hc i pins s σ H E I hf st hg
    subst hP hw hK
    obtain ⟨⟨old, he⟩, hit, hne⟩ := st
    obtain ⟨xs, x, hq, hx⟩ := hg
    obtain ⟨its, rv, p, hz⟩ := I.tuple hq
    obtain ⟨u, hu, ru⟩ := rv.get hx
    have hel : e < s.heap.objs.size := Heap.lt_size he
    have hil : it < s.heap.objs.size := by obtain ⟨_, q, _⟩ := hit; exact Heap.lt_size q
    have hia : a ≠ it := fun q => by
      obtain ⟨o, e1, _, d1⟩ := hit
      obtain ⟨o2, e2, _, n, d2⟩ := id p
      rw [← q, e2] at e1
      cases e1
      rw [d1] at d2
      cases d2
    have hea : e ≠ a := fun q => by
      obtain ⟨o2, e2, _, n, d2⟩ := id p
      rw [← q, he] at e2
      cases e2
      cases d2
    have hlt : i < its.toArray.size := by
      rw [List.size_toArray, ← rv.length]
      exact (List.getElem?_eq_some_iff.mp hx).1
    refine wpAny_pyNext_enum_itemD (Draws.tuple (A := X.A.in1) (I.ok.hd hc) it a hia its.toArray) he ⟨hit, p⟩ hlt hne (by simp [hne, hea]) fun x' h' tk hP ho hit' hT hsz hk => ?_
    have hx' : x' = u := by
      have q1 : its[i]? = some x' := by simpa using hP
      rw [hu] at q1
      exact (Option.some.inj q1).symm
    subst hx'
    refine ⟨_, rfl, wpAny_letOwnedTupleGo_enum (s := { s with heap := h', toks := tk + 1 }) ho fun h'' he' sb => ?_⟩
    have hT2 : h''.get? s.heap.objs.size = some { cls := .type "tuple", data := .seq #[.int i tk, x'] } := (sb.2 _ (Nat.ne_of_gt hel)).trans hT
    have new : ObjOk X.prog X.w (upd H s.heap.objs.size (.tup [.int (i : Nat), x])) h'' s.heap.objs.size (.tup [.int (i : Nat), x]) :=
      ⟨by show 2 ≤ sizeLine; decide, [.int i tk, x'], .cons ⟨_, rfl⟩ (.cons ru .nil), ⟨_, hT2, rfl, _, rfl⟩⟩
    have I1 : Inv X pins σ (upd H s.heap.objs.size (.tup [.int (i : Nat), x])) { s with heap := h'', toks := tk + 1 } :=
      I.turnedNew (ch := [e, it]) (fun b ob hb q => (sb.2 b (fun z => hb (by simp [z]))).trans (hk b ob (fun z => hb (by simp [z])) (fun z => hb (by simp [z])) q)) hf (Nat.le_refl _) new
    refine ⟨.ref s.heap.objs.size, _, I1, rfl, ⟨_, x, rfl, I.hok.fresh (Nat.le_refl _), rfl, fun ys hy => by rw [I.tuple_inj hy hq]; exact hx⟩, ⟨⟨x', ?_⟩, hit'.1.at fun o q => (sb.2 it (Ne.symm hne)).trans q, hne⟩, fun b hb => ?_⟩
    · have e1 : ((i + 1 : Nat) : Int) = (i : Int) + 1 := by omega
      rw [e1]; exact he'
    · have hb' : b < s.heap.objs.size := by
        have e' : b = e ∨ b = it := by simpa using hb
        rcases e' with z | z
        · rw [z]; exact hel
        · rw [z]; exact hil
      rw [upd_ne (Nat.ne_of_lt hb')]
      exact (hf b hb).1
  done := by
    intro X hP hw hK hc i pins s σ H E I hf st hg
    subst hP hw hK
    obtain ⟨⟨old, he⟩, hit, hne⟩ := st
    obtain ⟨xs, hq, hx⟩ := hg
    obtain ⟨its, rv, p, hz⟩ := I.tuple hq
    obtain ⟨f0, f1, f2, f3, f4, f5⟩ := hf it (by simp)
    have hl := rv.length
    exact enum_endT (I.ok.hd hc) he hit p (by simp; omega) fun h' eb => ⟨rfl, I.turned (t' := s.toks) (fun b o hb q => eb b o hb q) f0 f1 f3 f4 f5⟩
  self := fun A i s Q E st h => let ⟨⟨_, he⟩, _⟩ := st; wpAny_pyIter_enum he h
def iEnumT (K : PySem.W.Frag) (ta : TA) : TI := fun σ H R => ta σ H fun vs H1 => ∃ a xs, vs = [.ref a] ∧ SqT K H1 a xs ∧ R (IteT K a) H1
theorem pi_enumT {X : Cx} {e : Expr} {ta : TA} {p pos tpos : Pos} {elts : List Expr} {kk : Nat} (hg : Gl X "enumerate") (hm : X.mg "enumerate" = none) (ha : PA X [e] ta) (hs : starEach [e] X.env = [(false, eval e X.env)] := by rfl) :
    PI X (.Tuple elts kk tpos) (.Call (.Name "enumerate" p) [e] [] pos) (iEnumT X.K ta) := by
  refine ⟨fun pins s σ H R I h => ?_⟩
  refine Call_ (ld_blt I hg hm boot_enumerate (PyProof.Rows.callWith_type1 (thn (ha.run pos pins s σ H _ I h) fun us s1 ⟨vs, H1, I1, r1, q1⟩ => ?_) hs rfl))
  obtain ⟨a, xs, ex, hq, q⟩ := q1
  subst ex
  cases r1 with
  | cons r rr =>
    cases rr
    cases r
    obtain ⟨its, rv, p', hz⟩ := I1.tuple hq
    refine enumB (begins_tuple a its.toArray) p' fun h' he hit hk => wpAny_pyIter_enum he ?_
    have I2 : Inv X pins σ H1 { s1 with heap := h' } := I1.kept (t' := s1.toks) hk
    refine ⟨s1.heap.objs.size + 1, [s1.heap.objs.size + 1, s1.heap.objs.size], _, _, H1, rfl, I2, turn_enumT a (s1.heap.objs.size + 1) s1.heap.objs.size, ⟨⟨.none, he⟩, ⟨_, hit, rfl, rfl⟩, Nat.succ_ne_self _⟩, fun b hb => ?_, q⟩
    have e' : b = s1.heap.objs.size + 1 ∨ b = s1.heap.objs.size := by simpa using hb
    have hle : s1.heap.objs.size ≤ b := by
      rcases e' with z | z
      · rw [z]; exact Nat.le_add_right _ _
      · rw [z]; exact Nat.le_refl _
    exact I1.fpOk hle (I1.hok.fresh hle)
theorem walk_enumT {K : PySem.W.Frag} {a : Addr} {xs : List V} : Walk (IteT K a) xs.length (fun H => SqT K H a xs) (YPair (fun i => some (.int (i : Nat))) (fun i => xs[i]?)) := by
  refine ⟨fun i _ hi q => ⟨xs, xs[i], q, by simp [hi]⟩, fun _ q => ⟨xs, q, Nat.le_refl _⟩, fun i H v H' _ q y => ?_⟩
  obtain ⟨T, x, h1, h2, h3, h4⟩ := y
  exact ⟨T, .int (i : Nat), x, h1, h2, h3, rfl, h4 xs q⟩
theorem walk_zipT {K : PySem.W.Frag} {a b : Addr} {xs ys : List V} {n : Nat} (hn : n = min xs.length ys.length) : Walk (RZ.ItzT K a b) n (fun H => SqT K H a xs ∧ SqT K H b ys) (YPair (fun i => xs[i]?) (fun i => ys[i]?)) := by
  subst hn
  refine ⟨fun i _ hi q => ?_, fun _ q => ⟨xs, ys, q.1, q.2, by omega⟩, fun i H v H' _ q y => ?_⟩
  · have h1 : i < xs.length := by omega
    have h2 : i < ys.length := by omega
    exact ⟨xs, ys, xs[i], ys[i], q.1, q.2, by simp [h1], by simp [h2]⟩
  · obtain ⟨T, x, z, h1, h2, h3, h4, h5⟩ := y
    exact ⟨T, x, z, h1, h2, h3, h4 xs q.1, h5 ys q.2⟩
end Ev

set_option Elab.async false
set_option linter.all false
set_option maxRecDepth 100000
set_option maxHeartbeats 2000000
/-! Sources and targets by data. -/
namespace Ev
open PySem PySem.Spec PyProof.Rows L2
/-! ### later -/
/-- a later moment; an own list stands as it was (true), or may have been changed (false) -/
def Lat (bo : Bool) (H G : Hp) (ρ : List Addr) (H' G' : Hp) (ρ' : List Addr) : Prop := if bo then Ext H G ρ H' G' ρ' else ((∀ a o, G a = some o → G' a = some o) ∧ ρ <+: ρ')
section
variable {K : PySem.W.Frag} {bo : Bool} {S S' : Sto} {H G H' G' H'' G'' : Hp} {ρ ρ' ρ'' : List Addr} {d : D} {v : V}
theorem Lat.of (x : Ext H G ρ H' G' ρ') : Lat bo H G ρ H' G' ρ' := by
  cases bo
  · exact ⟨x.g, x.p⟩
  · exact x
theorem Lat.g (x : Lat bo H G ρ H' G' ρ') : ∀ a o, G a = some o → G' a = some o := by
  cases bo
  · exact x.1
  · exact x.g
theorem Lat.p (x : Lat bo H G ρ H' G' ρ') : ρ <+: ρ' := by
  cases bo
  · exact x.2
  · exact x.p
theorem Lat.trans (x : Lat bo H G ρ H' G' ρ') (y : Lat bo H' G' ρ' H'' G'' ρ'') : Lat bo H G ρ H'' G'' ρ'' := by
  cases bo
  · exact ⟨fun a o h => y.1 a o (x.1 a o h), x.2.trans y.2⟩
  · exact Ext.trans x y
theorem RE.lst {ds : List D} (r : RE K bo H G ρ (.lst ds) v) : ∃ a vs, v = .ref a ∧ ds.length ≤ LIM ∧ vs.length = ds.length ∧ ∀ S' H' G' ρ', Lat bo H G ρ H' G' ρ' → Hold K S' H' G' ρ' → SqL K H' a vs ∧ Reps K G' ρ' ds vs := by
  have one : Rep K G ρ (.lst ds) v → ∃ a vs, v = .ref a ∧ ds.length ≤ LIM ∧ vs.length = ds.length ∧ ∀ S' H' G' ρ', Lat bo H G ρ H' G' ρ' → Hold K S' H' G' ρ' → SqL K H' a vs ∧ Reps K G' ρ' ds vs := fun q => by
    obtain ⟨z, a, vs, e, h, r⟩ := q
    exact ⟨a, vs, e, z, r.length, fun S' H' G' ρ' x hd => ⟨sqL_mono hd.gh (sqL_mono x.g h), Reps.mono x.g x.p _ _ r⟩⟩
  cases bo with
  | false => exact one r
  | true =>
    rcases r with q | ⟨a, rfl, g, na, z, vs, h, r⟩
    · exact one q
    · exact ⟨a, vs, rfl, z, r.length, fun S' H2 G2 ρ2 x hd => by
        have x : Ext H G ρ H2 G2 ρ2 := x
        exact ⟨SqL.of (x.h a _ h na), Reps.mono x.g x.p _ _ r⟩⟩
theorem RE.tup {ds : List D} (r : RE K bo H G ρ (.tup ds) v) : ∃ a vs, v = .ref a ∧ ds.length ≤ LIM ∧ vs.length = ds.length ∧ ∀ S' H' G' ρ', Lat bo H G ρ H' G' ρ' → Hold K S' H' G' ρ' → SqT K H' a vs ∧ Reps K G' ρ' ds vs := by
  have q : Rep K G ρ (.tup ds) v := r.rw.see.tupR
  obtain ⟨z, a, vs, e, h, r⟩ := q
  exact ⟨a, vs, e, z, r.length, fun S' H' G' ρ' x hd => ⟨sqT_mono hd.gh (sqT_mono x.g h), Reps.mono x.g x.p _ _ r⟩⟩
/-- what is walked gives the data ds one by one -/
def RI (K : PySem.W.Frag) (bo : Bool) : Hp → Hp → List Addr → List D → It → Prop := fun H G ρ ds J => ds.length ≤ LIM ∧ ∃ (Gd : Hp → Prop) (Y : Nat → Hp → V → Hp → Prop), Walk J ds.length Gd Y ∧
  (∀ S' H' G' ρ', Lat bo H G ρ H' G' ρ' → Hold K S' H' G' ρ' → Gd H') ∧
  ∀ i S' H' G' ρ' x H'', Lat bo H G ρ H' G' ρ' → Hold K S' H' G' ρ' → i < ds.length → Y i H' x H'' → ∃ G'' d, ds[i]? = some d ∧ Ext H' G' ρ' H'' G'' ρ' ∧ Hold K S' H'' G'' ρ' ∧ Rep K G'' ρ' d x
theorem ri_at {J : It} {ds : List D} {vs : List V} {Gd : Hp → Prop} (z : ds.length ≤ LIM) (e : vs.length = ds.length) (w : Walk J vs.length Gd (YAt vs))
    (h : ∀ S' H' G' ρ', Lat bo H G ρ H' G' ρ' → Hold K S' H' G' ρ' → Gd H' ∧ Reps K G' ρ' ds vs) : RI K bo H G ρ ds J := by
  refine ⟨z, Gd, YAt vs, e ▸ w, fun S' H' G' ρ' x hd => (h S' H' G' ρ' x hd).1, fun i S' H' G' ρ' x H'' l hd hi y => ?_⟩
  obtain ⟨eh, y⟩ := y
  subst eh
  obtain ⟨d, e1, r⟩ := Reps.getV (h S' _ G' ρ' l hd).2 y
  exact ⟨G', d, e1, .refl, hd, r⟩
theorem pair_new {T : Addr} {d1 d2 : D} {x y : V} (hd : Hold K S H G ρ) (n : H T = none) (r1 : Rep K G ρ d1 x) (r2 : Rep K G ρ d2 y) :
    ∃ G'', Ext H G ρ (upd H T (.tup [x, y])) G'' ρ ∧ Hold K S (upd H T (.tup [x, y])) G'' ρ ∧ Rep K G'' ρ (.tup [d1, d2]) (.ref T) := by
  obtain ⟨x1, h'⟩ := hd.new (o := .tup [x, y]) n
  exact ⟨_, x1, h', (show 2 ≤ LIM by decide), T, [x, y], rfl, SqT.of upd_same, Reps.mono x1.g x1.p _ _ (.cons r1 (.cons r2 .nil))⟩
theorem number_get : ∀ (ds : List D) (k i : Nat) (d : D), ds[i]? = some d → (number k ds)[i]? = some (.tup [.int ((k + i : Nat) : Int), d])
  | [], k, i, d, h => by simp at h
  | e :: ds, k, 0, d, h => by
    cases h
    rfl
  | e :: ds, k, i + 1, d, h => by
    have q := number_get ds (k + 1) i d (by simpa using h)
    show (number (k + 1) ds)[i]? = _
    rw [q]
    congr 4
    omega
theorem number_len : ∀ (ds : List D) (k : Nat), (number k ds).length = ds.length
  | [], k => rfl
  | e :: ds, k => by
    show (number (k + 1) ds).length + 1 = ds.length + 1
    rw [number_len ds (k + 1)]
theorem pairs_get : ∀ (xs ys : List D) (i : Nat) (x y : D), xs[i]? = some x → ys[i]? = some y → (pairs xs ys)[i]? = some (.tup [x, y])
  | [], ys, i, x, y, h, h' => by simp at h
  | a :: xs, [], i, x, y, h, h' => by simp at h'
  | a :: xs, b :: ys, 0, x, y, h, h' => by
    cases h
    cases h'
    rfl
  | a :: xs, b :: ys, i + 1, x, y, h, h' => pairs_get xs ys i x y (by simpa using h) (by simpa using h')
theorem pairs_len : ∀ (xs ys : List D), (pairs xs ys).length = min xs.length ys.length
  | [], ys => by simp [pairs]
  | a :: xs, [] => by simp [pairs]
  | a :: xs, b :: ys => by
    show (pairs xs ys).length + 1 = _
    rw [pairs_len xs ys]
    simp only [List.length_cons]
    omega
theorem ri_enum {J : It} {ds : List D} {vs : List V} {Gd : Hp → Prop} (z : ds.length ≤ LIM) (e : vs.length = ds.length) (w : Walk J vs.length Gd (YPair (fun i => some (.int (i : Nat))) (fun i => vs[i]?)))
    (h : ∀ S' H' G' ρ', Lat bo H G ρ H' G' ρ' → Hold K S' H' G' ρ' → Gd H' ∧ Reps K G' ρ' ds vs) : RI K bo H G ρ (number 0 ds) J := by
  refine ⟨by rw [number_len]; exact z, Gd, _, by rw [number_len]; exact e ▸ w, fun S' H' G' ρ' x hd => (h S' H' G' ρ' x hd).1, fun i S' H' G' ρ' x H'' l hd hi y => ?_⟩
  obtain ⟨T, u, v, rfl, n, rfl, e1, e2⟩ := y
  cases e1
  obtain ⟨d, e1, r⟩ := Reps.getV (h S' H' G' ρ' l hd).2 e2
  obtain ⟨G'', x1, h1, r1⟩ := pair_new (d1 := .int (i : Nat)) hd n rfl r
  refine ⟨G'', _, number_get ds 0 i d e1, x1, h1, ?_⟩
  rw [show (0 + i : Nat) = i from Nat.zero_add i]
  exact r1
theorem ri_zip {J : It} {ds es : List D} {vs ws : List V} {Gd : Hp → Prop} (z : ds.length ≤ LIM) (w : Walk J (min ds.length es.length) Gd (YPair (fun i => vs[i]?) (fun i => ws[i]?)))
    (h : ∀ S' H' G' ρ', Lat bo H G ρ H' G' ρ' → Hold K S' H' G' ρ' → Gd H' ∧ Reps K G' ρ' ds vs ∧ Reps K G' ρ' es ws) : RI K bo H G ρ (pairs ds es) J := by
  refine ⟨by rw [pairs_len]; omega, Gd, _, by rw [pairs_len]; exact w, fun S' H' G' ρ' x hd => (h S' H' G' ρ' x hd).1, fun i S' H' G' ρ' x H'' l hd hi y => ?_⟩
  obtain ⟨T, u, v, rfl, n, rfl, e1, e2⟩ := y
  obtain ⟨d, f1, r⟩ := Reps.getV (h S' H' G' ρ' l hd).2.1 e1
  obtain ⟨d', f2, r'⟩ := Reps.getV (h S' H' G' ρ' l hd).2.2 e2
  obtain ⟨G'', x1, h1, r1⟩ := pair_new hd n r r'
  exact ⟨G'', _, pairs_get ds es i d d' f1 f2, x1, h1, r1⟩
theorem range_get (lo : Int) (n i : Nat) (h : i < n) : (range lo n)[i]? = some (.int (lo + (i : Nat))) := by
  unfold range
  rw [List.getElem?_map, List.getElem?_range h]
  rfl
theorem ri_range {lo : Int} {n : Nat} (hn : n ≤ LIM) : RI K bo H G ρ (range lo n) (Itr lo n) := by
  have hl : (range lo n).length = n := by simp [range]
  refine ⟨by rw [hl]; exact hn, fun _ => True, _, by rw [hl]; exact walk_range, fun _ _ _ _ _ _ => trivial, fun i S' H' G' ρ' x H'' l hd hi y => ?_⟩
  obtain ⟨rfl, rfl⟩ := y
  rw [hl] at hi
  exact ⟨G', _, range_get lo n i hi, .refl, hd, rfl⟩
end
section
variable {X : Cx} {ca : Nat → Value} {W : WX} {F : Fns} {bo : Bool} {tg a b c : Expr} {a' b' c' : E} {p pos : Pos}
abbrev DI (X : Cx) (ca : Nat → Value) (W : WX) (F : Fns) (bo : Bool) (i : Src) : TI := DN X.K ca W (RI X.K bo) (evi F false i)
/-- one run of a value, then a reckoning: by what the value is -/
theorem DN.val1 {α β : Type} {K : PySem.W.Frag} {RQ : Hp → Hp → List Addr → α → β → Prop} {m : Envi → M D} {f : D → Option α} {σ : L2.St} {H : Hp} {R : β → Hp → Prop}
    (q : DN K ca W RQ (fun env => M.bnd (m env) fun x => M.lift (f x)) σ H R) : (∀ (RR : Hp → Hp → List Addr → D → V → Prop) (Fin : V → Hp → Prop), DN K ca W RR m σ H Fin) ∨ ∃ x y, f x = some y ∧ ∀ (RR : Hp → Hp → List Addr → D → V → Prop) (Fin : V → Hp → Prop),
      (∀ S H1 G1 ρ1 v, Hold K S H1 G1 ρ1 → RR H1 G1 ρ1 x v → (∀ j, RQ H1 G1 ρ1 y j → R j H1) → Fin v H1) → DN K ca W RR m σ H Fin := by
  obtain ⟨env, S, G, ρ, rl, q⟩ := q
  have q : Aft K RQ _ H G ρ (M.bnd (m env) (fun x => M.lift (f x)) S) R := q
  unfold M.bnd at q
  cases e : m env S with
  | bad => rw [e] at q; exact q.elim
  | exc y S' =>
    rw [e] at q
    refine .inl fun RR Fin => ⟨env, S, G, ρ, rl, ?_⟩
    rw [e]
    exact q
  | ok x S' =>
    rw [e] at q
    obtain ⟨y, hy, q⟩ := Aft.lift1 q
    refine .inr ⟨x, y, hy, fun RR Fin hf => ⟨env, S, G, ρ, rl, ?_⟩⟩
    rw [e]
    intro v H1 G1 ρ1 x1 hd r
    exact hf S' H1 G1 ρ1 v hd r fun j rj => q j H1 G1 ρ1 x1 hd rj
/-- two runs of values -/
theorem DN.val2 {α β γ δ : Type} {K : PySem.W.Frag} {RQ : Hp → Hp → List Addr → α → β → Prop} {ms : Envi → M (List D)} {f : List D → M α} {σ : L2.St} {H : Hp} {R : β → Hp → Prop}
    (q : DN K ca W RQ (fun env => M.bnd (ms env) f) σ H R) (hf : ∀ ds S, (∃ y, f ds S = .ok y S) ∨ f ds S = .bad) : (∀ (RR : Hp → Hp → List Addr → List D → List V → Prop) (Fin : List V → Hp → Prop), DN K ca W RR ms σ H Fin) ∨ ∃ ds y S, f ds S = .ok y S ∧ ∀ (RR : Hp → Hp → List Addr → List D → List V → Prop) (Fin : List V → Hp → Prop),
      (∀ S H1 G1 ρ1 v, Hold K S H1 G1 ρ1 → RR H1 G1 ρ1 ds v → (∀ j, RQ H1 G1 ρ1 y j → R j H1) → Fin v H1) → DN K ca W RR ms σ H Fin := by
  obtain ⟨env, S, G, ρ, rl, q⟩ := q
  have q : Aft K RQ _ H G ρ (M.bnd (ms env) f S) R := q
  unfold M.bnd at q
  cases e : ms env S with
  | bad => rw [e] at q; exact q.elim
  | exc y S' =>
    rw [e] at q
    refine .inl fun RR Fin => ⟨env, S, G, ρ, rl, ?_⟩
    rw [e]
    exact q
  | ok x S' =>
    rw [e] at q
    have q : Aft K RQ _ H G ρ (f x S') R := q
    rcases hf x S' with ⟨y, hy⟩ | hy
    · rw [hy] at q
      refine .inr ⟨x, y, S', hy, fun RR Fin hf => ⟨env, S, G, ρ, rl, ?_⟩⟩
      rw [e]
      intro v H1 G1 ρ1 x1 hd r
      exact hf S' H1 G1 ρ1 v hd r fun j rj => q j H1 G1 ρ1 x1 hd rj
    · rw [hy] at q
      exact q.elim
theorem str_chars {K : PySem.W.Frag} {H G : Hp} {ρ : List Addr} {z : Str} (hz : z.cps.size ≤ LIM) : RI K bo H G ρ (z.cps.toList.map fun c => .str ⟨#[c]⟩) (Its z) := by
  have hl : (z.cps.toList.map fun c => D.str ⟨#[c]⟩).length = z.cps.size := by simp
  refine ⟨by rw [hl]; exact hz, fun _ => True, _, by rw [hl]; exact walk_str, fun _ _ _ _ _ _ => trivial, fun i S' H' G' ρ' x H'' l hd hi y => ?_⟩
  obtain ⟨rfl, c, e, rfl⟩ := y
  refine ⟨G', .str ⟨#[c]⟩, ?_, .refl, hd, rfl⟩
  rw [List.getElem?_map]
  have e' : z.cps.toList[i]? = some c := by simpa using e
  rw [e']
  rfl
/-- over a list, a tuple, a text -/
theorem i_seq (ha : PE X a (DE X ca W F bo a')) : PI X tg a (DI X ca W F bo (.seq a')) := by
  refine pi_imp (pi_or (pi_list ha) (pi_or (pi_tup ha) (pi_str ha))) fun σ H R q => ?_
  have q : DN X.K ca W (RI X.K bo) (fun env => M.bnd (ev F a' env) fun x => M.lift (itD x)) σ H R := q
  rcases DN.val1 q with h | ⟨x, y, hy, h⟩
  · exact .inl (h _ _)
  · cases x with
    | lst xs =>
      cases hy
      refine .inl (h _ _ fun S H1 G1 ρ1 v hd r k => ?_)
      obtain ⟨l, vs, rfl, z, e, f⟩ := r.lst
      exact ⟨l, rfl, ⟨vs, (f S H1 G1 ρ1 (Lat.of .refl) hd).1⟩, k _ (ri_at z e walk_list f)⟩
    | tup xs =>
      cases hy
      refine .inr (.inl (h _ _ fun S H1 G1 ρ1 v hd r k => ?_))
      obtain ⟨l, vs, rfl, z, e, f⟩ := r.tup
      exact ⟨l, rfl, ⟨vs, (f S H1 G1 ρ1 (Lat.of .refl) hd).1⟩, k _ (ri_at z e walk_tup f)⟩
    | str z =>
      have hy : (if z.cps.size ≤ LIM then some (z.cps.toList.map fun c => D.str ⟨#[c]⟩) else none) = some y := hy
      split at hy
      · cases hy
        refine .inr (.inr (h _ _ fun S H1 G1 ρ1 v hd r k => ?_))
        exact ⟨z, r.rw.see.str, k _ (str_chars (by assumption))⟩
      · cases hy
    | _ => cases hy
theorem i_rng (ha : PA X [a] (DA X ca W F bo (.cons a' .nil))) (hg : Gl X "range") (hm : X.mg "range" = none) (hs : starEach [a] X.env = [(false, eval a X.env)]) : PI X tg (.Call (.Name "range" p) [a] [] pos) (DI X ca W F bo (.rng a')) := by
  refine pi_imp (pi_range1 hg hm ha hs) fun σ H R q => ?_
  have q : DN X.K ca W (RI X.K bo) (fun env => M.bnd (evs F (.cons a' .nil) env) fun ds => match ds with
    | [D.int n] => if -(2 ^ 62) ≤ n ∧ n < LIM then M.ret (range 0 n.toNat) else M.bad
    | _ => M.bad) σ H R := DN.congr (fun env => by
      show M.bnd (ev F a' env) (fun d => match d with
        | D.int n => if -(2 ^ 62) ≤ n ∧ n < LIM then M.ret (range 0 n.toNat) else M.bad
        | _ => M.bad) = M.bnd (M.bnd (ev F a' env) fun d => M.bnd (M.ret []) fun ds => M.ret (d :: ds)) _
      funext S
      unfold M.bnd M.ret
      cases ev F a' env S with
      | ok d S' => cases d <;> rfl
      | exc _ _ => rfl
      | bad => rfl) q
  have hf : ∀ (ds : List D) (S : Sto), (∃ y, (match ds with
    | [D.int n] => if -(2 ^ 62) ≤ n ∧ n < LIM then M.ret (range 0 n.toNat) else M.bad
    | _ => M.bad : M (List D)) S = .ok y S) ∨ (match ds with
    | [D.int n] => if -(2 ^ 62) ≤ n ∧ n < LIM then M.ret (range 0 n.toNat) else M.bad
    | _ => M.bad : M (List D)) S = .bad := fun ds S => by
    split
    · split
      · exact .inl ⟨_, rfl⟩
      · exact .inr rfl
    · exact .inr rfl
  rcases DN.val2 (γ := Unit) (δ := Unit) q hf with h | ⟨ds, y, S, hy, h⟩
  · exact h _ _
  · split at hy
    · rename_i n
      split at hy
      · rename_i hn
        cases hy
        refine h _ _ fun S H1 G1 ρ1 v hd r k => ?_
        cases r with
        | cons r t =>
          cases t
          cases (show _ = V.int n from r.rw.see.int)
          have hL : LIM = 16777216 := rfl
          exact ⟨n, rfl, hn.1, by omega, k _ (ri_range (by omega))⟩
      · cases hy
    · cases hy
theorem i_rng2 (ha : PA X [a, b] (DA X ca W F bo (.cons a' (.cons b' .nil)))) (hg : Gl X "range") (hm : X.mg "range" = none) (hs : starEach [a, b] X.env = [(false, eval a X.env), (false, eval b X.env)]) (hs2 : starEach [b] X.env = [(false, eval b X.env)]) :
    PI X tg (.Call (.Name "range" p) [a, b] [] pos) (DI X ca W F bo (.rng2 a' b')) := by
  refine pi_imp (pi_range2 hg hm ha hs hs2) fun σ H R q => ?_
  have q : DN X.K ca W (RI X.K bo) (fun env => M.bnd (evs F (.cons a' (.cons b' .nil)) env) fun ds => match ds with
    | [D.int i, D.int j] => if -(2 ^ 62) ≤ i ∧ i < 2 ^ 62 ∧ j - i < LIM ∧ -(2 ^ 62) ≤ j ∧ j < 2 ^ 62 then M.ret (range i (j - i).toNat) else M.bad
    | _ => M.bad) σ H R := DN.congr (fun env => by
      show M.bnd (ev F a' env) (fun d => M.bnd (ev F b' env) fun e => match d, e with
        | D.int i, D.int j => if -(2 ^ 62) ≤ i ∧ i < 2 ^ 62 ∧ j - i < LIM ∧ -(2 ^ 62) ≤ j ∧ j < 2 ^ 62 then M.ret (range i (j - i).toNat) else M.bad
        | _, _ => M.bad) = M.bnd (M.bnd (ev F a' env) fun d => M.bnd (M.bnd (ev F b' env) fun e => M.bnd (M.ret []) fun ds => M.ret (e :: ds)) fun ds => M.ret (d :: ds)) _
      funext S
      unfold M.bnd M.ret
      cases ev F a' env S with
      | ok d S' =>
        dsimp only
        cases ev F b' env S' with
        | ok e S'' => cases d <;> cases e <;> rfl
        | exc _ _ => rfl
        | bad => rfl
      | exc _ _ => rfl
      | bad => rfl) q
  have hf : ∀ (ds : List D) (S : Sto), (∃ y, (match ds with
    | [D.int i, D.int j] => if -(2 ^ 62) ≤ i ∧ i < 2 ^ 62 ∧ j - i < LIM ∧ -(2 ^ 62) ≤ j ∧ j < 2 ^ 62 then M.ret (range i (j - i).toNat) else M.bad
    | _ => M.bad : M (List D)) S = .ok y S) ∨ (match ds with
    | [D.int i, D.int j] => if -(2 ^ 62) ≤ i ∧ i < 2 ^ 62 ∧ j - i < LIM ∧ -(2 ^ 62) ≤ j ∧ j < 2 ^ 62 then M.ret (range i (j - i).toNat) else M.bad
    | _ => M.bad : M (List D)) S = .bad := fun ds S => by
    split
    · split
      · exact .inl ⟨_, rfl⟩
      · exact .inr rfl
    · exact .inr rfl
  rcases DN.val2 (γ := Unit) (δ := Unit) q hf with h | ⟨ds, y, S, hy, h⟩
  · exact h _ _
  · split at hy
    · rename_i i j
      split at hy
      · rename_i hn
        cases hy
        refine h _ _ fun S H1 G1 ρ1 v hd r k => ?_
        cases r with
        | cons r t =>
          cases t with
          | cons r2 t =>
            cases t
            cases (show _ = V.int i from r.rw.see.int)
            cases (show _ = V.int j from r2.rw.see.int)
            have hL : LIM = 16777216 := rfl
            exact ⟨i, j, rfl, ⟨hn.1, hn.2.1, hn.2.2.2.1, hn.2.2.2.2⟩, k _ (ri_range (by omega))⟩
      · cases hy
    · cases hy
theorem i_enum {elts : List Expr} {kk : Nat} {tpos : Pos} (ha : PE X a (DE X ca W F bo a')) (hg : Gl X "enumerate") (hm : X.mg "enumerate" = none) (hs : starEach [a] X.env = [(false, eval a X.env)]) : PI X (.Tuple elts kk tpos) (.Call (.Name "enumerate" p) [a] [] pos) (DI X ca W F bo (.enum a')) := by
  have hpa := pa_cons ha pa_nil hs
  refine pi_imp (pi_or (pi_enum hg hm hpa hs) (pi_enumT hg hm hpa hs)) fun σ H R q => ?_
  have q : DN X.K ca W (RI X.K bo) (fun env => M.bnd (ev F a' env) fun x => M.lift ((seqD x).map (number 0))) σ H R := DN.congr (fun env => by
    show M.bnd (ev F a' env) (fun x => M.bnd (M.lift (seqD x)) fun ds => M.ret (number 0 ds)) = _
    congr 1
    funext x
    cases seqD x <;> rfl) q
  rcases DN.val1 q with h | ⟨x, y, hy, h⟩
  · exact .inl (h _ _)
  · cases x with
    | lst xs =>
      cases hy
      refine .inl (h _ _ fun S H1 G1 ρ1 v hd r k => ?_)
      obtain ⟨l, vs, rfl, z, e, f⟩ := r.lst
      exact ⟨l, vs, rfl, (f S H1 G1 ρ1 (Lat.of .refl) hd).1, k _ (ri_enum z e walk_enum f)⟩
    | tup xs =>
      cases hy
      refine .inr (h _ _ fun S H1 G1 ρ1 v hd r k => ?_)
      obtain ⟨l, vs, rfl, z, e, f⟩ := r.tup
      exact ⟨l, vs, rfl, (f S H1 G1 ρ1 (Lat.of .refl) hd).1, k _ (ri_enum z e walk_enumT f)⟩
    | _ => cases hy
theorem i_zip {elts : List Expr} {kk : Nat} {tpos : Pos} (ha : PA X [a, b] (DA X ca W F bo (.cons a' (.cons b' .nil)))) (hg : Gl X "zip") (hm : X.mg "zip" = none) (hs : starEach [a, b] X.env = (false, eval a X.env) :: starEach [b] X.env) (hpl : (backTo pos (starEach [b] X.env)).any (·.1) = false) :
    PI X (.Tuple elts kk tpos) (.Call (.Name "zip" p) [a, b] [] pos) (DI X ca W F bo (.zip a' b')) := by
  refine pi_imp (RZ.pi_zipA hg hm ha hs hpl) fun σ H R q => ?_
  have q : DN X.K ca W (RI X.K bo) (fun env => M.bnd (evs F (.cons a' (.cons b' .nil)) env) fun ds => match ds with
    | [D.lst xs, D.lst ys] => M.ret (pairs xs ys)
    | [D.tup xs, D.tup ys] => M.ret (pairs xs ys)
    | _ => M.bad) σ H R := DN.congr (fun env => by
      show M.bnd (ev F a' env) (fun d => M.bnd (ev F b' env) fun e => match d, e with
        | D.lst xs, D.lst ys => M.ret (pairs xs ys)
        | D.tup xs, D.tup ys => M.ret (pairs xs ys)
        | _, _ => M.bad) = M.bnd (M.bnd (ev F a' env) fun d => M.bnd (M.bnd (ev F b' env) fun e => M.bnd (M.ret []) fun ds => M.ret (e :: ds)) fun ds => M.ret (d :: ds)) _
      funext S
      unfold M.bnd M.ret
      cases ev F a' env S with
      | ok d S' =>
        dsimp only
        cases ev F b' env S' with
        | ok e S'' => cases d <;> cases e <;> rfl
        | exc _ _ => rfl
        | bad => rfl
      | exc _ _ => rfl
      | bad => rfl) q
  have hf : ∀ (ds : List D) (S : Sto), (∃ y, (match ds with
    | [D.lst xs, D.lst ys] => M.ret (pairs xs ys)
    | [D.tup xs, D.tup ys] => M.ret (pairs xs ys)
    | _ => M.bad : M (List D)) S = .ok y S) ∨ (match ds with
    | [D.lst xs, D.lst ys] => M.ret (pairs xs ys)
    | [D.tup xs, D.tup ys] => M.ret (pairs xs ys)
    | _ => M.bad : M (List D)) S = .bad := fun ds S => by
    split
    · exact .inl ⟨_, rfl⟩
    · exact .inl ⟨_, rfl⟩
    · exact .inr rfl
  rcases DN.val2 (γ := Unit) (δ := Unit) q hf with h | ⟨ds, y, S, hy, h⟩
  · exact h _ _
  · split at hy
    · rename_i xs ys
      cases hy
      refine h _ _ fun S H1 G1 ρ1 v hd r k => ?_
      cases r with
      | cons r t =>
        cases t with
        | cons r2 t =>
          cases t
          obtain ⟨l, vs, rfl, z, e, f⟩ := r.lst
          obtain ⟨l2, vs2, rfl, z2, e2, f2⟩ := r2.lst
          refine ⟨l, l2, vs, vs2, rfl, .inl ⟨(f S H1 G1 ρ1 (Lat.of .refl) hd).1, (f2 S H1 G1 ρ1 (Lat.of .refl) hd).1, k _ (ri_zip (vs := vs) (ws := vs2) z (walk_zip (xs := vs) (ys := vs2) (by rw [e, e2])) fun S' H' G' ρ' x hd' => ?_)⟩⟩
          exact ⟨⟨(f S' H' G' ρ' x hd').1, (f2 S' H' G' ρ' x hd').1⟩, (f S' H' G' ρ' x hd').2, (f2 S' H' G' ρ' x hd').2⟩
    · rename_i xs ys
      cases hy
      refine h _ _ fun S H1 G1 ρ1 v hd r k => ?_
      cases r with
      | cons r t =>
        cases t with
        | cons r2 t =>
          cases t
          obtain ⟨l, vs, rfl, z, e, f⟩ := r.tup
          obtain ⟨l2, vs2, rfl, z2, e2, f2⟩ := r2.tup
          refine ⟨l, l2, vs, vs2, rfl, .inr ⟨(f S H1 G1 ρ1 (Lat.of .refl) hd).1, (f2 S H1 G1 ρ1 (Lat.of .refl) hd).1, k _ (ri_zip (vs := vs) (ws := vs2) z (walk_zipT (xs := vs) (ys := vs2) (by rw [e, e2])) fun S' H' G' ρ' x hd' => ?_)⟩⟩
          exact ⟨⟨(f S' H' G' ρ' x hd').1, (f2 S' H' G' ρ' x hd').1⟩, (f S' H' G' ρ' x hd').2, (f2 S' H' G' ρ' x hd').2⟩
    · cases hy
end
/-! ### targets -/
theorem Rl.set {K : PySem.W.Frag} {env : Envi} {S : Sto} {σ : L2.St} {H G : Hp} {ρ : List Addr} {d : D} {v : V} (r : Rl K env S σ H G ρ) (i : Nat) (h : Rep K G ρ d v) : Rl K (env.set i (.val d)) S (σ.set i (some v)) H G ρ :=
  { toHold := r.toHold
    sl := by rw [List.length_set, List.length_set]; exact r.sl
    val := fun j e hj => by
      by_cases z : i = j
      · subst z
        by_cases hl : i < env.length
        · rw [List.getElem?_set_self hl] at hj
          cases hj
          exact ⟨v, List.getElem?_set_self (by rw [r.sl]; exact hl), h⟩
        · rw [List.getElem?_eq_none (by simpa using hl)] at hj
          cases hj
      · rw [List.getElem?_set_ne z] at hj ⊢
        exact r.val j e hj
    own := fun j e hj => by
      by_cases z : i = j
      · subst z
        by_cases hl : i < env.length
        · rw [List.getElem?_set_self hl] at hj
          cases hj
        · rw [List.getElem?_eq_none (by simpa using hl)] at hj
          cases hj
      · rw [List.getElem?_set_ne z] at hj ⊢
        exact r.own j e hj
    sep := fun j k e1 e2 a h1 h2 h3 h4 => by
      have nz : ∀ {j : Nat} {e : D}, (env.set i (.val d))[j]? = some (.own e) → i ≠ j := fun {j e} hj z => by
        subst z
        by_cases hl : i < env.length
        · rw [List.getElem?_set_self hl] at hj
          cases hj
        · rw [List.getElem?_eq_none (by simpa using hl)] at hj
          cases hj
      have z1 := nz h1
      have z2 := nz h2
      rw [List.getElem?_set_ne z1] at h1 h3
      rw [List.getElem?_set_ne z2] at h2 h4
      exact r.sep j k e1 e2 a h1 h2 h3 h4 }
/-- several names, one after another -/
def gNames : List Nat → TGs
  | [] => gNil
  | i :: is => gCons (gName i) (gNames is)
theorem gNames_run {K : PySem.W.Frag} {S : Sto} {H G : Hp} {ρ : List Addr} : ∀ {is : List Nat} {ds : List D} {vs : List V} {env env' : Envi} {σ : L2.St} {Q : L2.St → Hp → Prop}, Rl K env S σ H G ρ → Reps K G ρ ds vs → putAll env is ds = some env' →
    (∀ σ', Rl K env' S σ' H G ρ → (∀ j, j ∉ is → σ'[j]? = σ[j]?) → σ'.length = σ.length → Q σ' H) → gNames is vs σ H Q
  | [], [], vs, env, env', σ, Q, rl, r, h, q => by
    have r : vs = [] := r
    subst r
    cases h
    exact ⟨rfl, q σ rl (fun _ _ => rfl) rfl⟩
  | i :: is, d :: ds, vs, env, env', σ, Q, rl, r, h, q => by
    obtain ⟨v, vs', rfl, r1, r2⟩ := r
    have h : putAll (env.set i (.val d)) is ds = some env' := h
    refine ⟨v, vs', rfl, gNames_run (rl.set i r1) r2 h fun σ' rl' hj hl => q σ' rl' (fun j hj' => ?_) ?_⟩
    · simp only [List.mem_cons, not_or] at hj'
      rw [hj j hj'.2, List.getElem?_set_ne (fun e => hj'.1 e.symm)]
    · rw [hl, List.length_set]
  | [], d :: ds, vs, env, env', σ, Q, rl, r, h, q => by cases h
  | i :: is, [], vs, env, env', σ, Q, rl, r, h, q => by cases h
/-- a target by data -/
def gT (K : PySem.W.Frag) (t : List Nat) (u : Bool) : TG := fun v σ H Q => ∃ S G ρ env env' d, Rl K env S σ H G ρ ∧ Rep K G ρ d v ∧ bindT env t u d = some env' ∧
  ∀ σ', Rl K env' S σ' H G ρ → (∀ j, j ∉ t → σ'[j]? = σ[j]?) → σ'.length = σ.length → Q σ' H
section
variable {X : Cx}
theorem g_name {i : Nat} {x : Str} {p : Pos} (hN : X.N.Nodup) (hi : X.N[i]? = some x) (hx : Loc X.env.scope x) (hf : X.fn x = true ∨ X.env.scope.names.lookup x = some .local) : PG X (.Name x p) (gT X.K [i] false) := by
  refine pg_imp (pg_name hN hi hx hf) fun v σ H Q q => ?_
  obtain ⟨S, G, ρ, env, env', d, rl, r, h, q⟩ := q
  have h : some (env.set i (.val d)) = some env' := h
  cases h
  refine q _ (rl.set i r) (fun j hj => ?_) (List.length_set ..)
  simp only [List.mem_singleton] at hj
  rw [List.getElem?_set_ne (fun e => hj e.symm)]
theorem putAll_len : ∀ {is : List Nat} {ds : List D} {env env' : Envi}, putAll env is ds = some env' → ds.length = is.length
  | [], [], _, _, _ => rfl
  | i :: is, d :: ds, env, env', h => by
    have h : putAll (env.set i (.val d)) is ds = some env' := h
    rw [List.length_cons, List.length_cons, putAll_len h]
  | [], d :: ds, _, _, h => by cases h
  | i :: is, [], _, _, h => by cases h
theorem g_tup {es : List Expr} {k : Nat} {p : Pos} {t : List Nat} (hc : X.calm = true) (h : PGs X es (gNames t)) (hn : (assignEach es X.env).length = t.length) (hst : (assignEach es X.env).findIdx? (·.1) = none) : PG X (.Tuple es k p) (gT X.K t true) := by
  refine pg_imp (pg_or (pg_tup hc h hn hst) (pg_lst hc h hn hst)) fun v σ H Q q => ?_
  obtain ⟨S, G, ρ, env, env', d, rl, r, h, q⟩ := q
  cases d with
  | tup ds =>
    have h : putAll env t ds = some env' := h
    obtain ⟨z, a, vs, e, hT, r⟩ := r
    refine .inl ⟨a, vs, e, sqT_mono rl.gh hT, ?_, gNames_run rl r h q⟩
    rw [r.length, putAll_len h]
  | lst ds =>
    have h : putAll env t ds = some env' := h
    obtain ⟨z, a, vs, e, hT, r⟩ := r
    refine .inr ⟨a, vs, e, sqL_mono rl.gh hT, ?_, gNames_run rl r h q⟩
    rw [r.length, putAll_len h]
  | _ => cases h
end
end Ev

set_option Elab.async false
set_option linter.all false
set_option maxRecDepth 100000
set_option maxHeartbeats 2000000
/-! List comprehensions. -/
namespace Ev
open PySem PySem.Spec PyProof.Rows L2
theorem wipe_len (env : Envi) : ∀ is : List Nat, (wipe env is).length = env.length
  | [] => rfl
  | i :: is => by
    unfold wipe
    rw [List.length_set, wipe_len env is]
theorem wipe_get (env : Envi) (j : Nat) : ∀ is : List Nat, (j ∉ is → (wipe env is)[j]? = env[j]?) ∧ (j ∈ is → (wipe env is)[j]? = none ∨ (wipe env is)[j]? = some .no)
  | [] => ⟨fun _ => rfl, fun h => by simp at h⟩
  | i :: is => by
    have ih := wipe_get env j is
    unfold wipe
    by_cases z : i = j
    · subst z
      refine ⟨fun h => by simp at h, fun _ => ?_⟩
      by_cases hl : i < (wipe env is).length
      · rw [List.getElem?_set_self hl]
        exact .inr rfl
      · rw [List.getElem?_eq_none (by simpa using hl)]
        exact .inl rfl
    · rw [List.getElem?_set_ne z]
      refine ⟨fun h => ih.1 fun m => h (List.mem_cons_of_mem _ m), fun h => ih.2 ?_⟩
      rcases List.mem_cons.mp h with e | e
      · exact absurd e.symm z
      · exact e
theorem wipeS_get (σ : L2.St) (j : Nat) : ∀ is : List Nat, (j ∉ is → (L2.wipe σ is)[j]? = σ[j]?) ∧ (j ∈ is → (L2.wipe σ is)[j]? = if j < σ.length then some none else none)
  | [] => ⟨fun _ => rfl, fun h => by simp at h⟩
  | i :: is => by
    have ih := wipeS_get σ j is
    unfold L2.wipe
    by_cases z : i = j
    · subst z
      refine ⟨fun h => by simp at h, fun _ => ?_⟩
      have hl := L2.wipe_length σ is
      by_cases hi : i < σ.length
      · rw [List.getElem?_set_self (by omega), if_pos hi]
      · rw [List.getElem?_eq_none (by simp; omega), if_neg hi]
    · rw [List.getElem?_set_ne z]
      refine ⟨fun h => ih.1 fun m => h (List.mem_cons_of_mem _ m), fun h => ih.2 ?_⟩
      rcases List.mem_cons.mp h with e | e
      · exact absurd e.symm z
      · exact e
theorem wipe_same {σ σ' : L2.St} {is : List Nat} (hl : σ'.length = σ.length) (h : ∀ j, j ∉ is → σ'[j]? = σ[j]?) : L2.wipe σ' is = L2.wipe σ is := by
  apply List.ext_getElem?
  intro j
  by_cases m : j ∈ is
  · rw [(wipeS_get σ' j is).2 m, (wipeS_get σ j is).2 m, hl]
  · rw [(wipeS_get σ' j is).1 m, (wipeS_get σ j is).1 m, h j m]
theorem Rl.wipe {K : PySem.W.Frag} {env : Envi} {S : Sto} {σ : L2.St} {H G : Hp} {ρ : List Addr} (r : Rl K env S σ H G ρ) (is : List Nat) : Rl K (Ev.wipe env is) S (L2.wipe σ is) H G ρ := by
  have key : ∀ {j : Nat} {x : Sl}, (Ev.wipe env is)[j]? = some x → x ≠ .no → j ∉ is ∧ env[j]? = some x := fun {j x} h n => by
    by_cases m : j ∈ is
    · rcases (wipe_get env j is).2 m with e | e
      · rw [e] at h
        cases h
      · rw [e] at h
        cases h
        exact absurd rfl n
    · rw [(wipe_get env j is).1 m] at h
      exact ⟨m, h⟩
  exact
  { toHold := r.toHold
    sl := by rw [L2.wipe_length, wipe_len]; exact r.sl
    val := fun j e hj => by
      obtain ⟨m, h⟩ := key hj (by simp)
      rw [(wipeS_get σ j is).1 m]
      exact r.val j e h
    own := fun j e hj => by
      obtain ⟨m, h⟩ := key hj (by simp)
      rw [(wipeS_get σ j is).1 m]
      exact r.own j e h
    sep := fun j k e1 e2 a h1 h2 h3 h4 => by
      obtain ⟨m1, h1⟩ := key h1 (by simp)
      obtain ⟨m2, h2⟩ := key h2 (by simp)
      rw [(wipeS_get σ j is).1 m1] at h3
      rw [(wipeS_get σ k is).1 m2] at h4
      exact r.sep j k e1 e2 a h1 h2 h3 h4 }
abbrev WF : WX := fun _ _ _ _ => False
section
variable {K : PySem.W.Frag} {ca : Nat → Value} {F : Fns}
abbrev DC (K : PySem.W.Frag) (ca : Nat → Value) (F : Fns) (c : Oe) : TT := DN K ca WF RB (fun env => tso (evo F c env))
/-- a turn -/
def turnM (F : Fns) (env : Envi) (own t : List Nat) (u : Bool) (c : Oe) (e : E) (d : D) : M (Option D) := M.nox (M.bnd (M.lift (bindT (wipe env own) t u d)) fun env' => M.bnd (tso (evo F c env')) fun b => if b then M.bnd (ev F e env') fun r => M.ret (some r) else M.ret none)
theorem turn_cases {env : Envi} {own t : List Nat} {u : Bool} {c : Oe} {e : E} {d : D} {S : Sto} : turnM F env own t u c e d S = .bad ∨ ∃ env' b S2, bindT (wipe env own) t u d = some env' ∧ tso (evo F c env') S = .ok b S2 ∧
    ((b = false ∧ turnM F env own t u c e d S = .ok none S2) ∨ ∃ r S3, b = true ∧ ev F e env' S2 = .ok r S3 ∧ turnM F env own t u c e d S = .ok (some r) S3) := by
  unfold turnM
  cases hb : bindT (wipe env own) t u d with
  | none => exact .inl rfl
  | some env' =>
    cases hc : tso (evo F c env') S with
    | bad => refine .inl ?_; simp [M.nox, M.bnd, M.lift, M.ret, hc]
    | exc x S2 => refine .inl ?_; simp [M.nox, M.bnd, M.lift, M.ret, hc]
    | ok b S2 =>
      cases b with
      | false => exact .inr ⟨env', false, S2, rfl, hc, .inl ⟨rfl, by simp [M.nox, M.bnd, M.lift, M.ret, hc]⟩⟩
      | true =>
        cases he : ev F e env' S2 with
        | bad => refine .inl ?_; simp [M.nox, M.bnd, M.lift, M.ret, hc, he]
        | exc x S3 => refine .inl ?_; simp [M.nox, M.bnd, M.lift, M.ret, hc, he]
        | ok r S3 => exact .inr ⟨env', true, S2, rfl, hc, .inr ⟨r, S3, rfl, he, by simp [M.nox, M.bnd, M.lift, M.ret, hc, he]⟩⟩
theorem freshO {S : Sto} {H G : Hp} {ρ : List Addr} {a : Addr} (hd : Hold K S H G ρ) (n : H a = none) : G a = none ∧ a ∉ ρ := by
  refine ⟨?_, fun m => ?_⟩
  · cases e : G a with
    | none => rfl
    | some u =>
      have := hd.gh a u e
      rw [n] at this
      cases this
  · obtain ⟨o, e⟩ := hd.atCell m
    rw [n] at e
    cases e
/-- an own object is changed -/
theorem Hold.own {S : Sto} {H G : Hp} {ρ : List Addr} {a : Addr} {o : HO} (hd : Hold K S H G ρ) (g : G a = none) (n : a ∉ ρ) : Hold K S (upd H a o) G ρ := by
  refine ⟨fun b u e => ?_, hd.len, hd.nd, fun k c e => ?_⟩
  · rw [upd_ne (ne_of_none e g)]
    exact hd.gh b u e
  · obtain ⟨b, e1, e2, e3⟩ := hd.cel k c e
    have z : b ≠ a := fun q => n (q ▸ List.mem_of_getElem? e1)
    refine ⟨b, e1, e2, ?_⟩
    unfold CelAt at *
    split at e3
    · obtain ⟨w, vs, q, r⟩ := e3
      exact ⟨w, vs, by rw [upd_ne z]; exact q, r⟩
    · exact e3.elim
theorem drop_at {ds : List D} {i : Nat} {d : D} (h : ds[i]? = some d) : ds.drop i = d :: ds.drop (i + 1) := by
  obtain ⟨hl, e⟩ := List.getElem?_eq_some_iff.mp h
  rw [List.drop_eq_getElem_cons hl, e]
theorem lc_read {W : WX} {e : E} {t own : List Nat} {u : Bool} {i : Src} {c : Oe} {σ : L2.St} {H : Hp} {Q : VK} (ht : ∀ j ∈ t, j ∈ own) (q : DF K ca W (ev F (.comp e t u i c own)) σ H Q) :
    tLc (DN K ca W (RI K true) (evi F false i)) (gT K t u) (DC K ca F c) (DN K ca WF (RE K false) (ev F e)) own σ H Q := by
  obtain ⟨env, S, G, ρ, rl, q⟩ := q
  refine ⟨env, S, G, ρ, rl, ?_⟩
  have q : Aft K (RN K H) _ H G ρ (M.bnd (evi F false i env) (fun ds => M.bnd (compL (turnM F env own t u c e) ds) fun rs => M.ret (D.lst rs)) S) Q := q
  unfold M.bnd at q
  cases e0 : evi F false i env S with
  | bad => rw [e0] at q; exact q
  | exc y S' => rw [e0] at q; exact q
  | ok ds S1 =>
    rw [e0] at q
    intro J H1 G1 ρ1 x hd ri p np
    have q : Aft K (RN K H) _ H1 G1 ρ1 (M.bnd (compL (turnM F env own t u c e) ds) (fun rs => M.ret (D.lst rs)) S1) Q := Aft.later x q
    obtain ⟨z, Gd, Y, w, hGd, hY⟩ := ri
    refine lc_it w (fun i H' => ∃ S' G' ρ' acc, Ext H1 G1 ρ1 H' G' ρ' ∧ Hold K S' H' G' ρ' ∧ Ow K H' G' ρ' (.lst acc) p ∧ acc.length ≤ i ∧
      Aft K (RN K H) (WW K ca fun c d H' => W c d σ H') H1 G1 ρ1 (M.bnd (compL (turnM F env own t u c e) (ds.drop i)) (fun rs => M.ret (D.lst (acc ++ rs))) S') Q) ?_ ?_ ?_ ?_
    · obtain ⟨x1, h1⟩ := hd.fresh (o := .lst []) np
      obtain ⟨g, n⟩ := freshO hd np
      exact ⟨S1, G1, ρ1, [], x1, h1, ⟨g, n, Nat.zero_le _, [], upd_same, .nil⟩, Nat.zero_le _, q⟩
    · rintro i H' hi ⟨S', G', ρ', acc, x1, h1, _⟩
      exact hGd S' H' G' ρ' x1 h1
    · rintro i v H' H'' hi ⟨S', G', ρ', acc, x1, h1, o1, hl, q1⟩ y
      obtain ⟨G'', d, ed, x2, h2, rd⟩ := hY i S' H' G' ρ' v H'' x1 h1 hi y
      have x12 := x1.trans x2
      have o2 := o1.mono x2
      rw [drop_at ed] at q1
      have q1 : Aft K (RN K H) (WW K ca fun c d H' => W c d σ H') H1 G1 ρ1 (M.bnd (M.bnd (turnM F env own t u c e d) fun r => M.bnd (compL (turnM F env own t u c e) (ds.drop (i + 1))) fun rs => M.ret (match r with | some x => x :: rs | none => rs)) (fun rs => M.ret (D.lst (acc ++ rs))) S') Q := q1
      rcases turn_cases (F := F) (env := env) (own := own) (t := t) (u := u) (c := c) (e := e) (d := d) (S := S') with f | ⟨env', b, S2, hb, hc, f⟩
      · unfold M.bnd at q1
        rw [f] at q1
        exact q1.elim
      · refine ⟨S', G'', ρ', wipe env own, env', d, (rl.ext (x.trans x12) h2).wipe own, rd, hb, fun σ2 rl2 hj hl2 => ⟨?_, ?_⟩⟩
        · have a1 : L2.wipe σ2 own = L2.wipe (L2.wipe σ own) own := wipe_same hl2 fun j hj' => hj j fun m => hj' (ht j m)
          rw [a1]
          refine wipe_same (L2.wipe_length ..) fun j hj' => (wipeS_get σ j own).1 hj'
        · refine ⟨env', S', G'', ρ', rl2, ?_⟩
          dsimp only
          rw [hc]
          intro b' H3 G3 ρ3 x3 h3 eb
          cases (show b' = b from eb)
          have x13 := x12.trans x3
          have o3 := o2.mono x3
          rcases f with ⟨rfl, f⟩ | ⟨r, S3, rfl, he, f⟩
          · rw [if_neg (by simp)]
            refine ⟨S2, G3, ρ3, acc, x13, h3, o3, Nat.le_succ_of_le hl, ?_⟩
            unfold M.bnd at q1
            rw [f] at q1
            dsimp only at q1
            show Aft K (RN K H) _ H1 G1 ρ1 (match compL (turnM F env own t u c e) (ds.drop (i + 1)) S2 with | _ => _) Q
            unfold M.bnd
            cases e5 : compL (turnM F env own t u c e) (ds.drop (i + 1)) S2 <;> (rw [e5] at q1; exact q1)
          · rw [if_pos rfl]
            refine ⟨env', S2, G3, ρ3, rl2.ext x3 h3, ?_⟩
            rw [he]
            intro y H4 G4 ρ4 x4 h4 ry
            obtain ⟨g4, n4, zl, vs, e4, r4⟩ := o3.mono x4
            have rr : Reps K G4 ρ4 (acc ++ [r]) (vs ++ [y]) := r4.append (.cons ry .nil)
            refine ⟨vs, e4, ?_, S3, G4, ρ4, acc ++ [r], ?_, h4.own g4 n4, ⟨g4, n4, ?_, vs ++ [y], upd_same, rr⟩, ?_, ?_⟩
            · rw [r4.length, ← LIM_eq]
              omega
            · have x14 := x13.trans x4
              refine ⟨x14.g, x14.p, fun a o h n => ?_, x14.gn, x14.pn, fun a o h => ?_⟩
              · rw [upd_ne (ne_of_none h np)]
                exact x14.h a o h n
              · rw [upd_ne (ne_of_none h np)]
                exact x14.d a o h
            · rw [List.length_append]
              show acc.length + 1 ≤ LIM
              omega
            · rw [List.length_append]
              show acc.length + 1 ≤ i + 1
              omega
            · unfold M.bnd at q1
              rw [f] at q1
              dsimp only at q1
              unfold M.bnd
              cases e5 : compL (turnM F env own t u c e) (ds.drop (i + 1)) S3 with
              | ok rs S5 =>
                rw [e5] at q1
                dsimp only
                rw [List.append_assoc]
                exact q1
              | exc y S5 => rw [e5] at q1; exact q1
              | bad => rw [e5] at q1; exact q1
    · rintro H' ⟨S', G', ρ', acc, x1, h1, o1, hl, q1⟩
      rw [List.drop_length] at q1
      have q1 : Aft K (RN K H) (WW K ca fun c d H' => W c d σ H') H1 G1 ρ1 (M.ret (D.lst (acc ++ [])) S') Q := q1
      rw [List.append_nil] at q1
      exact q1 _ H' G' ρ' x1 h1 ⟨p, rfl, x.none p np, o1⟩
end
section
variable {X : Cx} {ca : Nat → Value} {W : WX} {F : Fns}
theorem f_comp {elt tg iter : Expr} {ifs : List Expr} {scope : Scope} {own : List (Str × Nat)} {pos : Pos} {e : E} {t : List Nat} {u : Bool} {i : Src} {c : Oe} (hc : X.calm = true) (hN : X.N.Nodup) (hi : PI X tg iter (DI X ca W F true i)) (ok : BlkOk X.N X.env.scope scope own) (ht : ∀ j ∈ t, j ∈ own.map (·.2))
    (hg : ∀ (s : Shared) (H : Hp) (C : Addr) (cl : List (Str × Addr)) (fp : List Addr), PG (X.blk s H scope (compEnvC scope cl C X.env) fp) tg (gT X.K t u)) (hts : ∀ (s : Shared) (H : Hp) (C : Addr) (cl : List (Str × Addr)) (fp : List Addr), PTs (X.blk s H scope (compEnvC scope cl C X.env) fp) ifs (DC X.K ca F c))
    (he : ∀ (s : Shared) (H : Hp) (C : Addr) (cl : List (Str × Addr)) (fp : List Addr), PE (X.blk s H scope (compEnvC scope cl C X.env) fp) elt (DE (X.blk s H scope (compEnvC scope cl C X.env) fp) ca WF F false e)) (hs : ∀ x, foldedSetIterable iter X.env x = pure x) :
    PE X (.ListComp elt [⟨tg, iter, ifs, 0⟩] scope pos) (DF X.K ca W (ev F (.comp e t u i c (own.map (·.2))))) :=
  PE.imp (pe_lc hc hN hi ok hg hts he hs) fun σ H Q q => lc_read ht q
theorem ts_nil : PTs X [] (DC X.K ca F .no) := ⟨fun pins s σ H Q I q => pts_nil.run pins s σ H Q I (by
  obtain ⟨env, S, G, ρ, rl, q⟩ := q
  exact Aft.ret (RR := RB) (d := true) rl.toHold q rfl)⟩
theorem ts_one {c : Expr} {c' : E} (h : PT X c (DT X ca WF F c')) : PTs X [c] (DC X.K ca F (.yes c')) := ⟨fun pins s σ H Q I q => (pts_one h).run pins s σ H Q I (DN.congr (fun env => by
  show M.bnd (M.bnd (ev F c' env) fun d => M.ret (some d)) _ = M.bnd (ev F c' env) _
  funext S
  unfold M.bnd M.ret
  cases ev F c' env S with
  | ok d S' => cases d <;> rfl
  | exc _ _ => rfl
  | bad => rfl) q)⟩
end
end Ev

set_option Elab.async false
set_option linter.all false
set_option maxRecDepth 100000
set_option maxHeartbeats 2000000
/-! Statements: the base, simple statements. -/
namespace Ev
open PySem PySem.Spec PyProof.Rows L2
/-- where a block of statements began; the names that it may touch -/
structure Bse where
  H0 : Hp
  G0 : Hp
  ρ0 : List Addr
  e0 : Envi
  T : Nat → Bool
structure RlS (K : PySem.W.Frag) (B : Bse) (env : Envi) (S : Sto) (σ : L2.St) (H G : Hp) (ρ : List Addr) : Prop extends Rl K env S σ H G ρ where
  x : Ext B.H0 B.G0 B.ρ0 H G ρ
  ab : ∀ (i : Nat) (a : Addr) (d : D), env[i]? = some (.own d) → σ[i]? = some (some (.ref a)) → B.H0 a = none
  fr : ∀ j, B.T j = false → env[j]? = B.e0[j]?
abbrev LatG (G : Hp) (ρ : List Addr) (G' : Hp) (ρ' : List Addr) : Prop := (∀ a o, G a = some o → G' a = some o) ∧ ρ <+: ρ'
theorem LatG.refl {G : Hp} {ρ : List Addr} : LatG G ρ G ρ := ⟨fun _ _ h => h, List.prefix_refl ρ⟩
theorem LatG.trans {G G' G'' : Hp} {ρ ρ' ρ'' : List Addr} (x : LatG G ρ G' ρ') (y : LatG G' ρ' G'' ρ'') : LatG G ρ G'' ρ'' := ⟨fun a o h => y.1 a o (x.1 a o h), x.2.trans y.2⟩
theorem Ext.lat {H G H' G' : Hp} {ρ ρ' : List Addr} (x : Ext H G ρ H' G' ρ') : LatG G ρ G' ρ' := ⟨x.g, x.p⟩
/-- what is wanted behind a statement's run -/
def AftS (K : PySem.W.Frag) (ca : Nat → Value) (B : Bse) (W : WX) (E : Ends) (G : Hp) (ρ : List Addr) (r : Out Fl) : Prop := match r with
  | .ok (.nx env') S' => ∀ σ' H' G' ρ', RlS K B env' S' σ' H' G' ρ' → LatG G ρ G' ρ' → E.nx σ' H'
  | .ok (.ct env') S' => ∀ σ' H' G' ρ', RlS K B env' S' σ' H' G' ρ' → LatG G ρ G' ρ' → E.ct σ' H'
  | .ok (.rt d) S' => ∀ v H' G' ρ', Ext B.H0 B.G0 B.ρ0 H' G' ρ' → Hold K S' H' G' ρ' → Rep K G' ρ' d v → LatG G ρ G' ρ' → E.rt v H'
  | .exc x S' => ∀ env' σ' H' G' ρ', RlS K B env' S' σ' H' G' ρ' → LatG G ρ G' ρ' → ∀ cls dx, XRep K ca H' G' ρ' x cls dx → W cls dx σ' H'
  | .bad => False
/-- the reading of a statement -/
def DS (K : PySem.W.Frag) (ca : Nat → Value) (B : Bse) (W : WX) (m : Envi → M Fl) : TS := fun E σ H => ∃ env S G ρ, RlS K B env S σ H G ρ ∧ AftS K ca B W E G ρ (m env S)
section
variable {K : PySem.W.Frag} {ca : Nat → Value} {B : Bse} {W : WX} {α β : Type} {H G H' G' : Hp} {ρ ρ' : List Addr} {S S' : Sto} {env env' : Envi} {σ : L2.St} {E : Ends} {F : Fns}
theorem RlS.ext (r : RlS K B env S σ H G ρ) (x : Ext H G ρ H' G' ρ') (h : Hold K S' H' G' ρ') : RlS K B env S' σ H' G' ρ' :=
  { toRl := r.toRl.ext x h, x := r.x.trans x, ab := r.ab, fr := r.fr }
theorem AftS.later {r : Out Fl} (x : LatG G ρ G' ρ') (h : AftS K ca B W E G ρ r) : AftS K ca B W E G' ρ' r := by
  cases r with
  | ok d S' =>
    cases d with
    | nx env' => exact fun σ' H2 G2 ρ2 rl y => h σ' H2 G2 ρ2 rl (x.trans y)
    | ct env' => exact fun σ' H2 G2 ρ2 rl y => h σ' H2 G2 ρ2 rl (x.trans y)
    | rt d => exact fun v H2 G2 ρ2 e hd r y => h v H2 G2 ρ2 e hd r (x.trans y)
  | exc e S' => exact fun env' σ' H2 G2 ρ2 rl y => h env' σ' H2 G2 ρ2 rl (x.trans y)
  | bad => exact h
theorem AftS.split {m : M α} {f : α → M Fl} (q : AftS K ca B W E G ρ (M.bnd m f S)) : (∃ x S', m S = .ok x S' ∧ AftS K ca B W E G ρ (f x S')) ∨ ∃ x S', m S = .exc x S' ∧ AftS K ca B W E G ρ (.exc x S') := by
  unfold M.bnd at q
  cases e : m S with
  | ok x S' =>
    rw [e] at q
    exact .inl ⟨x, S', rfl, q⟩
  | exc x S' =>
    rw [e] at q
    exact .inr ⟨x, S', rfl, q⟩
  | bad =>
    rw [e] at q
    exact q.elim
/-- a run of an expression, then the rest of the statement -/
theorem DS.one {RR : Hp → Hp → List Addr → α → β → Prop} {m : Envi → M α} {k : Envi → α → M Fl} {Fin : β → Hp → Prop} (h : DS K ca B W (fun env => M.bnd (m env) (k env)) E σ H)
    (hf : ∀ env S H2 G2 ρ2 x v, RlS K B env S σ H2 G2 ρ2 → RR H2 G2 ρ2 x v → AftS K ca B W E G2 ρ2 (k env x S) → Fin v H2) : DN K ca W RR m σ H Fin := by
  obtain ⟨env, S, G, ρ, rl, q⟩ := h
  refine ⟨env, S, G, ρ, rl.toRl, ?_⟩
  have q : AftS K ca B W E G ρ (M.bnd (m env) (k env) S) := q
  unfold M.bnd at q
  cases e : m env S with
  | ok d S' =>
    rw [e] at q
    exact fun v H1 G1 ρ1 x hd r => hf env S' H1 G1 ρ1 d v (rl.ext x hd) r (q.later x.lat)
  | exc y S' =>
    rw [e] at q
    exact fun H1 G1 ρ1 x hd cls dx xr => q env σ H1 G1 ρ1 (rl.ext x hd) x.lat cls dx xr
  | bad =>
    rw [e] at q
    exact q
theorem DS.congr {m m' : Envi → M Fl} (e : ∀ env, m env = m' env) (h : DS K ca B W m E σ H) : DS K ca B W m' E σ H := by
  have z : m = m' := funext e
  rw [← z]
  exact h
theorem RlS.set {d : D} {v : V} {i : Nat} (r : RlS K B env S σ H G ρ) (ht : B.T i = true) (h : Rep K G ρ d v) : RlS K B (env.set i (.val d)) S (σ.set i (some v)) H G ρ :=
  { toRl := r.toRl.set i h
    x := r.x
    ab := fun j a e h1 h2 => by
      have z : i ≠ j := fun z => by
        subst z
        by_cases hl : i < env.length
        · rw [List.getElem?_set_self hl] at h1
          cases h1
        · rw [List.getElem?_eq_none (by simpa using hl)] at h1
          cases h1
      rw [List.getElem?_set_ne z] at h1 h2
      exact r.ab j a e h1 h2
    fr := fun j hj => by
      have z : i ≠ j := fun z => by
        subst z
        rw [ht] at hj
        cases hj
      rw [List.getElem?_set_ne z]
      exact r.fr j hj }
/-- a new own list or dict gets a name -/
theorem RlS.setOwn {d : D} {a : Addr} {i : Nat} (r : RlS K B env S σ H G ρ) (ht : B.T i = true) (h : Ow K H G ρ d a) (h0 : B.H0 a = none) (hn : ∀ (j : Nat) (e : D), j ≠ i → env[j]? = some (.own e) → σ[j]? ≠ some (some (.ref a))) : RlS K B (env.set i (.own d)) S (σ.set i (some (.ref a))) H G ρ :=
  { toHold := r.toHold
    sl := by rw [List.length_set, List.length_set]; exact r.sl
    val := fun j e hj => by
      by_cases z : i = j
      · subst z
        by_cases hl : i < env.length
        · rw [List.getElem?_set_self hl] at hj
          cases hj
        · rw [List.getElem?_eq_none (by simpa using hl)] at hj
          cases hj
      · rw [List.getElem?_set_ne z] at hj ⊢
        exact r.val j e hj
    own := fun j e hj => by
      by_cases z : i = j
      · subst z
        by_cases hl : i < env.length
        · rw [List.getElem?_set_self hl] at hj
          cases hj
          exact ⟨a, List.getElem?_set_self (by rw [r.sl]; exact hl), h⟩
        · rw [List.getElem?_eq_none (by simpa using hl)] at hj
          cases hj
      · rw [List.getElem?_set_ne z] at hj ⊢
        exact r.own j e hj
    sep := fun j k e1 e2 b h1 h2 h3 h4 => by
      by_cases z1 : i = j
      · by_cases z2 : i = k
        · exact z1.symm.trans z2
        · subst z1
          rw [List.getElem?_set_ne z2] at h2 h4
          by_cases hl : i < σ.length
          · rw [List.getElem?_set_self hl] at h3
            cases h3
            exact absurd h4 (hn k e2 (Ne.symm z2) h2)
          · rw [List.getElem?_eq_none (by simpa using hl)] at h3
            cases h3
      · by_cases z2 : i = k
        · subst z2
          rw [List.getElem?_set_ne z1] at h1 h3
          by_cases hl : i < σ.length
          · rw [List.getElem?_set_self hl] at h4
            cases h4
            exact absurd h3 (hn j e1 (Ne.symm z1) h1)
          · rw [List.getElem?_eq_none (by simpa using hl)] at h4
            cases h4
        · rw [List.getElem?_set_ne z1] at h1 h3
          rw [List.getElem?_set_ne z2] at h2 h4
          exact r.sep j k e1 e2 b h1 h2 h3 h4
    x := r.x
    ab := fun j b e h1 h2 => by
      by_cases z : i = j
      · subst z
        by_cases hl : i < σ.length
        · rw [List.getElem?_set_self hl] at h2
          cases h2
          exact h0
        · rw [List.getElem?_eq_none (by simpa using hl)] at h2
          cases h2
      · rw [List.getElem?_set_ne z] at h1 h2
        exact r.ab j b e h1 h2
    fr := fun j hj => by
      have z : i ≠ j := fun z => by
        subst z
        rw [ht] at hj
        cases hj
      rw [List.getElem?_set_ne z]
      exact r.fr j hj }
/-- an own list or dict stands still from now on -/
theorem RlS.freeze1 {i : Nat} {d : D} (r : RlS K B env S σ H G ρ) (ht : B.T i = true) (e : env[i]? = some (.own d)) : ∃ G', RlS K B (env.set i (.val d)) S σ H G' ρ ∧ LatG G ρ G' ρ := by
  obtain ⟨a, hs, o⟩ := r.own i d e
  obtain ⟨g, na, se⟩ := o
  obtain ⟨ob, ho, f⟩ := se.obj
  obtain ⟨hd, g'⟩ := r.toHold.still ho g na
  have hil : i < env.length := (List.getElem?_eq_some_iff.mp e).1
  refine ⟨upd G a ob, ?_, g', List.prefix_refl _⟩
  have ne : ∀ {j : Nat} {e2 : D}, (env.set i (.val d))[j]? = some (.own e2) → i ≠ j := fun {j e2} h1 z => by
    subst z
    rw [List.getElem?_set_self hil] at h1
    cases h1
  exact
  { toHold := hd
    sl := by rw [List.length_set]; exact r.sl
    val := fun j e2 hj => by
      by_cases z : i = j
      · subst z
        rw [List.getElem?_set_self hil] at hj
        cases hj
        exact ⟨_, hs, f _ upd_same g'⟩
      · rw [List.getElem?_set_ne z] at hj
        obtain ⟨v, h1, h2⟩ := r.val j e2 hj
        exact ⟨v, h1, Rep.mono g' (List.prefix_refl _) _ _ h2⟩
    own := fun j e2 hj => by
      have z := ne hj
      rw [List.getElem?_set_ne z] at hj
      obtain ⟨b, h1, h2, h3, h4⟩ := r.own j e2 hj
      refine ⟨b, h1, ?_, h3, h4.mono g' (List.prefix_refl _) fun _ q => q⟩
      rw [upd_ne fun q => z (r.sep i j d e2 a e hj hs (by rw [← q]; exact h1))]
      exact h2
    sep := fun j k e1 e2 b h1 h2 h3 h4 => by
      rw [List.getElem?_set_ne (ne h1)] at h1
      rw [List.getElem?_set_ne (ne h2)] at h2
      exact r.sep j k e1 e2 b h1 h2 h3 h4
    x := ⟨fun b u q => g' b u (r.x.g b u q), r.x.p, r.x.h, fun b u q => by
      by_cases z : b = a
      · subst z
        exact .inr (r.ab i _ d e hs)
      · rw [upd_ne z] at q
        exact r.x.gn b u q, r.x.pn, r.x.d⟩
    ab := fun j b e2 h1 h2 => by
      rw [List.getElem?_set_ne (ne h1)] at h1
      exact r.ab j b e2 h1 h2
    fr := fun j hj => by
      have z : i ≠ j := fun z => by
        subst z
        rw [ht] at hj
        cases hj
      rw [List.getElem?_set_ne z]
      exact r.fr j hj }
theorem RlS.freeze : ∀ (is : List Nat), (∀ i ∈ is, B.T i = true) → RlS K B env S σ H G ρ → ∃ G', RlS K B (Ev.freeze env is) S σ H G' ρ ∧ LatG G ρ G' ρ
  | [], _, r => ⟨G, r, .refl⟩
  | i :: is, ht, r => by
    obtain ⟨G1, r1, x1⟩ := RlS.freeze is (fun j hj => ht j (List.mem_cons_of_mem _ hj)) r
    unfold Ev.freeze
    split
    · rename_i d e
      obtain ⟨G2, r2, x2⟩ := r1.freeze1 (ht i List.mem_cons_self) e
      exact ⟨G2, r2, x1.trans x2⟩
    · exact ⟨G1, r1, x1⟩
theorem DS.fz {is : List Nat} {m : Envi → M Fl} (ht : ∀ i ∈ is, B.T i = true) (h : DS K ca B W (fun env => m (Ev.freeze env is)) E σ H) : DS K ca B W m E σ H := by
  obtain ⟨env, S, G, ρ, rl, q⟩ := h
  obtain ⟨G', r', x⟩ := rl.freeze is ht
  exact ⟨_, S, G', ρ, r', q.later x⟩
end
section
variable {X : Cx} {ca : Nat → Value} {B : Bse} {W : WX} {F : Fns} {Wn : Nat} {st : Stmt} {sts : List Stmt} {e a b c : Expr} {e' a' b' c' : E} {p pos spos : Pos} {i : Nat} {y : Str}
abbrev DSt (X : Cx) (ca : Nat → Value) (B : Bse) (W : WX) (F : Fns) (Wn : Nat) (s : Sm) : TS := DS X.K ca B W (ex F Wn s)
abbrev DSs (X : Cx) (ca : Nat → Value) (B : Bse) (W : WX) (F : Fns) (Wn : Nat) (s : Sb) : TS := DS X.K ca B W (exs F Wn s)
theorem s_fz {is : List Nat} {s : Sm} (ht : ∀ i ∈ is, B.T i = true) (h : PS X st (DSt X ca B W F Wn s)) : PS X st (DSt X ca B W F Wn (.fz is s)) :=
  PS.imp h fun E σ H q => DS.fz (m := ex F Wn s) ht q
theorem ss_nil : PSs X [] (DSs X ca B W F Wn .nil) := PSs.imp pss_nil fun E σ H q => by
  obtain ⟨env, S, G, ρ, rl, q⟩ := q
  exact q σ H G ρ rl .refl
theorem ss_cons {s : Sm} {ss : Sb} (h : PS X st (DSt X ca B W F Wn s)) (hs : PSs X sts (DSs X ca B W F Wn ss)) : PSs X (st :: sts) (DSs X ca B W F Wn (.cons s ss)) := by
  refine PSs.imp (pss_cons h hs) fun E σ H q => ?_
  obtain ⟨env, S, G, ρ, rl, q⟩ := q
  refine ⟨env, S, G, ρ, rl, ?_⟩
  have q : AftS X.K ca B W E G ρ (M.bnd (ex F Wn s env) (fun r => match r with
    | .nx env => exs F Wn ss env
    | f => M.ret f) S) := q
  unfold M.bnd at q
  cases e1 : ex F Wn s env S with
  | bad => rw [e1] at q; exact q
  | exc x S' => rw [e1] at q; exact q
  | ok f S' =>
    rw [e1] at q
    cases f with
    | nx env' => exact fun σ' H' G' ρ' rl' x => ⟨env', S', G', ρ', rl', q.later x⟩
    | ct env' => exact q
    | rt d => exact q
theorem s_asg (ht : B.T i = true) (hN : X.N.Nodup) (hi : X.N[i]? = some y) (hx : Loc X.env.scope y) (hf : X.fn y = true ∨ X.env.scope.names.lookup y = some .local) (he : PE X e (DE X ca W F false e')) (hs : swapsWith e (some (.Name y p)) spos.line X.env = pure false) :
    PS X (.Assign [.Name y p] e spos) (DSt X ca B W F Wn (.asg i e')) := by
  refine PS.imp (ps_set hN hi hx he hs hf) fun E σ H q => ?_
  exact DS.one (k := fun env d => M.ret (.nx (env.set i (.val d)))) q fun env S H2 G2 ρ2 d v rl r q => q _ _ _ _ (rl.set ht r) .refl
/-- a new own one is bound -/
theorem own_read {m : Envi → M D} {E : Ends} {σ : L2.St} {H : Hp} (ht : B.T i = true) (q : DS X.K ca B W (fun env => M.bnd (m env) fun d => M.ret (.nx (env.set i (.own d)))) E σ H) : DF X.K ca W m σ H fun x H1 => gName i x σ H1 E.nx := by
  obtain ⟨env, S, G, ρ, rl, q⟩ := q
  refine ⟨env, S, G, ρ, rl.toRl, ?_⟩
  have q : AftS X.K ca B W E G ρ (M.bnd (m env) (fun d => M.ret (.nx (env.set i (.own d)))) S) := q
  unfold M.bnd at q
  cases e : m env S with
  | bad => rw [e] at q; exact q
  | exc y S' =>
    rw [e] at q
    exact fun H1 G1 ρ1 x hd cls dx xr => q env σ H1 G1 ρ1 (rl.ext x hd) x.lat cls dx xr
  | ok d S' =>
    rw [e] at q
    rintro v H1 G1 ρ1 x hd ⟨a, rfl, h0, o⟩
    refine q _ H1 G1 ρ1 ((rl.ext x hd).setOwn ht o (rl.x.none a h0) fun j e2 hj h1 h2 => ?_) x.lat
    obtain ⟨b, h3, _, _, se⟩ := rl.own j e2 h1
    rw [h2] at h3
    cases h3
    obtain ⟨u, hu⟩ := se.there
    rw [h0] at hu
    cases hu
theorem s_own (ht : B.T i = true) (hN : X.N.Nodup) (hi : X.N[i]? = some y) (hx : Loc X.env.scope y) (hf : X.fn y = true ∨ X.env.scope.names.lookup y = some .local) (he : PE X e (DF X.K ca W (ev F e'))) (hs : swapsWith e (some (.Name y p)) spos.line X.env = pure false) :
    PS X (.Assign [.Name y p] e spos) (DSt X ca B W F Wn (.own i e')) :=
  PS.imp (ps_set hN hi hx he hs hf) fun E σ H q => own_read (m := ev F e') ht q
theorem s_ret (he : PE X e (DE X ca W F false e')) : PS X (.Return (some e) spos) (DSt X ca B W F Wn (.ret e')) := by
  refine PS.imp (ps_ret he) fun E σ H q => ?_
  exact DS.one (k := fun env d => M.ret (.rt d)) q fun env S H2 G2 ρ2 d v rl r q => q v _ _ _ rl.x rl.toHold r .refl
theorem s_retN : PS X (.Return none spos) (DSt X ca B W F Wn (.ret (.con .non))) := by
  refine PS.imp ps_retN fun E σ H q => ?_
  obtain ⟨env, S, G, ρ, rl, q⟩ := q
  exact q .non H G ρ rl.x rl.toHold rfl .refl
theorem s_pass : PS X (.Pass spos) (DSt X ca B W F Wn .pass) := PS.imp ps_pass fun E σ H q => by
  obtain ⟨env, S, G, ρ, rl, q⟩ := q
  exact q σ H G ρ rl .refl
theorem s_doc {x : Str} {j : Nat} : PS X (.Expr (.Constant (.str x) j p) spos) (DSt X ca B W F Wn .pass) := PS.imp ps_doc fun E σ H q => by
  obtain ⟨env, S, G, ρ, rl, q⟩ := q
  exact q σ H G ρ rl .refl
theorem s_cont : PS X (.Continue spos) (DSt X ca B W F Wn .cont) := PS.imp ps_continue fun E σ H q => by
  obtain ⟨env, S, G, ρ, rl, q⟩ := q
  exact q σ H G ρ rl .refl
theorem s_never : PS X st (DSt X ca B W F Wn .never) := PS.imp ps_never fun E σ H q => by
  obtain ⟨env, S, G, ρ, rl, q⟩ := q
  exact q
theorem s_ex {bo : Bool} (he : PE X e (DE X ca W F bo e')) (hs : swapsWith e none spos.line X.env = pure false) : PS X (.Expr e spos) (DSt X ca B W F Wn (.ex e')) := by
  refine PS.imp (ps_expr he hs) fun E σ H q => ?_
  exact DS.one (k := fun env d => M.ret (.nx env)) q fun env S H2 G2 ρ2 d v rl r q => q _ _ _ _ rl .refl
theorem s_if {t u : List Stmt} {t' u' : Sb} (hc : PT X c (DT X ca W F c')) (ha : PSs X t (DSs X ca B W F Wn t')) (hb : PSs X u (DSs X ca B W F Wn u')) : PS X (.If c t u spos) (DSt X ca B W F Wn (.ife c' t' u')) := by
  refine PS.imp (ps_if hc ha hb) fun E σ H q => ?_
  refine DS.one (RR := RB) (k := fun env r => if r then exs F Wn t' env else exs F Wn u' env) q fun env S H2 G2 ρ2 d v rl r q => ?_
  cases (show v = d from r)
  cases d with
  | true => exact ⟨env, S, G2, ρ2, rl, q⟩
  | false => exact ⟨env, S, G2, ρ2, rl, q⟩
theorem s_whl {t : List Stmt} {t' : Sb} (hp : PassesOwn (model X.prog X.w) X.A X.env X.xe) (hc : PT X c (DT X ca W F c')) (ha : PSs X t (DSs X ca B W F Wn t')) : PS X (.While c t [] spos) (DSt X ca B W F Wn (.whl c' t')) := by
  refine PS.imp (ps_while hp hc ha) fun E σ H q => ?_
  obtain ⟨env, S, G, ρ, rl, q⟩ := q
  have q : AftS X.K ca B W E G ρ (loopW (fun env => tst (ev F c' env)) (fun env => exs F Wn t' env) Wn env S) := q
  refine ⟨fun n σ H => ∃ env S G' ρ', RlS X.K B env S σ H G' ρ' ∧ AftS X.K ca B W E G' ρ' (loopW (fun env => tst (ev F c' env)) (fun env => exs F Wn t' env) n env S), ⟨Wn, env, S, G, ρ, rl, q⟩, ?_⟩
  rintro n σ1 H1 ⟨env1, S1, G1, ρ1, rl1, q1⟩
  cases n with
  | zero => exact q1.elim
  | succ n =>
    refine DS.one (RR := RB) (E := E) (B := B) (k := fun env1 r => if r then M.bnd (exs F Wn t' env1) (fun f => match f with
      | .nx e => loopW (fun env => tst (ev F c' env)) (fun env => exs F Wn t' env) n e
      | .ct e => loopW (fun env => tst (ev F c' env)) (fun env => exs F Wn t' env) n e
      | .rt d => M.ret (.rt d)) else M.ret (.nx env1)) ⟨env1, S1, G1, ρ1, rl1, q1⟩ fun env S2 H2 G2 ρ2 d v rl2 r q2 => ?_
    cases (show v = d from r)
    cases d with
    | false => exact q2 σ1 H2 G2 ρ2 rl2 .refl
    | true =>
      rw [if_pos rfl]
      refine ⟨fun σ' H' => ∃ env S G' ρ', RlS X.K B env S σ' H' G' ρ' ∧ AftS X.K ca B W E G' ρ' (loopW (fun env => tst (ev F c' env)) (fun env => exs F Wn t' env) n env S), fun σ' H' h => ⟨n, Nat.lt_succ_self n, h⟩, env, S2, G2, ρ2, rl2, ?_⟩
      have q2 : AftS X.K ca B W E G2 ρ2 (M.bnd (exs F Wn t' env) (fun f => match f with
        | .nx e => loopW (fun env => tst (ev F c' env)) (fun env => exs F Wn t' env) n e
        | .ct e => loopW (fun env => tst (ev F c' env)) (fun env => exs F Wn t' env) n e
        | .rt d => M.ret (.rt d)) S2) := q2
      unfold M.bnd at q2
      cases e1 : exs F Wn t' env S2 with
      | bad => rw [e1] at q2; exact q2
      | exc x S' => rw [e1] at q2; exact q2
      | ok f S' =>
        rw [e1] at q2
        cases f with
        | nx env' => exact fun σ' H' G' ρ' rl' x => ⟨env', S', G', ρ', rl', q2.later x⟩
        | ct env' => exact fun σ' H' G' ρ' rl' x => ⟨env', S', G', ρ', rl', q2.later x⟩
        | rt d => exact q2
theorem bindT_rl {K : PySem.W.Frag} {env env' : Envi} {S : Sto} {σ σ' : L2.St} {H G : Hp} {ρ : List Addr} {t : List Nat} {u : Bool} {d : D} (ht : ∀ i ∈ t, B.T i = true) (rl : RlS K B env S σ H G ρ) (h : bindT env t u d = some env') (rl' : Rl K env' S σ' H G ρ) (hj : ∀ j, j ∉ t → σ'[j]? = σ[j]?) : RlS K B env' S σ' H G ρ := by
  have put : ∀ {is : List Nat} {ds : List D} {env env' : Envi}, putAll env is ds = some env' → (∀ j, j ∉ is → env'[j]? = env[j]?) ∧ ∀ j e, j ∈ is → env'[j]? ≠ some (.own e) := fun {is} => by
    induction is with
    | nil =>
      intro ds env env' h
      cases ds with
      | nil => cases h; exact ⟨fun _ _ => rfl, fun j e m => by simp at m⟩
      | cons _ _ => cases h
    | cons i is ih =>
      intro ds env env' h
      cases ds with
      | nil => cases h
      | cons d ds =>
        obtain ⟨h1, h2⟩ := ih h
        have key : ∀ e, (env.set i (.val d))[i]? ≠ some (.own e) := fun e q => by
          by_cases hl : i < env.length
          · rw [List.getElem?_set_self hl] at q
            cases q
          · rw [List.getElem?_eq_none (by simpa using hl)] at q
            cases q
        refine ⟨fun j m => ?_, fun j e m => ?_⟩
        · simp only [List.mem_cons, not_or] at m
          rw [h1 j m.2, List.getElem?_set_ne (fun q => m.1 q.symm)]
        · by_cases z : j ∈ is
          · exact h2 j e z
          · rw [h1 j z]
            rcases List.mem_cons.mp m with q | q
            · rw [q]
              exact key e
            · exact absurd q z
  have all : (∀ j, j ∉ t → env'[j]? = env[j]?) ∧ ∀ j e, j ∈ t → env'[j]? ≠ some (.own e) := by
    unfold bindT at h
    split at h
    · split at h
      · exact put h
      · exact put h
      · cases h
    · split at h
      · rename_i i
        cases h
        refine ⟨fun j m => ?_, fun j e m q => ?_⟩
        · simp only [List.mem_singleton] at m
          rw [List.getElem?_set_ne (fun q => m q.symm)]
        · simp only [List.mem_singleton] at m
          subst m
          by_cases hl : j < env.length
          · rw [List.getElem?_set_self hl] at q
            cases q
          · rw [List.getElem?_eq_none (by simpa using hl)] at q
            cases q
      · cases h
  exact
  { toRl := rl'
    x := rl.x
    ab := fun j a e h1 h2 => by
      by_cases m : j ∈ t
      · exact absurd h1 (all.2 j e m)
      · rw [all.1 j m] at h1
        rw [hj j m] at h2
        exact rl.ab j a e h1 h2
    fr := fun j hj' => by
      have m : j ∉ t := fun m => by
        rw [ht j m] at hj'
        cases hj'
      rw [all.1 j m]
      exact rl.fr j hj' }
theorem s_unp {tg : Expr} {is : List Nat} (ht : ∀ i ∈ is, B.T i = true) (hg : PG X tg (gT X.K is true)) (he : PE X e (DE X ca W F false e')) (hs : swapsWithSole [tg] e spos.line X.env = pure false) (hw : swappedStores [tg] e X.env = pure none) (h1 : (assignEach [tg] X.env).map (·.2) = [assign tg X.env]) :
    PS X (.Assign [tg] e spos) (DSt X ca B W F Wn (.unp is e')) := by
  refine PS.imp (ps_asg he hg hs hw h1) fun E σ H q => ?_
  refine DS.one (k := fun env d => M.bnd (M.lift (bindT env is true d)) fun env => M.ret (.nx env)) q fun env S H2 G2 ρ2 d v rl r q => ?_
  cases hb : bindT env is true d with
  | none =>
    rw [hb] at q
    exact q.elim
  | some env' =>
    rw [hb] at q
    exact ⟨S, G2, ρ2, env, env', d, rl.toRl, r, hb, fun σ' rl' hj hl => q σ' H2 G2 ρ2 (bindT_rl ht rl hb rl' hj) .refl⟩
theorem s_for {tg iter : Expr} {t : List Nat} {u : Bool} {src : Src} {body : List Stmt} {b' : Sb} (hp : PassesOwn (model X.prog X.w) X.A X.env X.xe) (hc : X.calm = true) (ht : ∀ i ∈ t, B.T i = true) (hi : PI X tg iter (DI X ca W F false src)) (hg : PG X tg (gT X.K t u)) (hb : PSs X body (DSs X ca B W F Wn b'))
    (hs : ∀ x, foldedSetIterable iter X.env x = pure x) : PS X (.For tg iter body [] spos) (DSt X ca B W F Wn (.for_ t u src b')) := by
  refine PS.imp (ps_for hp hc hi hg hb hs) fun E σ H q => ?_
  refine DS.one (RR := RI X.K false) (k := fun env ds => forL (fun d env => M.bnd (M.lift (bindT env t u d)) fun env => exs F Wn b' env) ds env) q fun env S H1 G1 ρ1 ds J rl ri q => ?_
  obtain ⟨z, Gd, Y, w, hGd, hY⟩ := ri
  refine for_it w (fun i σ H => ∃ env S G' ρ', RlS X.K B env S σ H G' ρ' ∧ LatG G1 ρ1 G' ρ' ∧ AftS X.K ca B W E G' ρ' (forL (fun d env => M.bnd (M.lift (bindT env t u d)) fun env => exs F Wn b' env) (ds.drop i) env S)) ⟨env, S, G1, ρ1, rl, .refl, q⟩ ?_ ?_ ?_
  · rintro i σ1 H' hi' ⟨env1, S1, G', ρ', rl1, x1, _⟩
    exact hGd S1 H' G' ρ' x1 rl1.toHold
  · rintro i v σ1 H' H'' hi' ⟨env1, S1, G', ρ', rl1, x1, q1⟩ y
    obtain ⟨G'', d, ed, x2, h2, rd⟩ := hY i S1 H' G' ρ' v H'' x1 rl1.toHold hi' y
    have rl2 := rl1.ext x2 h2
    rw [drop_at ed] at q1
    have q1 : AftS X.K ca B W E G' ρ' (M.bnd (M.bnd (M.lift (bindT env1 t u d)) fun env => exs F Wn b' env) (fun f => match f with
      | .nx e => forL (fun d env => M.bnd (M.lift (bindT env t u d)) fun env => exs F Wn b' env) (ds.drop (i + 1)) e
      | .ct e => forL (fun d env => M.bnd (M.lift (bindT env t u d)) fun env => exs F Wn b' env) (ds.drop (i + 1)) e
      | .rt d => M.ret (.rt d)) S1) := q1
    cases hb' : bindT env1 t u d with
    | none =>
      rw [hb'] at q1
      exact q1.elim
    | some env' =>
      rw [hb'] at q1
      refine ⟨S1, G'', ρ', env1, env', d, rl2.toRl, rd, hb', fun σ' rl' hj hl => ⟨env', S1, G'', ρ', bindT_rl ht rl2 hb' rl' hj, ?_⟩⟩
      have q1 := q1.later x2.lat
      have q1 : AftS X.K ca B W E G'' ρ' (M.bnd (exs F Wn b' env') (fun f => match f with
        | .nx e => forL (fun d env => M.bnd (M.lift (bindT env t u d)) fun env => exs F Wn b' env) (ds.drop (i + 1)) e
        | .ct e => forL (fun d env => M.bnd (M.lift (bindT env t u d)) fun env => exs F Wn b' env) (ds.drop (i + 1)) e
        | .rt d => M.ret (.rt d)) S1) := q1
      rcases q1.split with ⟨f, S', e1, q1⟩ | ⟨x, S', e1, q1⟩
      · rw [e1]
        cases f with
        | nx env2 => exact fun σ' H' G3 ρ3 rl' x => ⟨env2, S', G3, ρ3, rl', (x1.trans x2.lat).trans x, q1.later x⟩
        | ct env2 => exact fun σ' H' G3 ρ3 rl' x => ⟨env2, S', G3, ρ3, rl', (x1.trans x2.lat).trans x, q1.later x⟩
        | rt d => exact q1
      · rw [e1]
        exact q1
  · rintro σ1 H' ⟨env1, S1, G', ρ', rl1, x1, q1⟩
    rw [List.drop_length] at q1
    exact q1 σ1 H' G' ρ' rl1 .refl
end
end Ev

set_option Elab.async false
set_option linter.all false
set_option maxRecDepth 100000
set_option maxHeartbeats 2000000
/-! Statements that change lists and dicts. -/
namespace Ev
open PySem PySem.Spec PyProof.Rows L2
section
variable {K : PySem.W.Frag} {ca : Nat → Value} {B : Bse} {W : WX} {H G : Hp} {ρ : List Addr} {S S' : Sto} {env env' : Envi} {σ : L2.St} {E : Ends} {F : Fns} {i : Nat}
theorem recv_ok {u : Unit} (r : Rl K env S σ H G ρ) (h : recv env i S = .ok u S') : S' = S ∧ ∃ a vs, σ[i]? = some (some (.ref a)) ∧ H a = some (.lst vs) := by
  unfold recv at h
  split at h
  · rename_i e
    cases h
    obtain ⟨a, h1, _, _, _, vs, h2, _⟩ := r.own i _ e
    exact ⟨rfl, a, vs, h1, h2⟩
  · rename_i n e
    split at h
    · rename_i ds hs
      cases h
      obtain ⟨v, h1, a, rfl, h2⟩ := r.val i _ e
      obtain ⟨b, h3, _, c⟩ := r.cel n _ hs
      rw [h2] at h3
      cases h3
      obtain ⟨_, vs, h4, _⟩ := c
      exact ⟨rfl, a, vs, h1, h4⟩
    · cases h
  · cases h
theorem recv_cases : (recv env i S = .ok () S) ∨ recv env i S = .bad := by
  unfold recv
  split
  · exact .inl rfl
  · split
    · exact .inl rfl
    · exact .inr rfl
  · exact .inr rfl
/-- an own list or dict is changed in place -/
theorem RlS.ownUpd {d d' : D} {a : Addr} {o : HO} (r : RlS K B env S σ H G ρ) (ht : B.T i = true) (e : env[i]? = some (.own d)) (hs : σ[i]? = some (some (.ref a))) (n : Se K (upd H a o) G ρ d' a) : RlS K B (env.set i (.own d')) S σ (upd H a o) G ρ := by
  obtain ⟨b, hb, g, na, se⟩ := r.own i d e
  rw [hs] at hb
  cases hb
  have hd : Hold K S (upd H a o) G ρ := r.toHold.own g na
  have hil : i < env.length := (List.getElem?_eq_some_iff.mp e).1
  have a0 := r.ab i a d e hs
  exact
  { toHold := hd
    sl := by rw [List.length_set]; exact r.sl
    val := fun j e2 hj => by
      by_cases z : i = j
      · subst z
        rw [List.getElem?_set_self hil] at hj
        cases hj
      · rw [List.getElem?_set_ne z] at hj
        exact r.val j e2 hj
    own := fun j e2 hj => by
      by_cases z : i = j
      · subst z
        rw [List.getElem?_set_self hil] at hj
        cases hj
        exact ⟨a, hs, g, na, n⟩
      · rw [List.getElem?_set_ne z] at hj
        obtain ⟨b, h1, h2, h3, h4⟩ := r.own j e2 hj
        have nb : b ≠ a := fun q => z (r.sep i j d e2 a e hj hs (by rw [← q]; exact h1))
        exact ⟨b, h1, h2, h3, h4.mono (fun _ _ q => q) (List.prefix_refl _) fun u q => by rw [upd_ne nb]; exact q⟩
    sep := fun j k e1 e2 b h1 h2 h3 h4 => by
      by_cases z1 : i = j
      · by_cases z2 : i = k
        · exact z1.symm.trans z2
        · subst z1
          rw [List.getElem?_set_ne z2] at h2
          rw [hs] at h3
          cases h3
          exact r.sep i k d e2 a e h2 hs h4
      · by_cases z2 : i = k
        · subst z2
          rw [List.getElem?_set_ne z1] at h1
          rw [hs] at h4
          cases h4
          exact r.sep j i e1 d a h1 e h3 hs
        · rw [List.getElem?_set_ne z1] at h1
          rw [List.getElem?_set_ne z2] at h2
          exact r.sep j k e1 e2 b h1 h2 h3 h4
    x := ⟨r.x.g, r.x.p, fun b u q nb => by
      rw [upd_ne (ne_of_none q a0)]
      exact r.x.h b u q nb, r.x.gn, r.x.pn, fun b u q => by
      rw [upd_ne (ne_of_none q a0)]
      exact r.x.d b u q⟩
    ab := fun j b e2 h1 h2 => by
      by_cases z : i = j
      · subst z
        rw [hs] at h2
        cases h2
        exact a0
      · rw [List.getElem?_set_ne z] at h1
        exact r.ab j b e2 h1 h2
    fr := fun j hj => by
      have z : i ≠ j := fun z => by
        subst z
        rw [ht] at hj
        cases hj
      rw [List.getElem?_set_ne z]
      exact r.fr j hj }
/-- a cell is changed in place -/
theorem RlS.celUpd {n : Nat} {ds es : List D} {ws : List V} {a : Addr} (r : RlS K B env S σ H G ρ) (hs : S[n]? = some (.lst ds)) (ha : ρ[n]? = some a) (rw' : Reps K G ρ es ws) (hz : es.length ≤ LIM) : RlS K B env (S.set n (.lst es)) σ (upd H a (.lst ws)) G ρ := by
  have nl : n < S.length := (List.getElem?_eq_some_iff.mp hs).1
  obtain ⟨b, hb, g, c⟩ := r.cel n _ hs
  rw [ha] at hb
  cases hb
  have am : a ∈ ρ := List.mem_of_getElem? ha
  obtain ⟨u, hu⟩ := r.toHold.atCell am
  have hd : Hold K (S.set n (.lst es)) (upd H a (.lst ws)) G ρ := by
    refine ⟨fun b u q => ?_, by rw [List.length_set]; exact r.len, r.nd, fun k c q => ?_⟩
    · rw [upd_ne (ne_of_none q g)]
      exact r.gh b u q
    · by_cases z : n = k
      · subst z
        rw [List.getElem?_set_self nl] at q
        cases q
        exact ⟨a, ha, g, hz, ws, upd_same, rw'⟩
      · rw [List.getElem?_set_ne z] at q
        obtain ⟨b, h1, h2, h3⟩ := r.cel k c q
        have nb : b ≠ a := fun q2 => by
          subst q2
          have n1 := (List.getElem?_eq_some_iff.mp ha).1
          have n2 := (List.getElem?_eq_some_iff.mp h1).1
          exact z ((List.getElem?_inj n1 r.nd).mp (ha.trans h1.symm))
        refine ⟨b, h1, h2, ?_⟩
        unfold CelAt at *
        split at h3
        · obtain ⟨w, vs, q, r⟩ := h3
          exact ⟨w, vs, by rw [upd_ne nb]; exact q, r⟩
        · exact h3.elim
  exact
  { toHold := hd
    sl := r.sl
    val := r.val
    own := fun j e2 hj => by
      obtain ⟨b, h1, h2, h3, h4⟩ := r.own j e2 hj
      have nb : b ≠ a := fun q => h3 (q ▸ am)
      exact ⟨b, h1, h2, h3, h4.mono (fun _ _ q => q) (List.prefix_refl _) fun u q => by rw [upd_ne nb]; exact q⟩
    sep := r.sep
    x := ⟨r.x.g, r.x.p, fun b u q nb => by
      have z : b ≠ a := fun z => by
        subst z
        rcases r.x.pn b am with q2 | q2
        · exact nb q2
        · rw [q] at q2
          cases q2
      rw [upd_ne z]
      exact r.x.h b u q nb, r.x.gn, r.x.pn, fun b u q => by
      by_cases z : b = a
      · subst z
        exact ⟨_, upd_same⟩
      · rw [upd_ne z]
        exact r.x.d b u q⟩
    ab := r.ab
    fr := r.fr }
theorem RlS.onList {f : List D → Option (List D)} (r : RlS K B env S σ H G ρ) (ht : B.T i = true) (h : onList env i f S = .ok env' S') :
    ∃ a vs ds es, σ[i]? = some (some (.ref a)) ∧ H a = some (.lst vs) ∧ Reps K G ρ ds vs ∧ ds.length ≤ LIM ∧ f ds = some es ∧ ∀ ws, Reps K G ρ es ws → es.length ≤ LIM → RlS K B env' S' σ (upd H a (.lst ws)) G ρ := by
  unfold Ev.onList at h
  split at h
  · rename_i ds e
    split at h
    · rename_i es hf
      cases h
      obtain ⟨a, h1, h2, h3, z, vs, h4, h5⟩ := r.own i _ e
      exact ⟨a, vs, ds, es, h1, h4, h5, z, hf, fun ws rw' hz => r.ownUpd ht e h1 ⟨hz, ws, upd_same, rw'⟩⟩
    · cases h
  · rename_i n e
    split at h
    · rename_i ds hs
      split at h
      · rename_i es hf
        cases h
        obtain ⟨v, h1, a, rfl, h2⟩ := r.val i _ e
        obtain ⟨b, h3, _, c⟩ := r.cel n _ hs
        rw [h2] at h3
        cases h3
        obtain ⟨z, vs, h4, h5⟩ := c
        exact ⟨a, vs, ds, es, h1, h4, h5, z, hf, fun ws rw' hz => r.celUpd hs h2 rw' hz⟩
      · cases h
    · cases h
  · cases h
theorem onList_cases {f : List D → Option (List D)} : (∃ env', onList env i f S = .ok env' S ∨ ∃ n es, onList env i f S = .ok env' (S.set n (.lst es))) ∨ onList env i f S = .bad := by
  unfold onList
  split
  · split
    · exact .inl ⟨_, .inl rfl⟩
    · exact .inr rfl
  · split
    · split
      · exact .inl ⟨_, .inr ⟨_, _, rfl⟩⟩
      · exact .inr rfl
    · exact .inr rfl
  · exact .inr rfl
theorem onList_ok {f : List D → Option (List D)} : (∃ env' S', onList env i f S = .ok env' S') ∨ onList env i f S = .bad := by
  rcases onList_cases (env := env) (i := i) (f := f) (S := S) with ⟨e, h | ⟨n, es, h⟩⟩ | h
  · exact .inl ⟨_, _, h⟩
  · exact .inl ⟨_, _, h⟩
  · exact .inr h
/-- onList, then the next -/
theorem AftS.onList {f : List D → Option (List D)} {k : Envi → M Fl} (q : AftS K ca B W E G ρ (M.bnd (onList env i f) k S)) : ∃ env' S', onList env i f S = .ok env' S' ∧ AftS K ca B W E G ρ (k env' S') := by
  rcases q.split with ⟨x, S1, e, q⟩ | ⟨x, S1, e, q⟩
  · exact ⟨x, S1, e, q⟩
  · rcases onList_ok (env := env) (i := i) (f := f) (S := S) with ⟨e1, S2, h⟩ | h
    · rw [h] at e
      cases e
    · rw [h] at e
      cases e
theorem AftS.recv {k : Unit → M Fl} (q : AftS K ca B W E G ρ (M.bnd (recv env i) k S)) : recv env i S = .ok () S ∧ AftS K ca B W E G ρ (k () S) := by
  rcases recv_cases (env := env) (i := i) (S := S) with h | h
  · refine ⟨h, ?_⟩
    unfold M.bnd at q
    rw [h] at q
    exact q
  · unfold M.bnd at q
    rw [h] at q
    exact q.elim
theorem AftS.lift {α : Type} {o : Option α} {k : α → M Fl} (q : AftS K ca B W E G ρ (M.bnd (M.lift o) k S)) : ∃ d, o = some d ∧ AftS K ca B W E G ρ (k d S) := by
  cases o with
  | none => exact q.elim
  | some d => exact ⟨d, rfl, q⟩
end
theorem popD_ok {K : PySem.W.Frag} {B : Bse} {H G : Hp} {ρ : List Addr} {S S' : Sto} {env env' : Envi} {σ : L2.St} {i : Nat} {k d : D} (r : RlS K B env S σ H G ρ) (ht : B.T i = true) (h : popD env i k S = .ok (env', d) S') :
    ∃ a vs ds n m v, σ[i]? = some (some (.ref a)) ∧ H a = some (.lst vs) ∧ Reps K G ρ ds vs ∧ ds.length ≤ LIM ∧ k = .int n ∧ Ev.ixN ds.length n = some m ∧ vs[m]? = some v ∧ Rep K G ρ d v ∧ RlS K B env' S' σ (upd H a (.lst (vs.eraseIdx m))) G ρ := by
  have at_ : ∀ {ds es : List D}, popAt ds k = some (d, es) → ∃ n m, k = .int n ∧ Ev.ixN ds.length n = some m ∧ ds[m]? = some d ∧ es = ds.eraseIdx m := fun {ds es} h => by
    cases k with
    | int n =>
      have h : ((Ev.ixN ds.length n).bind fun j => (ds[j]?).map fun d => (d, ds.eraseIdx j)) = some (d, es) := h
      cases e : Ev.ixN ds.length n with
      | none => rw [e] at h; cases h
      | some m =>
        rw [e] at h
        have h : ((ds[m]?).map fun d => (d, ds.eraseIdx m)) = some (d, es) := h
        cases e2 : ds[m]? with
        | none => rw [e2] at h; cases h
        | some x =>
          rw [e2] at h
          cases h
          exact ⟨n, m, rfl, e, e2, rfl⟩
    | _ => cases h
  have le : ∀ (l : List D) (m : Nat), (l.eraseIdx m).length ≤ l.length := fun l m => by
    rw [List.length_eraseIdx]
    split <;> omega
  unfold popD at h
  split at h
  · rename_i ds e
    split at h
    · rename_i es hf
      cases h
      obtain ⟨n, m, h1, h2, h3, rfl⟩ := at_ hf
      obtain ⟨a, g1, g2, g3, z, vs, g4, g5⟩ := r.own i _ e
      obtain ⟨v, h4, h5⟩ := g5.get h3
      exact ⟨a, vs, ds, n, m, v, g1, g4, g5, z, h1, h2, h4, h5, r.ownUpd ht e g1 ⟨Nat.le_trans (le ds m) z, _, upd_same, g5.erase m⟩⟩
    · cases h
  · rename_i n e
    split at h
    · rename_i ds hs
      split at h
      · rename_i es hf
        cases h
        obtain ⟨n2, m, h1, h2, h3, rfl⟩ := at_ hf
        obtain ⟨v, g1, a, rfl, g2⟩ := r.val i _ e
        obtain ⟨b, g3, _, c⟩ := r.cel n _ hs
        rw [g2] at g3
        cases g3
        obtain ⟨z, vs, g4, g5⟩ := c
        obtain ⟨v, h4, h5⟩ := g5.get h3
        exact ⟨a, vs, ds, n2, m, v, g1, g4, g5, z, h1, h2, h4, h5, r.celUpd hs g2 (g5.erase m) (Nat.le_trans (le ds m) z)⟩
      · cases h
    · cases h
  · cases h
theorem RlS.popD {K : PySem.W.Frag} {B : Bse} {H G : Hp} {ρ : List Addr} {S S' : Sto} {env env' : Envi} {σ : L2.St} {i : Nat} {k d : D} (r : RlS K B env S σ H G ρ) (ht : B.T i = true) (h : Ev.popD env i k S = .ok (env', d) S') :
    ∃ a vs ds n m v, σ[i]? = some (some (.ref a)) ∧ H a = some (.lst vs) ∧ Reps K G ρ ds vs ∧ ds.length ≤ LIM ∧ k = .int n ∧ Ev.ixN ds.length n = some m ∧ vs[m]? = some v ∧ Rep K G ρ d v ∧ RlS K B env' S' σ (upd H a (.lst (vs.eraseIdx m))) G ρ := popD_ok r ht h
theorem AftS.popD {K : PySem.W.Frag} {ca : Nat → Value} {B : Bse} {W : WX} {G : Hp} {ρ : List Addr} {S : Sto} {env : Envi} {E : Ends} {i : Nat} {k : D} {f : Envi × D → M Fl} (q : AftS K ca B W E G ρ (M.bnd (Ev.popD env i k) f S)) : ∃ env' d S', Ev.popD env i k S = .ok (env', d) S' ∧ AftS K ca B W E G ρ (f (env', d) S') := by
  rcases q.split with ⟨x, S1, e, q⟩ | ⟨x, S1, e, q⟩
  · exact ⟨x.1, x.2, S1, e, q⟩
  · unfold Ev.popD at e
    split at e
    · split at e <;> cases e
    · split at e
      · split at e <;> cases e
      · cases e
    · cases e
section
variable {X : Cx} {ca : Nat → Value} {B : Bse} {W : WX} {F : Fns} {Wn : Nat} {st : Stmt} {e a b c : Expr} {e' a' b' c' k' : E} {p p2 pos spos apos cpos : Pos} {i j : Nat} {y z : Str}
/-- what a method call with one argument asks of its texts -/
structure MOk (X : Cx) (o e : Expr) (name : Str) (apos cpos : Pos) : Prop where
  base : attributeBase o name X.env (eval o X.env) = eval o X.env
  few : ((backTo cpos (starEach [e] X.env)).all (fun x => !x.1) && (backToKw cpos (keywordEach [] X.env)).all (fun x => x.1.isSome)
      && decide ([e].length + ([] : List Keyword).length + (if ([] : List Keyword).isEmpty then 0 else 1) < 30)) = true
  line : (apos.endLine == cpos.line) = true
  star : starEach [e] X.env = (false, eval e X.env) :: starEach [] X.env
  plain : (backTo cpos (starEach [] X.env)).any (·.1) = false
theorem seqI_of {n : Nat} {k : Int} {j : Nat} (h : Ev.ixN n k = some j) (hn : n ≤ LIM) : seqIndex? k n = some j ∧ -(2 ^ 63) ≤ k ∧ k < 2 ^ 63 ∧ j < n := by
  have hL : LIM = 16777216 := rfl
  unfold Ev.ixN at h
  unfold seqIndex?
  split at h
  · split at h
    · cases h
      have h1 : (if k < 0 then k + (n : Int) else k) = k := if_neg (by omega)
      refine ⟨?_, by omega, by omega, by omega⟩
      simp only [h1]
      rw [if_pos (by simp; omega)]
    · cases h
  · split at h
    · cases h
      have h1 : (if k < 0 then k + (n : Int) else k) = k + n := if_pos (by omega)
      refine ⟨?_, by omega, by omega, by omega⟩
      simp only [h1]
      rw [if_pos (by simp; omega)]
    · cases h
theorem s_app (ht : B.T i = true) (hi : X.N[i]? = some y) (hv : Vis X.env.scope y) (h1 : (y == ("__debug__" : Str)) = false) (h2 : (y == ("__classdict__" : Str)) = false) (he : PE X e (DE X ca W F false e')) (mo : MOk X (.Name y p) e "append" apos cpos) :
    PS X (.Expr (.Call (.Attribute (.Name y p) "append" apos) [e] [] cpos) spos) (DSt X ca B W F Wn (.app i e')) := by
  refine PS.imp (ps_expr (pe_bm PySem.F.plainAttrs_list PySem.F.slot_list_append PySem.F.type_list_append mt_append (pe_var hi hv h1 h2) (pa_cons he pa_nil mo.star) mo.base mo.few mo.line mo.star mo.plain) rfl) fun E σ H q => ?_
  obtain ⟨env, S, G, ρ, rl, q⟩ := q
  have q : AftS X.K ca B W E G ρ (M.bnd (recv env i) (fun _ => M.bnd (ev F e' env) fun d => M.bnd (appD env i d) fun env => M.ret (.nx env)) S) := q
  obtain ⟨hr, q⟩ := q.recv
  obtain ⟨_, a, vs, hs, ha⟩ := recv_ok rl.toRl hr
  refine ⟨_, hs, .inl ⟨rfl, vs, SqL.of ha⟩, ?_⟩
  refine DS.one (m := ev F e') (k := fun env d => M.bnd (appD env i d) fun env => M.ret (.nx env)) ⟨env, S, G, ρ, rl, q⟩ fun env S H2 G2 ρ2 d v rl r q => ?_
  obtain ⟨env', S', ho, q⟩ := AftS.onList q
  obtain ⟨b, ws, ds, es, h3, h4, h5, h6, h7, h8⟩ := rl.onList ht ho
  rw [hs] at h3
  cases h3
  split at h7
  · rename_i hz
    cases h7
    refine ⟨a, ws, v, rfl, rfl, h4, by rw [h5.length, ← LIM_eq]; exact hz, ?_⟩
    exact q σ _ _ _ (h8 _ (h5.append (.cons r .nil)) (by rw [List.length_append]; exact hz)) .refl
  · cases h7
theorem s_pop {bo : Bool} (ht : B.T i = true) (hi : X.N[i]? = some y) (hv : Vis X.env.scope y) (h1 : (y == ("__debug__" : Str)) = false) (h2 : (y == ("__classdict__" : Str)) = false) (he : PE X e (DE X ca W F bo k')) (mo : MOk X (.Name y p) e "pop" apos cpos) :
    PS X (.Expr (.Call (.Attribute (.Name y p) "pop" apos) [e] [] cpos) spos) (DSt X ca B W F Wn (.pop i k')) := by
  refine PS.imp (ps_expr (pe_bm PySem.F.plainAttrs_list PySem.F.slot_list_pop PySem.F.type_list_pop mt_popAt (pe_var hi hv h1 h2) (pa_cons he pa_nil mo.star) mo.base mo.few mo.line mo.star mo.plain) rfl) fun E σ H q => ?_
  obtain ⟨env, S, G, ρ, rl, q⟩ := q
  have q : AftS X.K ca B W E G ρ (M.bnd (recv env i) (fun _ => M.bnd (ev F k' env) fun k => M.bnd (popD env i k) fun r => M.ret (.nx r.1)) S) := q
  obtain ⟨hr, q⟩ := q.recv
  obtain ⟨_, a, vs, hs, ha⟩ := recv_ok rl.toRl hr
  refine ⟨_, hs, .inl ⟨rfl, vs, SqL.of ha⟩, ?_⟩
  refine DS.one (m := ev F k') (k := fun env k => M.bnd (popD env i k) fun r => M.ret (.nx r.1)) ⟨env, S, G, ρ, rl, q⟩ fun env S H2 G2 ρ2 d v rl r q => ?_
  obtain ⟨env', d2, S', ho, q⟩ := AftS.popD q
  obtain ⟨b, ws, ds, n, m, v2, h3, h4, h5, hz, ek, h7, h8, h9, r1⟩ := rl.popD ht ho
  rw [ek] at r
  rw [hs] at h3
  cases h3
  cases (show v = V.int n from r.rw.see.int)
  obtain ⟨k1, k2, k3, k4⟩ := seqI_of h7 hz
  refine ⟨a, ws, n, m, v2, rfl, rfl, h4, k2, k3, by rw [h5.length]; exact k1, h8, ?_⟩
  exact q σ _ _ _ r1 .refl
/-- i.append(j.pop(k)) -/
theorem s_apppop {bo : Bool} {ap2 cp2 : Pos} (ht : B.T i = true) (htj : B.T j = true) (hij : i ≠ j) (hi : X.N[i]? = some y) (hv : Vis X.env.scope y) (h1 : (y == ("__debug__" : Str)) = false) (h2 : (y == ("__classdict__" : Str)) = false) (hj : X.N[j]? = some z) (hvz : Vis X.env.scope z) (h1z : (z == ("__debug__" : Str)) = false) (h2z : (z == ("__classdict__" : Str)) = false)
    (he : PE X e (DE X ca W F bo k')) (mo2 : MOk X (.Name z p2) e "pop" ap2 cp2) (mo : MOk X (.Name y p) (.Call (.Attribute (.Name z p2) "pop" ap2) [e] [] cp2) "append" apos cpos) :
    PS X (.Expr (.Call (.Attribute (.Name y p) "append" apos) [.Call (.Attribute (.Name z p2) "pop" ap2) [e] [] cp2] [] cpos) spos) (DSt X ca B W F Wn (.apppop i j k')) := by
  refine PS.imp (ps_expr (pe_bm PySem.F.plainAttrs_list PySem.F.slot_list_append PySem.F.type_list_append mt_append (pe_var hi hv h1 h2) (pa_cons (pe_bm PySem.F.plainAttrs_list PySem.F.slot_list_pop PySem.F.type_list_pop mt_popAt (pe_var hj hvz h1z h2z) (pa_cons he pa_nil mo2.star) mo2.base mo2.few mo2.line mo2.star mo2.plain) pa_nil mo.star) mo.base mo.few mo.line mo.star mo.plain) rfl) fun E σ H q => ?_
  obtain ⟨env, S, G, ρ, rl, q⟩ := q
  have q : AftS X.K ca B W E G ρ (M.bnd (recv env i) (fun _ => M.bnd (recv env j) fun _ => M.bnd (ev F k' env) fun k => M.bnd (popD env j k) fun r => M.bnd (appD r.1 i r.2) fun env => M.ret (.nx env)) S) := q
  obtain ⟨hr, q⟩ := q.recv
  obtain ⟨hrj, q⟩ := AftS.recv (k := fun _ => M.bnd (ev F k' env) fun k => M.bnd (popD env j k) fun r => M.bnd (appD r.1 i r.2) fun env => M.ret (.nx env)) q
  obtain ⟨_, a, vs, hs, ha⟩ := recv_ok rl.toRl hr
  obtain ⟨_, aj, vsj, hsj, haj⟩ := recv_ok rl.toRl hrj
  refine ⟨_, hs, .inl ⟨rfl, vs, SqL.of ha⟩, _, hsj, .inl ⟨rfl, vsj, SqL.of haj⟩, ?_⟩
  refine DS.one (m := ev F k') (k := fun env k => M.bnd (popD env j k) fun r => M.bnd (appD r.1 i r.2) fun env => M.ret (.nx env)) ⟨env, S, G, ρ, rl, q⟩ fun env S H2 G2 ρ2 d v rl r q => ?_
  obtain ⟨env1, d1, S1, ho, q⟩ := AftS.popD q
  obtain ⟨b, ws, ds, n, m, v2, h3, h4, h5, hz, ek, h7, h8, h9, r1⟩ := rl.popD htj ho
  rw [ek] at r
  rw [hsj] at h3
  cases h3
  cases (show v = V.int n from r.rw.see.int)
  obtain ⟨k1, k2, k3, k4⟩ := seqI_of h7 hz
  refine ⟨aj, ws, n, m, v2, rfl, rfl, h4, k2, k3, by rw [h5.length]; exact k1, h8, ?_⟩
  obtain ⟨env2, S2, ho2, q⟩ := AftS.onList q
  obtain ⟨b2, ws2, ds2, es2, g3, g4, g5, g6, g7, g8⟩ := r1.onList ht ho2
  rw [hs] at g3
  cases g3
  split at g7
  · rename_i hz2
    cases g7
    refine ⟨a, ws2, v2, rfl, rfl, g4, by rw [g5.length, ← LIM_eq]; exact hz2, ?_⟩
    exact q σ _ _ _ (g8 _ (g5.append (.cons h9 .nil)) (by rw [List.length_append]; exact hz2)) .refl
  · cases g7
/-- xs.extend(ys) -/
theorem meets_extend (l : Addr) (items : Array Value) (n : Nat) (b : Addr) (items2 : Array Value) (n2 : Nat) (dct : Option Addr) (sl : Array (Option Value)) (hc0 : ¬(!items.isEmpty && Builtin.List.listTooLong (items.size + items2.size)) = true) (hc1 : items.size ≤ sizeLine) (hs2 : items.size + items2.size ≤ sizeLine + 1) :
    Meets (Builtin.«list.extend» ⟨[.ref l, .ref b], []⟩) (fun _ R s => s.heap.get? l = some { cls := .type "list", dict := none, data := .seq items n, slots := #[] } ∧ s.heap.get? b = some { cls := .type "list", dict := dct, data := .seq items2 n2, slots := sl } ∧ R (.ok (.ret Value.none)) { s with heap := s.heap.update l (Obj.mapSeq fun x => x ++ items2), toks := s.toks }) :=
  .of_wp fun prog w A R s h => by
    obtain ⟨hp, g, d, tk, os⟩ := s
    obtain ⟨hl, hb, h⟩ := h
    have f1 := AutoSeq1.idx_int
    have f2 := AutoSeq1.sub_tuple_tuple
    have f3 := AutoSeq1.sub_list_list
    have f4 := AutoSeq1.sub_tuple_list
    have f5 := AutoSeq1.sub_list_tuple
    have hz' : (items ++ items2).size ≤ sizeLine + 1 := by
      rw [Array.size_append]
      exact hs2
    wp_walk using (wpAny_updateSeq hl rfl (hz := hc1) (_hz' := hz')), AutoSeq1.wpAny_loadPart' hl, AutoSeq1.wpAny_loadPart' hb
    exact ⟨_, rfl, h⟩
theorem meets_iadd (l : Addr) (items : Array Value) (n : Nat) (b : Addr) (items2 : Array Value) (n2 : Nat) (dct : Option Addr) (sl : Array (Option Value)) (hs0 : ¬(!items.isEmpty && Builtin.List.listTooLong (items.size + items2.size)) = true) (hs1 : items.size ≤ sizeLine) (hs2 : items.size + items2.size ≤ sizeLine + 1) :
    Meets (Builtin.«list.__iadd__» ⟨[.ref l, .ref b], []⟩) (fun _ R s => s.heap.get? l = some { cls := .type "list", dict := none, data := .seq items n, slots := #[] } ∧ s.heap.get? b = some { cls := .type "list", dict := dct, data := .seq items2 n2, slots := sl } ∧ R (.ok (.ret (Value.ref l))) { s with heap := s.heap.update l (Obj.mapSeq fun x => x ++ items2), toks := s.toks }) :=
  .of_wp fun prog w A R s h => by
    obtain ⟨hp, g, d, tk, os⟩ := s
    obtain ⟨hl, hb, h⟩ := h
    have f1 := AutoSeq1.idx_int
    have f2 := AutoSeq1.sub_tuple_tuple
    have f3 := AutoSeq1.sub_list_list
    have f4 := AutoSeq1.sub_tuple_list
    have f5 := AutoSeq1.sub_list_tuple
    have hz' : (items ++ items2).size ≤ sizeLine + 1 := by
      rw [Array.size_append]
      exact hs2
    wp_walk using (wpAny_updateSeq hl rfl (hz := hs1) (_hz' := hz')), AutoSeq1.wpAny_loadPart' hl, AutoSeq1.wpAny_loadPart' hb
    exact ⟨_, rfl, h⟩
def rExtD (K : PySem.W.Frag) : V → List V → Hp → VK → Prop := fun x vs H Q => ∃ l b xs zs, x = .ref l ∧ vs = [.ref b] ∧ H l = some (.lst xs) ∧ SqL K H b zs ∧ xs.length + zs.length ≤ sizeLine ∧ Q .non (upd H l (.lst (xs ++ zs)))
theorem ext_pre {X : Cx} {pins : List (Addr × Obj)} {s : Shared} {σ : L2.St} {H : Hp} {l b : Addr} {xs zs : List V} (I : Inv X pins σ H s) (hH : H l = some (.lst xs)) (hB : SqL X.K H b zs) (hz : xs.length + zs.length ≤ sizeLine) :
    ∃ (its its2 : List Value) (n n2 : Nat) (dct : Option Addr) (sl : Array (Option Value)), s.heap.get? l = some { cls := .type "list", dict := none, data := .seq its.toArray n, slots := #[] } ∧ s.heap.get? b = some { cls := .type "list", dict := dct, data := .seq its2.toArray n2, slots := sl } ∧ Vals xs its ∧ Vals zs its2 ∧
      ¬ (!its.toArray.isEmpty && Builtin.List.listTooLong (its.toArray.size + its2.toArray.size)) = true ∧ its.toArray.size ≤ sizeLine ∧ its.toArray.size + its2.toArray.size ≤ sizeLine + 1 ∧
      ∀ t, Inv X pins σ (upd H l (.lst (xs ++ zs))) { s with heap := s.heap.update l (Obj.mapSeq fun x => x ++ its2.toArray), toks := t } := by
  obtain ⟨z, its, n, r, hl, e⟩ := I.lstM hH
  obtain ⟨its2, r2, ⟨⟨cl, dct, dd, sl⟩, n2, e2, hc, hd, hs⟩, hz2⟩ := I.list hB
  replace hc : cl = .type "list" := hc
  replace hs : dd = .seq its2.toArray n2 := hs
  subst hc hs
  have hl2 := r2.length
  have hsz : its.toArray.size + its2.toArray.size ≤ sizeLine := by
    rw [List.size_toArray, List.size_toArray]
    omega
  refine ⟨its, its2, n, n2, dct, sl, e, e2, r, r2, ?_, ?_, by omega, fun t => I.lset (its' := its ++ its2) (t' := t) hH e (by simp) (r.append r2) ?_⟩
  · rw [notLongL hsz, Bool.and_false]
    exact Bool.false_ne_true
  · rw [List.size_toArray]
    omega
  · rw [List.length_append]
    omega
theorem mt_extendD : MtM X "list.extend" (rExtD X.K) := by
  intro pins s σ H x vs v us Q I rx rv h
  obtain ⟨l, b, xs, zs, rfl, rfl, hH, hB, hz, q⟩ := h
  cases rx
  obtain ⟨u, rfl, ru⟩ := rv.one
  cases ru
  obtain ⟨its, its2, n, n2, dct, sl, e, e2, r, r2, h1, h2, h3, h4⟩ := ext_pre I hH hB hz
  exact call_meets PySem.F.slot_list_extend ⟨_, e, rfl⟩ PySem.F.entry_list_extend (PySem.F.args_list_extend_2 _ _) (meets_extend l its.toArray n b its2.toArray n2 dct sl h1 h2 h3) ⟨e, e2, .non, _, h4 _, rfl, q⟩
def rExt2D (K : PySem.W.Frag) : R2 := fun x y H Q => ∃ l b xs zs, x = .ref l ∧ y = .ref b ∧ H l = some (.lst xs) ∧ SqL K H b zs ∧ xs.length + zs.length ≤ sizeLine ∧ Q (.ref l) (upd H l (.lst (xs ++ zs)))
theorem iop_extD : OpR X (inplaceOp .Add) (rExt2D X.K) := by
  intro pins s σ H x y v u Q I rx ry h
  obtain ⟨l, b, xs, zs, rfl, rfl, hH, hB, hz, q⟩ := h
  cases rx
  cases ry
  obtain ⟨its, its2, n, n2, dct, sl, e, e2, r, r2, h1, h2, h3, h4⟩ := ext_pre I hH hB hz
  exact iadd_road ⟨_, e, rfl⟩ ⟨_, e2, rfl⟩ (call_meets PySem.F.slot_list_iadd ⟨_, e, rfl⟩ PySem.F.entry_list_iadd (PySem.F.args_list_iadd_2 _ _) (meets_iadd l its.toArray n b its2.toArray n2 dct sl h1 h2 h3) ⟨e, e2, .ref l, _, h4 _, rfl, q⟩)
theorem ext_go {E : Ends} {σ : L2.St} {H2 G2 : Hp} {ρ2 : List Addr} {env : Envi} {S : Sto} {d : D} {v : V} {a : Addr} (ht : B.T i = true) (rl : RlS X.K B env S σ H2 G2 ρ2) (hs : σ[i]? = some (some (.ref a))) (r : RW X.K H2 G2 ρ2 d v) (q : AftS X.K ca B W E G2 ρ2 (M.bnd (extD env i d) (fun env => M.ret (.nx env)) S)) :
    ∃ b xs zs, v = .ref b ∧ H2 a = some (.lst xs) ∧ SqL X.K H2 b zs ∧ xs.length + zs.length ≤ sizeLine ∧ E.nx σ (upd H2 a (.lst (xs ++ zs))) := by
  cases d with
  | lst es =>
    obtain ⟨env', S', ho, q⟩ := AftS.onList q
    obtain ⟨b, ws, ds, es', h3, h4, h5, h6, h7, h8⟩ := rl.onList ht ho
    rw [hs] at h3
    cases h3
    split at h7
    · rename_i hz
      cases h7
      have hv : ∃ b zs, v = .ref b ∧ SqL X.K H2 b zs ∧ Reps X.K G2 ρ2 es zs := by
        rcases r with ⟨_, b, zs, e1, e2, e3⟩ | ⟨b, e1, _, _, _, zs, e2, e3⟩
        · exact ⟨b, zs, e1, sqL_mono rl.gh e2, e3⟩
        · exact ⟨b, zs, e1, SqL.of e2, e3⟩
      obtain ⟨b, zs, e1, e2, e3⟩ := hv
      refine ⟨b, ws, zs, e1, h4, e2, by rw [h5.length, e3.length, ← LIM_eq]; exact hz, ?_⟩
      exact q σ _ _ _ (h8 _ (h5.append e3) (by rw [List.length_append]; exact hz)) .refl
    · cases h7
  | _ => exact q.elim
theorem s_ext {bo : Bool} (ht : B.T i = true) (hi : X.N[i]? = some y) (hv : Vis X.env.scope y) (h1 : (y == ("__debug__" : Str)) = false) (h2 : (y == ("__classdict__" : Str)) = false) (he : PE X e (DE X ca W F bo e')) (mo : MOk X (.Name y p) e "extend" apos cpos) :
    PS X (.Expr (.Call (.Attribute (.Name y p) "extend" apos) [e] [] cpos) spos) (DSt X ca B W F Wn (.ext i e')) := by
  refine PS.imp (ps_expr (pe_bm PySem.F.plainAttrs_list PySem.F.slot_list_extend PySem.F.type_list_extend mt_extendD (pe_var hi hv h1 h2) (pa_cons he pa_nil mo.star) mo.base mo.few mo.line mo.star mo.plain) rfl) fun E σ H q => ?_
  obtain ⟨env, S, G, ρ, rl, q⟩ := q
  have q : AftS X.K ca B W E G ρ (M.bnd (recv env i) (fun _ => M.bnd (ev F e' env) fun d => M.bnd (extD env i d) fun env => M.ret (.nx env)) S) := q
  obtain ⟨hr, q⟩ := q.recv
  obtain ⟨_, a, vs, hs, ha⟩ := recv_ok rl.toRl hr
  refine ⟨_, hs, .inl ⟨rfl, vs, SqL.of ha⟩, ?_⟩
  refine DS.one (m := ev F e') (k := fun env d => M.bnd (extD env i d) fun env => M.ret (.nx env)) ⟨env, S, G, ρ, rl, q⟩ fun env S H2 G2 ρ2 d v rl r q => ?_
  obtain ⟨b, xs, zs, rfl, e1, e2, e3, q⟩ := ext_go ht rl hs r.rw q
  exact ⟨a, b, xs, zs, rfl, rfl, e1, e2, e3, q⟩
/-- xs += ys -/
theorem s_augL {bo : Bool} (ht : B.T i = true) (hN : X.N.Nodup) (hi : X.N[i]? = some y) (hx : Loc X.env.scope y) (hf : X.fn y = true ∨ X.env.scope.names.lookup y = some .local) (he : PE X e (DE X ca W F bo e')) : PS X (.AugAssign (.Name y p) .Add e spos) (DSt X ca B W F Wn (.ext i e')) := by
  refine PS.imp (ps_aug hN hi hx he iop_extD hf) fun E σ H q => ?_
  obtain ⟨env, S, G, ρ, rl, q⟩ := q
  have q : AftS X.K ca B W E G ρ (M.bnd (recv env i) (fun _ => M.bnd (ev F e' env) fun d => M.bnd (extD env i d) fun env => M.ret (.nx env)) S) := q
  obtain ⟨hr, q⟩ := q.recv
  obtain ⟨_, a, vs, hs, ha⟩ := recv_ok rl.toRl hr
  refine ⟨_, hs, ?_⟩
  refine DS.one (m := ev F e') (k := fun env d => M.bnd (extD env i d) fun env => M.ret (.nx env)) ⟨env, S, G, ρ, rl, q⟩ fun env S H2 G2 ρ2 d v rl r q => ?_
  obtain ⟨b, xs, zs, rfl, e1, e2, e3, q⟩ := ext_go ht rl hs r.rw q
  refine ⟨a, b, xs, zs, rfl, rfl, e1, e2, e3, ?_⟩
  have e4 : σ.set i (some (.ref a)) = σ := by
    apply List.ext_getElem?
    intro j
    by_cases z : i = j
    · subst z
      have hl : i < σ.length := (List.getElem?_eq_some_iff.mp hs).1
      rw [List.getElem?_set_self hl, hs]
    · rw [List.getElem?_set_ne z]
  show E.nx (σ.set i (some (.ref a))) _
  rw [e4]
  exact q
def rAug (K : PySem.W.Frag) (o : Bop) : TIp := fun x y H Q => ∃ d e z S G ρ, Hold K S H G ρ ∧ RS K H G ρ d x ∧ RS K H G ρ e y ∧ augD o d e = some z ∧ ∀ v, Rep K G ρ z v → Q v H
theorem aug_ok (o : Bop) : PIp X o.op (rAug X.K o) := by
  intro pins s σ H x y v u Q I rx ry h
  obtain ⟨d, e, z, S, G, ρ, hd, r1, r2, hz, q⟩ := h
  unfold augD at hz
  split at hz
  · cases hz
    cases r1.int
    cases r2.int
    exact iop_add pins s σ H _ _ v u Q I rx ry ⟨_, _, rfl, rfl, q _ rfl⟩
  · cases hz
    cases r1.int
    cases r2.int
    exact iop_sub pins s σ H _ _ v u Q I rx ry ⟨_, _, rfl, rfl, q _ rfl⟩
  · split at hz
    · rename_i hl
      cases hz
      cases r1.str
      cases r2.str
      exact iop_add_str pins s σ H _ _ v u Q I rx ry ⟨_, _, rfl, rfl, by rw [← LIM_eq]; exact hl, q _ rfl⟩
    · cases hz
  · cases hz
theorem s_aug {o : Bop} {bo : Bool} (ht : B.T i = true) (hN : X.N.Nodup) (hi : X.N[i]? = some y) (hx : Loc X.env.scope y) (hf : X.fn y = true ∨ X.env.scope.names.lookup y = some .local) (he : PE X e (DE X ca W F bo e')) : PS X (.AugAssign (.Name y p) o.op e spos) (DSt X ca B W F Wn (.aug i o e')) := by
  refine PS.imp (ps_aug hN hi hx he (aug_ok o) hf) fun E σ H q => ?_
  obtain ⟨env, S, G, ρ, rl, q⟩ := q
  have q : AftS X.K ca B W E G ρ (M.bnd (M.lift (getV env i)) (fun x => M.bnd (ev F e' env) fun d => M.bnd (M.lift (augD o x d)) fun z => M.ret (.nx (env.set i (.val z)))) S) := q
  obtain ⟨x, hx, q⟩ := AftS.lift q
  have gv : ∃ v, σ[i]? = some (some v) ∧ RW X.K H G ρ x v := by
    unfold getV at hx
    split at hx
    · rename_i e
      cases hx
      obtain ⟨v, h1, h2⟩ := rl.val i _ e
      exact ⟨v, h1, .inl h2⟩
    · rename_i e
      cases hx
      obtain ⟨a, h1, h2⟩ := rl.own i _ e
      exact ⟨_, h1, .inr ⟨a, rfl, h2⟩⟩
    · cases hx
  obtain ⟨v, hv, rv⟩ := gv
  refine ⟨v, hv, env, S, G, ρ, rl.toRl, ?_⟩
  rcases q.split with ⟨d, S1, e1, q⟩ | ⟨x, S1, e1, q⟩
  · rw [e1]
    intro w H2 G2 ρ2 x2 hd2 r
    obtain ⟨z, hz, q⟩ := AftS.lift q
    refine ⟨x, d, z, S1, G2, ρ2, hd2, (rv.mono x2).see, r.rw.see, hz, fun v2 r2 => ?_⟩
    exact q _ _ _ _ ((rl.ext x2 hd2).set ht r2) x2.lat
  · rw [e1]
    exact fun H2 G2 ρ2 x2 hd2 cls dx xr => q env σ H2 G2 ρ2 (rl.ext x2 hd2) x2.lat cls dx xr
end
end Ev

set_option Elab.async false
set_option linter.all false
set_option maxRecDepth 100000
set_option maxHeartbeats 2000000
/-! x[k] = e; a, b = x, y; dict displays. -/
namespace Ev
open PySem PySem.Spec PyProof.Rows L2
section
variable {K : PySem.W.Frag} {H G : Hp} {ρ : List Addr}
theorem keys_are : ∀ {ks : List D} {kvs : List (L2.Key × V)}, Reps K G ρ ks (kvs.map fun p => kV p.1) → ks = kvs.map fun p => keyD p.1
  | [], [], _ => rfl
  | [], p :: kvs, h => by cases h
  | k :: ks, [], h => by
    obtain ⟨v, r, e, _⟩ := h
    cases e
  | k :: ks, p :: kvs, h => by
    obtain ⟨v, r, e, h1, h2⟩ := h
    cases e
    rw [rep_key h1, keys_are h2]
    rfl
theorem any_keys (k : L2.Key) : ∀ kvs : List (L2.Key × V), ((kvs.map fun p => keyD p.1).any fun x => D.eqv x (keyD k)) = kvs.any fun kv => decide (kv.1 = k)
  | [] => rfl
  | p :: kvs => by
    rw [List.map_cons, List.any_cons, List.any_cons, any_keys k kvs, eqv_keyD]
theorem repl_reps {k : L2.Key} {e : D} {v : V} (r : Rep K G ρ e v) : ∀ {vs : List D} {kvs : List (L2.Key × V)}, Reps K G ρ vs (kvs.map fun p => p.2) → Reps K G ρ (replD (kvs.map fun p => keyD p.1) vs (keyD k) e) ((kvs.map fun kv => if kv.1 = k then (kv.1, v) else kv).map fun p => p.2)
  | [], [], _ => rfl
  | [], p :: kvs, h => by cases h
  | w :: vs, [], h => by
    obtain ⟨v, r, e, _⟩ := h
    cases e
  | w :: vs, p :: kvs, h => by
    obtain ⟨x, rr, ex, h1, h2⟩ := h
    cases ex
    refine ⟨_, _, rfl, ?_, repl_reps r h2⟩
    dsimp only
    rw [eqv_keyD]
    by_cases z : p.1 = k
    · rw [if_pos z, if_pos (by simpa using z)]
      exact r
    · rw [if_neg z, if_neg (by simpa using z)]
      exact h1
theorem put_reps {ks ws : List D} {kvs : List (L2.Key × V)} {k : L2.Key} {e : D} {v : V} (h1 : Reps K G ρ ks (kvs.map fun p => kV p.1)) (h2 : Reps K G ρ ws (kvs.map fun p => p.2)) (r : Rep K G ρ e v) :
    Reps K G ρ (putD ks ws (keyD k) e).1 ((putK kvs k v).map fun p => kV p.1) ∧ Reps K G ρ (putD ks ws (keyD k) e).2 ((putK kvs k v).map fun p => p.2) := by
  have ek := keys_are h1
  unfold putD putK
  by_cases c : (kvs.any fun kv => decide (kv.1 = k)) = true
  · have c' : (ks.any fun x => D.eqv x (keyD k)) = true := by rw [ek, any_keys]; exact c
    rw [if_pos c, if_pos c']
    refine ⟨?_, ?_⟩
    · have e2 : ((kvs.map fun kv => if kv.1 = k then (kv.1, v) else kv).map fun p => kV p.1) = kvs.map fun p => kV p.1 := by
        rw [List.map_map]
        apply List.map_congr_left
        intro p _
        simp only [Function.comp]
        split <;> rfl
      rw [e2]
      exact h1
    · rw [ek]
      exact repl_reps r h2
  · have c' : ¬ (ks.any fun x => D.eqv x (keyD k)) = true := by rw [ek, any_keys]; exact c
    rw [if_neg c, if_neg c', List.map_append, List.map_append]
    exact ⟨h1.append (.cons (rep_keyD k) .nil), h2.append (.cons r .nil)⟩
theorem put_len {ks ws : List D} {k e : D} : (putD ks ws k e).1.length ≤ ks.length + 1 := by
  unfold putD
  split
  · exact Nat.le_succ _
  · rw [List.length_append]
    exact Nat.le_refl _
end
def rDPut : TSet := fun o i v H Q => ∃ a H', o = .ref a ∧ DPut H a i v H' ∧ Q H'
section
variable {X : Cx} {ca : Nat → Value} {B : Bse} {W : WX} {F : Fns} {Wn : Nat} {st : Stmt} {e a b c : Expr} {e' a' b' c' k' : E} {p p2 pos spos apos cpos : Pos} {i j : Nat} {y z : Str}
theorem set_dict (hu : X.A.units + 1 < cLine) : PSet X rDPut := by
  intro pins s σ H o i v ov iv u Q I ro ri rv h
  obtain ⟨a, H', rfl, g, q⟩ := h
  cases ro
  exact d_setItem hu I g ri rv fun s4 I4 => ⟨H', I4, q⟩
theorem PSet.or {t t' : TSet} (h : PSet X t) (h' : PSet X t') : PSet X (fun o i v H Q => t o i v H Q ∨ t' o i v H Q) := by
  intro pins s σ H o i v ov iv u Q I ro ri rv q
  exact q.elim (h pins s σ H o i v ov iv u Q I ro ri rv) (h' pins s σ H o i v ov iv u Q I ro ri rv)
theorem ixN_same (n : Nat) (i : Int) (j : Nat) (hn : n ≤ LIM) (h : Ev.ixN n i = some j) : L2.ixN n i = some j := by
  unfold L2.ixN
  unfold Ev.ixN at h
  split at h
  · split at h
    · rename_i h1 h2
      cases h
      simp [h1, h2]
    · cases h
  · split at h
    · rename_i h1 h2
      cases h
      simp [h1, h2]
    · cases h
theorem set_go {E : Ends} {σ : L2.St} {H G : Hp} {ρ : List Addr} {env : Envi} {S : Sto} {d k : D} {o v x : V} (ht : B.T i = true) (rl : RlS X.K B env S σ H G ρ) (hs : σ[i]? = some (some o)) (r : Rep X.K G ρ d x) (rk : RW X.K H G ρ k v) (q : AftS X.K ca B W E G ρ (M.bnd (setD env i k d) (fun env => M.ret (.nx env)) S)) :
    rSetL o v x H (fun H3 => E.nx σ H3) ∨ rDPut o v x H (fun H3 => E.nx σ H3) := by
  have lst : (∀ (j : Int), k = .int j → AftS X.K ca B W E G ρ (M.bnd (onList env i fun ds => (Ev.ixN ds.length j).map fun j => ds.set j d) (fun env => M.ret (.nx env)) S) → rSetL o v x H (fun H3 => E.nx σ H3)) := fun j ek q1 => by
    have ev : v = V.int j := by
      rw [ek] at rk
      exact rk.see.int
    subst ev
    obtain ⟨env', S', ho, q⟩ := AftS.onList q1
    obtain ⟨b, ws, ds, es, h3, h4, h5, h6, h7, h8⟩ := rl.onList ht ho
    rw [hs] at h3
    cases h3
    cases e1 : Ev.ixN ds.length j with
    | none => rw [e1] at h7; cases h7
    | some m =>
      rw [e1] at h7
      cases h7
      exact ⟨b, ws, j, m, rfl, rfl, h4, by rw [h5.length]; exact ixN_same _ _ _ h6 e1, q σ _ _ _ (h8 _ (h5.set m r) (by rw [List.length_set]; exact h6)) .refl⟩
  have dic : (∀ ks ws, env[i]? = some (.own (.dic ks ws)) → AftS X.K ca B W E G ρ (M.bnd (if isKey k && decide (ks.length < LIM) then M.ret (env.set i (.own (.dic (putD ks ws k d).1 (putD ks ws k d).2))) else M.bad) (fun env => M.ret (.nx env)) S) → rDPut o v x H (fun H3 => E.nx σ H3)) := fun ks ws e q1 => by
    split at q1
    · rename_i hc
      simp only [Bool.and_eq_true, decide_eq_true_eq] at hc
      obtain ⟨key, ek⟩ := key_is hc.1
      rw [ek] at rk q1
      have ev : v = kV key := rwk rk.see
      subst ev
      obtain ⟨a, h1, h2, h3, hz, kvs, h4, h5, h6⟩ := rl.own i _ e
      rw [hs] at h1
      cases h1
      obtain ⟨p1, p2⟩ := put_reps (k := key) h5 h6 r
      have hl : kvs.length < sizeLine := by
        have := h5.length
        rw [List.length_map] at this
        rw [this, ← LIM_eq]
        exact hc.2
      refine ⟨a, _, rfl, DPut.k h4 hl, ?_⟩
      exact q1 σ _ _ _ (rl.ownUpd ht e hs ⟨Nat.le_trans put_len hc.2, _, upd_same, p1, p2⟩) .refl
    · exact q1.elim
  unfold setD at q
  split at q
  · rename_i ks ws e
    exact .inr (dic ks ws e q)
  · split at q
    · exact .inl (lst _ rfl q)
    · exact q.elim
theorem s_setix {bo : Bool} (hu : X.A.units + 64 < cLine) (ht : B.T i = true) (hi : X.N[i]? = some y) (hv : Vis X.env.scope y) (h1 : (y == ("__debug__" : Str)) = false) (h2 : (y == ("__classdict__" : Str)) = false) (he : PE X e (DE X ca W F false e')) (hk : PE X c (DE X ca W F bo k')) (hx : ∀ v, assign (.Subscript (.Name y p) c p2) X.env v = (do
      let ov ← holding [v] (eval (.Name y p) X.env)
      let iv ← holding [v, ov] (eval c X.env)
      standAt p2
      holding [v, ov, iv] (setItem ov iv v)
      release [v, ov, iv] []))
    (hs : swapsWithSole [.Subscript (.Name y p) c p2] e spos.line X.env = pure false) (hw : swappedStores [.Subscript (.Name y p) c p2] e X.env = pure none) (ha : (assignEach [.Subscript (.Name y p) c p2] X.env).map (·.2) = [assign (.Subscript (.Name y p) c p2) X.env]) :
    PS X (.Assign [.Subscript (.Name y p) c p2] e spos) (DSt X ca B W F Wn (.setix i k' e')) := by
  refine PS.imp (ps_asg he (pg_sub (pe_var hi hv h1 h2) hk (PSet.or set_list (set_dict (by omega))) hx) hs hw ha) fun E σ H q => ?_
  refine DS.one (m := ev F e') (k := fun env d => M.bnd (M.lift (getV env i)) fun _ => M.bnd (ev F k' env) fun k => M.bnd (setD env i k d) fun env => M.ret (.nx env)) q fun env S H1 G1 ρ1 d x rl r q => ?_
  obtain ⟨g, hg, q⟩ := AftS.lift q
  have gv : ∃ v, σ[i]? = some (some v) := by
    unfold getV at hg
    split at hg
    · rename_i e
      obtain ⟨v, h1, h2⟩ := rl.val i _ e
      exact ⟨v, h1⟩
    · rename_i e
      obtain ⟨a, h1, h2⟩ := rl.own i _ e
      exact ⟨_, h1⟩
    · cases hg
  obtain ⟨o, ho⟩ := gv
  refine ⟨o, ho, env, S, G1, ρ1, rl.toRl, ?_⟩
  rcases q.split with ⟨k, S1, e1, q⟩ | ⟨y, S1, e1, q⟩
  · rw [e1]
    intro w H2 G2 ρ2 x2 hd2 rk
    exact set_go ht (rl.ext x2 hd2) ho (Rep.mono x2.g x2.p _ _ r) rk.rw (q.later x2.lat)
  · rw [e1]
    exact fun H2 G2 ρ2 x2 hd2 cls dx xr => q env σ H2 G2 ρ2 (rl.ext x2 hd2) x2.lat cls dx xr
/-! ### a, b = x, y -/
/-- the items' results: kept values, and new own lists (bs: which) that were not there in Hs, each apart -/
def RP (K : PySem.W.Frag) (H G : Hp) (ρ : List Addr) : List Bool → Hp → List D → List V → Prop
  | [], _, ds, vs => ds = [] ∧ vs = []
  | true :: bs, Hs, ds, vs => ∃ d ds' a vs' Hm, ds = d :: ds' ∧ vs = .ref a :: vs' ∧ Hs a = none ∧ Ow K H G ρ d a ∧ (∃ u, Hm a = some u) ∧ (∀ z, Hm z = none → Hs z = none) ∧ RP K H G ρ bs Hm ds' vs'
  | false :: bs, Hs, ds, vs => ∃ d ds' v vs', ds = d :: ds' ∧ vs = v :: vs' ∧ Rep K G ρ d v ∧ RP K H G ρ bs Hs ds' vs'
theorem RP.later {K : PySem.W.Frag} {H G : Hp} {ρ : List Addr} : ∀ {bs : List Bool} {Hs Hs' : Hp} {ds : List D} {vs : List V}, (∀ z, Hs z = none → Hs' z = none) → RP K H G ρ bs Hs ds vs → RP K H G ρ bs Hs' ds vs
  | [], _, _, _, _, _, h => h
  | true :: bs, Hs, Hs', ds, vs, x, h => by
    obtain ⟨d, ds', a, vs', Hm, h1, h2, h3, h4, h5, h6, h7⟩ := h
    exact ⟨d, ds', a, vs', Hm, h1, h2, x a h3, h4, h5, fun z q => x z (h6 z q), h7⟩
  | false :: bs, Hs, Hs', ds, vs, x, h => by
    obtain ⟨d, ds', v, vs', h1, h2, h3, h4⟩ := h
    exact ⟨d, ds', v, vs', h1, h2, h3, RP.later x h4⟩
def DP (K : PySem.W.Frag) (ca : Nat → Value) (W : WX) (bs : List Bool) (m : Envi → M (List D)) : TA :=
  fun σ H Q => ∃ env S G ρ, Rl K env S σ H G ρ ∧ Aft K (fun H' G' ρ' => RP K H' G' ρ' bs H) (WW K ca fun c d H' => W c d σ H') H G ρ (m env S) Q
abbrev DPs (X : Cx) (ca : Nat → Value) (W : WX) (F : Fns) (bs : List Bool) (es : Es) : TA := DP X.K ca W bs (evs F es)
theorem p_nil : PA X [] (DPs X ca W F [] .nil) := PA.imp pa_nil fun σ H Q q => by
  obtain ⟨env, S, G, ρ, rl, q⟩ := q
  exact q [] H G ρ .refl rl.toHold ⟨rfl, rfl⟩
theorem p_val {es : List Expr} {es' : Es} {bs : List Bool} (ha : PE X a (DE X ca W F false a')) (hr : PA X es (DPs X ca W F bs es')) (hs : starEach (a :: es) X.env = (false, eval a X.env) :: starEach es X.env) : PA X (a :: es) (DPs X ca W F (false :: bs) (.cons a' es')) := by
  refine PA.imp (pa_cons ha hr hs) fun σ H Q q => ?_
  obtain ⟨env, S, G, ρ, rl, q⟩ := q
  refine ⟨env, S, G, ρ, rl, ?_⟩
  have q : Aft X.K (fun H' G' ρ' => RP X.K H' G' ρ' (false :: bs) H) _ H G ρ (M.bnd (ev F a' env) (fun d => M.bnd (evs F es' env) fun ds => M.ret (d :: ds)) S) Q := q
  unfold M.bnd at q
  cases e : ev F a' env S with
  | bad => rw [e] at q; exact q
  | exc y S' => rw [e] at q; exact q
  | ok d S1 =>
    rw [e] at q
    intro v H1 G1 ρ1 x1 hd1 r1
    refine ⟨env, S1, G1, ρ1, rl.ext x1 hd1, ?_⟩
    dsimp only at q
    cases e2 : evs F es' env S1 with
    | bad => rw [e2] at q; exact q
    | exc y S' => rw [e2] at q; exact fun H2 G2 ρ2 x2 hd2 => q H2 G2 ρ2 (x1.trans x2) hd2
    | ok ds S2 =>
      rw [e2] at q
      intro vs H2 G2 ρ2 x2 hd2 r2
      exact q (v :: vs) H2 G2 ρ2 (x1.trans x2) hd2 ⟨d, ds, v, vs, rfl, rfl, Rep.mono x2.g x2.p _ _ r1, RP.later x1.none r2⟩
theorem p_own {es : List Expr} {es' : Es} {bs : List Bool} (ha : PE X a (DF X.K ca W (ev F a'))) (hr : PA X es (DPs X ca W F bs es')) (hs : starEach (a :: es) X.env = (false, eval a X.env) :: starEach es X.env) : PA X (a :: es) (DPs X ca W F (true :: bs) (.cons a' es')) := by
  refine PA.imp (pa_cons ha hr hs) fun σ H Q q => ?_
  obtain ⟨env, S, G, ρ, rl, q⟩ := q
  refine ⟨env, S, G, ρ, rl, ?_⟩
  have q : Aft X.K (fun H' G' ρ' => RP X.K H' G' ρ' (true :: bs) H) _ H G ρ (M.bnd (ev F a' env) (fun d => M.bnd (evs F es' env) fun ds => M.ret (d :: ds)) S) Q := q
  unfold M.bnd at q
  cases e : ev F a' env S with
  | bad => rw [e] at q; exact q
  | exc y S' => rw [e] at q; exact q
  | ok d S1 =>
    rw [e] at q
    rintro v H1 G1 ρ1 x1 hd1 ⟨o, rfl, ho, oo⟩
    refine ⟨env, S1, G1, ρ1, rl.ext x1 hd1, ?_⟩
    dsimp only at q
    cases e2 : evs F es' env S1 with
    | bad => rw [e2] at q; exact q
    | exc y S' => rw [e2] at q; exact fun H2 G2 ρ2 x2 hd2 => q H2 G2 ρ2 (x1.trans x2) hd2
    | ok ds S2 =>
      rw [e2] at q
      intro vs H2 G2 ρ2 x2 hd2 r2
      exact q (.ref o :: vs) H2 G2 ρ2 (x1.trans x2) hd2 ⟨d, ds, o, vs, H1, rfl, rfl, ho, oo.mono x2, oo.2.2.there, x1.none, r2⟩
theorem RP.length {K : PySem.W.Frag} {H G : Hp} {ρ : List Addr} : ∀ {bs : List Bool} {Hs : Hp} {ds : List D} {vs : List V}, RP K H G ρ bs Hs ds vs → ds.length = bs.length ∧ vs.length = bs.length
  | [], _, _, _, ⟨rfl, rfl⟩ => ⟨rfl, rfl⟩
  | true :: bs, Hs, ds, vs, h => by
    obtain ⟨d, ds', a, vs', Hm, rfl, rfl, _, _, _, _, h7⟩ := h
    exact ⟨by rw [List.length_cons, List.length_cons, (RP.length h7).1], by rw [List.length_cons, List.length_cons, (RP.length h7).2]⟩
  | false :: bs, Hs, ds, vs, h => by
    obtain ⟨d, ds', v, vs', rfl, rfl, _, h7⟩ := h
    exact ⟨by rw [List.length_cons, List.length_cons, (RP.length h7).1], by rw [List.length_cons, List.length_cons, (RP.length h7).2]⟩
/-- an object of nobody, that is not looked at again -/
theorem RP.fresh {K : PySem.W.Frag} {S : Sto} {H G : Hp} {ρ : List Addr} {p : Addr} {o : HO} (x : Ext H G ρ (upd H p o) G ρ) : ∀ {bs : List Bool} {Hs : Hp} {ds : List D} {vs : List V}, RP K H G ρ bs Hs ds vs → RP K (upd H p o) G ρ bs Hs ds vs
  | [], _, _, _, h => h
  | true :: bs, Hs, ds, vs, h => by
    obtain ⟨d, ds', a, vs', Hm, h1, h2, h3, h4, h5, h6, h7⟩ := h
    exact ⟨d, ds', a, vs', Hm, h1, h2, h3, h4.mono x, h5, h6, RP.fresh (S := S) x h7⟩
  | false :: bs, Hs, ds, vs, h => by
    obtain ⟨d, ds', v, vs', h1, h2, h3, h4⟩ := h
    exact ⟨d, ds', v, vs', h1, h2, h3, RP.fresh (S := S) x h4⟩
/-- names set one after another -/
def setAll (σ : L2.St) : List Nat → List V → L2.St
  | i :: is, v :: vs => setAll (σ.set i (some v)) is vs
  | _, _ => σ
theorem RlS.par {K : PySem.W.Frag} {B : Bse} {S : Sto} {H G : Hp} {ρ : List Addr} : ∀ {is : List (Nat × Bool)} {Hs : Hp} {ds : List D} {vs : List V} {env env' : Envi} {σ : L2.St}, (∀ i ∈ is, B.T i.1 = true) → (∀ z, Hs z = none → B.H0 z = none) →
    (∀ (j : Nat) (e : D) (b : Addr), env[j]? = some (.own e) → σ[j]? = some (some (.ref b)) → ∃ u, Hs b = some u) → RlS K B env S σ H G ρ → RP K H G ρ (is.map (·.2)) Hs ds vs → putPar env is ds = some env' → RlS K B env' S (setAll σ (is.map (·.1)) vs) H G ρ
  | [], Hs, ds, vs, env, env', σ, ht, h0, hp, r, q, h => by
    obtain ⟨rfl, rfl⟩ := q
    cases h
    exact r
  | (i, true) :: is, Hs, ds, vs, env, env', σ, ht, h0, hp, r, q, h => by
    obtain ⟨d, ds', a, vs', Hm, rfl, rfl, h3, h4, h5, h6, h7⟩ := q
    have h : putPar (env.set i (.own d)) is ds' = some env' := h
    have ti := ht _ List.mem_cons_self
    refine RlS.par (is := is) (Hs := Hm) (fun k hk => ht k (List.mem_cons_of_mem _ hk)) (fun z q => h0 z (h6 z q)) (fun j e b h1 h2 => ?_) (r.setOwn ti h4 (h0 a h3) fun j e _ h1 h2 => ?_) h7 h
    · by_cases z : i = j
      · subst z
        by_cases hl : i < σ.length
        · rw [List.getElem?_set_self hl] at h2
          cases h2
          exact h5
        · rw [List.getElem?_eq_none (by simpa using hl)] at h2
          cases h2
      · rw [List.getElem?_set_ne z] at h1 h2
        obtain ⟨u, hu⟩ := hp j e b h1 h2
        cases e9 : Hm b with
        | some u => exact ⟨u, rfl⟩
        | none =>
          have := h6 b e9
          rw [hu] at this
          cases this
    · obtain ⟨u, hu⟩ := hp j e a h1 h2
      rw [h3] at hu
      cases hu
  | (i, false) :: is, Hs, ds, vs, env, env', σ, ht, h0, hp, r, q, h => by
    obtain ⟨d, ds', v, vs', rfl, rfl, h3, h4⟩ := q
    have h : putPar (env.set i (.val d)) is ds' = some env' := h
    have ti := ht _ List.mem_cons_self
    refine RlS.par (is := is) (Hs := Hs) (fun k hk => ht k (List.mem_cons_of_mem _ hk)) h0 (fun j e b h1 h2 => ?_) (r.set ti h3) h4 h
    by_cases z : i = j
    · subst z
      by_cases hl : i < env.length
      · rw [List.getElem?_set_self hl] at h1
        cases h1
      · rw [List.getElem?_eq_none (by simpa using hl)] at h1
        cases h1
    · rw [List.getElem?_set_ne z] at h1 h2
      exact hp j e b h1 h2
theorem par_read {E : Ends} {σ : L2.St} {H : Hp} {is : List (Nat × Bool)} {es' : Es} {Fin : List V → Hp → Prop} (ht : ∀ i ∈ is, B.T i.1 = true) (q : DSt X ca B W F Wn (.par is es') E σ H)
    (hf : ∀ S ds env H2 G2 ρ2 vs, RlS X.K B env S σ H2 G2 ρ2 → RP X.K H2 G2 ρ2 (is.map (·.2)) H ds vs → (∀ H3, (∀ p o, H2 p = none → H3 = upd H2 p o → E.nx (setAll σ (is.map (·.1)) vs) H3)) → E.nx (setAll σ (is.map (·.1)) vs) H2 → Fin vs H2) : DPs X ca W F (is.map (·.2)) es' σ H Fin := by
  obtain ⟨env, S, G, ρ, rl, q⟩ := q
  refine ⟨env, S, G, ρ, rl.toRl, ?_⟩
  have q : AftS X.K ca B W E G ρ (M.bnd (evs F es' env) (fun ds => M.bnd (M.lift (putPar env is ds)) fun env => M.ret (.nx env)) S) := q
  rcases q.split with ⟨ds, S1, e1, q⟩ | ⟨y, S1, e1, q⟩
  · rw [e1]
    intro vs H2 G2 ρ2 x2 hd2 r
    obtain ⟨env', hp, q⟩ := AftS.lift q
    have old : ∀ (j : Nat) (e : D) (b : Addr), env[j]? = some (.own e) → σ[j]? = some (some (.ref b)) → ∃ u, H b = some u := fun j e b h1 h2 => by
      obtain ⟨c, h3, _, _, se⟩ := rl.own j e h1
      rw [h2] at h3
      cases h3
      exact se.there
    have h0 : ∀ z, H z = none → B.H0 z = none := rl.x.none
    refine hf S1 ds env H2 G2 ρ2 vs (rl.ext x2 hd2) r (fun H3 p o np e3 => ?_) (q _ _ _ _ (RlS.par ht h0 old (rl.ext x2 hd2) r hp) x2.lat)
    subst e3
    obtain ⟨x3, hd3⟩ := hd2.fresh (o := o) np
    exact q _ _ _ _ (RlS.par ht h0 old ((rl.ext x2 hd2).ext x3 hd3) (RP.fresh (S := S) x3 r) hp) x2.lat
  · rw [e1]
    exact fun H2 G2 ρ2 x2 hd2 cls dx xr => q env σ H2 G2 ρ2 (rl.ext x2 hd2) x2.lat cls dx xr
/-- two names on one line -/
theorem s_par2 {b1 b2 : Bool} {es' : Es} {px py pt pt2 : Pos} {kt k2 : Nat} (ht : ∀ k ∈ [(i, b1), (j, b2)], B.T k.1 = true) (hc : X.calm = true) (hN : X.N.Nodup) (hi : X.N[i]? = some y) (hj : X.N[j]? = some z) (hij : i ≠ j) (hx : X.env.scope.names.lookup y = some .local) (hy : X.env.scope.names.lookup z = some .local)
    (ha : PA X [a, b] (DPs X ca W F [b1, b2] es')) (hw : swappedStores [.Tuple [.Name y px, .Name z py] kt pt] (.Tuple [a, b] k2 pt2) X.env = pure (some [y, z])) :
    PS X (.Assign [.Tuple [.Name y px, .Name z py] kt pt] (.Tuple [a, b] k2 pt2) spos) (DSt X ca B W F Wn (.par [(i, b1), (j, b2)] es')) := by
  refine PS.imp (ps_par hc hN hi hj hij hx hy ha hw rfl) fun E σ H q => ?_
  refine par_read ht q fun S ds env H2 G2 ρ2 vs rl r _ q => ?_
  have hl := (RP.length r).2
  match vs, hl, q with
  | [v, w], _, q => exact ⟨v, w, rfl, q⟩
theorem s_par3 {b1 b2 b3 : Bool} {l : Nat} {x3 : Str} {es' : Es} {px py pz pt pt2 : Pos} {kt k2 : Nat} (ht : ∀ k ∈ [(i, b1), (j, b2), (l, b3)], B.T k.1 = true) (hc : X.calm = true) (hN : X.N.Nodup) (hi : X.N[i]? = some y) (hj : X.N[j]? = some z) (hl : X.N[l]? = some x3) (hij : i ≠ j) (hil : i ≠ l) (hjl : j ≠ l)
    (hx : X.env.scope.names.lookup y = some .local) (hy : X.env.scope.names.lookup z = some .local) (hz : X.env.scope.names.lookup x3 = some .local)
    (ha : PA X [a, b, c] (DPs X ca W F [b1, b2, b3] es')) (hw : swappedStores [.Tuple [.Name y px, .Name z py, .Name x3 pz] kt pt] (.Tuple [a, b, c] k2 pt2) X.env = pure (some [y, z, x3])) :
    PS X (.Assign [.Tuple [.Name y px, .Name z py, .Name x3 pz] kt pt] (.Tuple [a, b, c] k2 pt2) spos) (DSt X ca B W F Wn (.par [(i, b1), (j, b2), (l, b3)] es')) := by
  refine PS.imp (ps_par3 hc hN hi hj hl hij hil hjl hx hy hz ha hw rfl) fun E σ H q => ?_
  refine par_read ht q fun S ds env H2 G2 ρ2 vs rl r _ q => ?_
  have hl := (RP.length r).2
  match vs, hl, q with
  | [u, v, w], _, q => exact ⟨u, v, w, rfl, q⟩
theorem gNames_set : ∀ {is : List Nat} {vs : List V} {σ : L2.St} {H : Hp} {Q : L2.St → Hp → Prop}, vs.length = is.length → Q (setAll σ is vs) H → gNames is vs σ H Q
  | [], [], σ, H, Q, _, q => ⟨rfl, q⟩
  | i :: is, v :: vs, σ, H, Q, h, q => ⟨v, vs, rfl, gNames_set (by simpa using h) q⟩
  | [], _ :: _, _, _, _, h, _ => by cases h
  | _ :: _, [], _, _, _, h, _ => by cases h
/-- through a tuple that is unpacked -/
theorem s_parN {is : List (Nat × Bool)} {es ts : List Expr} {es' : Es} {pt pt2 : Pos} {kt k2 : Nat} (ht : ∀ k ∈ is, B.T k.1 = true) (hc : X.calm = true) (hz : is.length ≤ LIM) (hg : PGs X ts (gNames (is.map (·.1)))) (hn : (assignEach ts X.env).length = is.length) (hst : (assignEach ts X.env).findIdx? (·.1) = none)
    (ha : PA X es (DPs X ca W F (is.map (·.2)) es')) (hw : swappedStores [.Tuple ts kt pt] (.Tuple es k2 pt2) X.env = pure none) (h1 : (assignEach [.Tuple ts kt pt] X.env).map (·.2) = [assign (.Tuple ts kt pt) X.env]) :
    PS X (.Assign [.Tuple ts kt pt] (.Tuple es k2 pt2) spos) (DSt X ca B W F Wn (.par is es')) := by
  refine PS.imp (ps_asg (pe_tup ha) (pg_tup hc hg hn hst) rfl hw h1) fun E σ H q => ?_
  refine par_read ht q fun S ds env H2 G2 ρ2 vs rl r q _ => ?_
  have hl := (RP.length r).2
  rw [List.length_map] at hl
  refine ⟨by rw [hl, ← LIM_eq]; exact hz, fun p np => ⟨p, vs, rfl, SqT.of upd_same, hl, gNames_set (by rw [hl, List.length_map]) (q _ p _ np rfl)⟩⟩
end
end Ev

set_option Elab.async false
set_option linter.all false
set_option maxRecDepth 100000
set_option maxHeartbeats 2000000
/-! Dicts, methods, calls with names, sums of small things. -/
namespace Ev
open PySem PySem.Spec PyProof.Rows L2
theorem freshD {K : PySem.W.Frag} {S : Sto} {H H0 G : Hp} {ρ : List Addr} {ks ws : List D} {kvs : List (L2.Key × V)} (hd : Hold K S H G ρ) (h0 : ∀ a, H a = none → H0 a = none) (r1 : Reps K G ρ ks (kvs.map fun p => kV p.1)) (r2 : Reps K G ρ ws (kvs.map fun p => p.2)) (hz : ks.length ≤ LIM) {Wx : Exn → Sto → Hp → Hp → List Addr → Prop} {Q : VK}
    (q : Aft K (RN K H0) Wx H G ρ (M.ret (D.dic ks ws) S) Q) (p : Addr) (n : H p = none) : Q (.ref p) (upd H p (.dK kvs)) := by
  obtain ⟨x, h'⟩ := hd.fresh (o := .dK kvs) n
  obtain ⟨g, na⟩ := freshO hd n
  exact q _ _ _ _ x h' ⟨p, rfl, h0 p n, g, na, hz, kvs, upd_same, r1, r2⟩
section
variable {X : Cx} {ca : Nat → Value} {W : WX} {F : Fns} {a b c : Expr} {a' b' c' : E} {es : List Expr} {es' : Es} {p pos apos cpos : Pos}
theorem f_dnew : PE X (.Dict [] [] pos) (DF X.K ca W (ev F .dnew)) := by
  refine PE.imp pe_dnewK fun σ H Q q => ?_
  obtain ⟨env, S, G, ρ, rl, q⟩ := q
  exact fun p n => freshD (kvs := []) rl.toHold (fun _ h => h) .nil .nil (Nat.zero_le _) q p n
theorem pairsK_cons {d : D} {ds : List D} {a r : List D × List D} (h : pairsK (d :: ds) a = some r) : ∃ k e, d = .tup [k, e] ∧ (putM a k e).bind (pairsK ds) = some r := by
  cases d with
  | tup es =>
    match es, h with
    | [k, e], h => exact ⟨k, e, rfl, h⟩
    | [], h => cases h
    | [_], h => cases h
    | _ :: _ :: _ :: _, h => cases h
  | _ => cases h
theorem merge_reps {K : PySem.W.Frag} {H G : Hp} {ρ : List Addr} (gh : ∀ a o, G a = some o → H a = some o) : ∀ {ds : List D} {vs : List V} {ks ws : List D} {kvs : List (L2.Key × V)} {r : List D × List D}, Reps K G ρ ds vs → Reps K G ρ ks (kvs.map fun p => kV p.1) → Reps K G ρ ws (kvs.map fun p => p.2) → ks.length ≤ LIM → pairsK ds (ks, ws) = some r →
    ∃ (ps : List Addr) (more : List (L2.Key × V)), vs = ps.map V.ref ∧ Paired (fun p kv => SqT K H p [kV kv.1, kv.2]) ps more ∧ Reps K G ρ r.1 ((mergeK kvs more).map fun p => kV p.1) ∧ Reps K G ρ r.2 ((mergeK kvs more).map fun p => p.2) ∧ r.1.length ≤ LIM
  | [], vs, ks, ws, kvs, r, hr, h1, h2, hz, h => by
    have hr : vs = [] := hr
    subst hr
    cases h
    exact ⟨[], [], rfl, .nil, h1, h2, hz⟩
  | d :: ds, vs, ks, ws, kvs, r, hr, h1, h2, hz, h => by
    obtain ⟨v, vs', rfl, hv, hvs⟩ := hr
    obtain ⟨k, e, rfl, hp⟩ := pairsK_cons h
    obtain ⟨z, p, us, rfl, hT, hu⟩ := hv
    obtain ⟨uk, us1, rfl, hk, hu1⟩ := hu
    obtain ⟨ue, us2, rfl, he, hu2⟩ := hu1
    have hu2 : us2 = [] := hu2
    subst hu2
    unfold putM at hp
    split at hp
    · rename_i hc
      simp only [Bool.and_eq_true, decide_eq_true_eq] at hc
      obtain ⟨key, rfl⟩ := key_is hc.1
      have ek : uk = kV key := rwk (H := H) (.inl hk)
      subst ek
      obtain ⟨q1, q2⟩ := put_reps (k := key) h1 h2 he
      obtain ⟨ps, more, e1, e2, e3, e4, e5⟩ := merge_reps gh (kvs := L2.putK kvs key ue) hvs q1 q2 (Nat.le_trans put_len hc.2) hp
      exact ⟨p :: ps, (key, ue) :: more, by rw [e1]; rfl, .cons (sqT_mono gh hT) e2, e3, e4, e5⟩
    · cases hp
theorem f_dcopy (hcalm : X.calm = true) (ha : PE X a (DE X ca W F false a')) (hg : Gl X "dict") (hm : X.mg "dict" = none) (hs : starEach [a] X.env = (false, eval a X.env) :: starEach [] X.env) : PE X (.Call (.Name "dict" p) [a] [] pos) (DF X.K ca W (ev F (.dcopy a'))) := by
  have cr : CallR X (.type "dict") (fun xs H Q => (∃ (a : Addr) (kvs : List (L2.Key × V)), xs = [.ref a] ∧ Rd H a (.dK kvs) ∧ ∀ p, H p = none → Q (.ref p) (upd H p (.dK kvs))) ∨
      ∃ (a : Addr) (ps : List Addr) (kvs : List (L2.Key × V)), xs = [.ref a] ∧ SqL X.K H a (ps.map V.ref) ∧ Paired (fun p kv => SqT X.K H p [kV kv.1, kv.2]) ps kvs ∧ ∀ p, H p = none → Q (.ref p) (upd H p (.dK (mergeK [] kvs)))) := by
    intro pins s σ H vs us Q I r h
    exact h.elim (call_dictD pins s σ H vs us Q I r) (call_dictP hcalm pins s σ H vs us Q I r)
  refine PE.imp (pe_callTy cr hg hm (by decide +kernel) (pa_cons ha pa_nil hs) (by decide) (by decide) hs rfl) fun σ H Q q => ?_
  obtain ⟨env, S, G, ρ, rl, q⟩ := q
  refine ⟨env, S, G, ρ, rl, ?_⟩
  have q : Aft X.K (RN X.K H) _ H G ρ (M.bnd (ev F a' env) (fun x => match x with
    | D.dic ks vs => M.ret (.dic ks vs)
    | D.lst ds => M.lift ((pairsK ds ([], [])).map fun r => .dic r.1 r.2)
    | _ => M.bad) S) Q := q
  unfold M.bnd at q
  cases e : ev F a' env S with
  | bad => rw [e] at q; exact q
  | exc y S' => rw [e] at q; exact q
  | ok d S' =>
    rw [e] at q
    intro v H2 G2 ρ2 x hd r
    have q := Aft.later x q
    cases d with
    | dic ks ws =>
      obtain ⟨z, b, kvs, rfl, h1, h2, h3⟩ := r
      exact .inl ⟨b, kvs, rfl, .inl (hd.gh _ _ h1), freshD hd x.none h2 h3 z q⟩
    | lst ds =>
      obtain ⟨z, b, vs, rfl, h1, h2⟩ := r
      have q : Aft X.K (RN X.K H) (WW X.K ca fun c d H' => W c d σ H') H2 G2 ρ2 (M.lift ((pairsK ds ([], [])).map fun r => D.dic r.1 r.2) S') Q := q
      cases ep : pairsK ds ([], []) with
      | none => rw [ep] at q; exact q.elim
      | some r =>
        rw [ep] at q
        obtain ⟨ps, more, e1, e2, e3, e4, e5⟩ := merge_reps hd.gh (kvs := []) h2 .nil .nil (Nat.zero_le _) ep
        subst e1
        exact .inr ⟨b, ps, more, rfl, sqL_mono hd.gh h1, e2, freshD hd x.none e3 e4 e5 q⟩
    | _ => exact q.elim
/-! ### {k: v for ..} -/
def turnK (F : Fns) (env : Envi) (own t : List Nat) (u : Bool) (c : Oe) (k e : E) (d : D) : M (Option (D × D)) := M.nox (M.bnd (M.lift (bindT (wipe env own) t u d)) fun env' => M.bnd (tso (evo F c env')) fun b => if b then M.bnd (ev F k env') fun x => M.bnd (ev F e env') fun y => M.ret (some (x, y)) else M.ret none)
theorem turnK_cases {env : Envi} {own t : List Nat} {u : Bool} {c : Oe} {k e : E} {d : D} {S : Sto} : turnK F env own t u c k e d S = .bad ∨ ∃ env' b S2, bindT (wipe env own) t u d = some env' ∧ tso (evo F c env') S = .ok b S2 ∧
    ((b = false ∧ turnK F env own t u c k e d S = .ok none S2) ∨ ∃ x S3 y S4, b = true ∧ ev F k env' S2 = .ok x S3 ∧ ev F e env' S3 = .ok y S4 ∧ turnK F env own t u c k e d S = .ok (some (x, y)) S4) := by
  unfold turnK
  cases hb : bindT (wipe env own) t u d with
  | none => exact .inl rfl
  | some env' =>
    cases hc : tso (evo F c env') S with
    | bad => refine .inl ?_; simp [M.nox, M.bnd, M.lift, M.ret, hc]
    | exc x S2 => refine .inl ?_; simp [M.nox, M.bnd, M.lift, M.ret, hc]
    | ok b S2 =>
      cases b with
      | false => exact .inr ⟨env', false, S2, rfl, hc, .inl ⟨rfl, by simp [M.nox, M.bnd, M.lift, M.ret, hc]⟩⟩
      | true =>
        cases hk : ev F k env' S2 with
        | bad => refine .inl ?_; simp [M.nox, M.bnd, M.lift, M.ret, hc, hk]
        | exc x S3 => refine .inl ?_; simp [M.nox, M.bnd, M.lift, M.ret, hc, hk]
        | ok x S3 =>
          cases he : ev F e env' S3 with
          | bad => refine .inl ?_; simp [M.nox, M.bnd, M.lift, M.ret, hc, hk, he]
          | exc x S4 => refine .inl ?_; simp [M.nox, M.bnd, M.lift, M.ret, hc, hk, he]
          | ok y S4 => exact .inr ⟨env', true, S2, rfl, hc, .inr ⟨x, S3, y, S4, rfl, hk, he, by simp [M.nox, M.bnd, M.lift, M.ret, hc, hk, he]⟩⟩
/-- a dict comprehension over a walk -/
theorem lc_it2 {J : It} {n : Nat} {G : Hp → Prop} {Y : Nat → Hp → V → Hp → Prop} (w : Walk J n G Y) {g : TG} {tt : TT} {tk tv : TE} {vs : List Nat} {σ : L2.St} {H1 : Hp} {D : Addr} {Qd : Hp → Prop} (Pv : Nat → Hp → Prop) (h0 : Pv 0 (upd H1 D (.dK []))) (hG : ∀ i H, i ≤ n → Pv i H → G H)
    (hs : ∀ i x H H', i < n → Pv i H → Y i H x H' → g x (L2.wipe σ vs) H' fun σ2 H2 => L2.wipe σ2 vs = L2.wipe σ vs ∧ tt σ2 H2 fun b H3 =>
      if b = true then tk σ2 H3 fun y H4 => tv σ2 H4 fun z H5 => ∃ kvs k, y = kV k ∧ H5 D = some (.dK kvs) ∧ kvs.length < sizeLine ∧ Pv (i + 1) (upd H5 D (.dK (L2.putK kvs k z))) else Pv (i + 1) H3) (hd : ∀ H, Pv n H → Qd H) :
    ∃ W : Nat → Nat → Hp → Prop, (∃ m, W 0 m (upd H1 D (.dK []))) ∧ ∀ i m H, W i m H →
      (J.stop i H ∧ Qd H) ∨ (J.go i H ∧ ∃ Nx : Hp → Prop, (∀ H', Nx H' → ∃ m', m' < m ∧ W (i + 1) m' H') ∧ ∀ x H', J.yld i H x H' → g x (L2.wipe σ vs) H' fun σ2 H2 => L2.wipe σ2 vs = L2.wipe σ vs ∧ tt σ2 H2 fun b H3 =>
        if b = true then tk σ2 H3 fun y H4 => tv σ2 H4 fun z H5 => ∃ kvs k, y = kV k ∧ H5 D = some (.dK kvs) ∧ kvs.length < sizeLine ∧ Nx (upd H5 D (.dK (L2.putK kvs k z))) else Nx H3) := by
  refine ⟨fun i m H => m = n - i ∧ i ≤ n ∧ Pv i H, ⟨n, by simp, Nat.zero_le _, h0⟩, ?_⟩
  rintro i m H ⟨rfl, hi, p⟩
  have q := hG i H hi p
  by_cases hlt : i < n
  · refine .inr ⟨w.goes i H hlt q, Pv (i + 1), fun H' p' => ⟨n - (i + 1), by omega, rfl, hlt, p'⟩, fun x H' y => hs i x H H' hlt p (w.yields i H x H' hlt q y)⟩
  · have e : i = n := by omega
    subst e
    exact .inl ⟨w.stops H q, hd H p⟩
theorem dc_read {K : PySem.W.Frag} {k e : E} {t own : List Nat} {u : Bool} {i : Src} {c : Oe} {σ : L2.St} {H : Hp} {Q : VK} (ht : ∀ j ∈ t, j ∈ own) (q : DF K ca W (ev F (.dcomp k e t u i c own)) σ H Q) :
    tDc (DN K ca W (RI K true) (evi F false i)) (gT K t u) (DC K ca F c) (DN K ca WF (RE K false) (ev F k)) (DN K ca WF (RE K false) (ev F e)) own σ H Q := by
  obtain ⟨env, S, G, ρ, rl, q⟩ := q
  refine ⟨env, S, G, ρ, rl, ?_⟩
  have q : Aft K (RN K H) _ H G ρ (M.bnd (evi F false i env) (fun ds => M.bnd (compK (turnK F env own t u c k e) ds ([], [])) fun r => M.ret (D.dic r.1 r.2)) S) Q := q
  unfold M.bnd at q
  cases e0 : evi F false i env S with
  | bad => rw [e0] at q; exact q
  | exc y S' => rw [e0] at q; exact q
  | ok ds S1 =>
    rw [e0] at q
    intro J H1 G1 ρ1 x hd ri p np
    have q : Aft K (RN K H) _ H1 G1 ρ1 (M.bnd (compK (turnK F env own t u c k e) ds ([], [])) (fun r => M.ret (D.dic r.1 r.2)) S1) Q := Aft.later x q
    obtain ⟨z, Gd, Y, w, hGd, hY⟩ := ri
    refine lc_it2 w (fun i H' => ∃ S' G' ρ' acc, Ext H1 G1 ρ1 H' G' ρ' ∧ Hold K S' H' G' ρ' ∧ Ow K H' G' ρ' (.dic acc.1 acc.2) p ∧
      Aft K (RN K H) (WW K ca fun c d H' => W c d σ H') H1 G1 ρ1 (M.bnd (compK (turnK F env own t u c k e) (ds.drop i) acc) (fun r => M.ret (D.dic r.1 r.2)) S') Q) ?_ ?_ ?_ ?_
    · obtain ⟨x1, h1⟩ := hd.fresh (o := .dK []) np
      obtain ⟨g, n⟩ := freshO hd np
      exact ⟨S1, G1, ρ1, ([], []), x1, h1, ⟨g, n, Nat.zero_le _, [], upd_same, .nil, .nil⟩, q⟩
    · rintro i H' hi ⟨S', G', ρ', acc, x1, h1, _⟩
      exact hGd S' H' G' ρ' x1 h1
    · rintro i v H' H'' hi ⟨S', G', ρ', acc, x1, h1, o1, q1⟩ y
      obtain ⟨G'', d, ed, x2, h2, rd⟩ := hY i S' H' G' ρ' v H'' x1 h1 hi y
      have x12 := x1.trans x2
      have o2 := o1.mono x2
      rw [drop_at ed] at q1
      have q1 : Aft K (RN K H) (WW K ca fun c d H' => W c d σ H') H1 G1 ρ1 (M.bnd (M.bnd (turnK F env own t u c k e d) fun r => match r with
        | some r => M.bnd (M.lift (putM acc r.1 r.2)) fun a => compK (turnK F env own t u c k e) (ds.drop (i + 1)) a
        | none => compK (turnK F env own t u c k e) (ds.drop (i + 1)) acc) (fun r => M.ret (D.dic r.1 r.2)) S') Q := q1
      rcases turnK_cases (F := F) (env := env) (own := own) (t := t) (u := u) (c := c) (k := k) (e := e) (d := d) (S := S') with f | ⟨env', b, S2, hb, hc, f⟩
      · unfold M.bnd at q1
        rw [f] at q1
        exact q1.elim
      · refine ⟨S', G'', ρ', wipe env own, env', d, (rl.ext (x.trans x12) h2).wipe own, rd, hb, fun σ2 rl2 hj hl2 => ⟨?_, ?_⟩⟩
        · have a1 : L2.wipe σ2 own = L2.wipe (L2.wipe σ own) own := wipe_same hl2 fun j hj' => hj j fun m => hj' (ht j m)
          rw [a1]
          refine wipe_same (L2.wipe_length ..) fun j hj' => (wipeS_get σ j own).1 hj'
        · refine ⟨env', S', G'', ρ', rl2, ?_⟩
          dsimp only
          rw [hc]
          intro b' H3 G3 ρ3 x3 h3 eb
          cases (show b' = b from eb)
          have x13 := x12.trans x3
          have o3 := o2.mono x3
          rcases f with ⟨rfl, f⟩ | ⟨kd, S3, vd, S4, rfl, hk, he, f⟩
          · rw [if_neg (by simp)]
            refine ⟨S2, G3, ρ3, acc, x13, h3, o3, ?_⟩
            unfold M.bnd at q1
            rw [f] at q1
            exact q1
          · rw [if_pos rfl]
            refine ⟨env', S2, G3, ρ3, rl2.ext x3 h3, ?_⟩
            rw [hk]
            intro yk H4 G4 ρ4 x4 h4 rk
            refine ⟨env', S3, G4, ρ4, (rl2.ext x3 h3).ext x4 h4, ?_⟩
            rw [he]
            intro yv H5 G5 ρ5 x5 h5 rv
            have q1 : Aft K (RN K H) (WW K ca fun c d H' => W c d σ H') H1 G1 ρ1 (M.bnd (M.bnd (M.lift (putM acc kd vd)) fun a => compK (turnK F env own t u c k e) (ds.drop (i + 1)) a) (fun r => M.ret (D.dic r.1 r.2)) S4) Q := by
              unfold M.bnd at q1 ⊢
              rw [f] at q1
              exact q1
            cases ep : putM acc kd vd with
            | none => rw [ep] at q1; exact q1.elim
            | some a2 =>
              rw [ep] at q1
              unfold putM at ep
              split at ep
              · rename_i hcc
                cases ep
                simp only [Bool.and_eq_true, decide_eq_true_eq] at hcc
                obtain ⟨key, rfl⟩ := key_is hcc.1
                have ek : yk = kV key := rwk (H := H4) (.inl (show Rep K G4 ρ4 (keyD key) yk from rk))
                subst ek
                obtain ⟨g4, n4, zl, kvs, e4, r4, r5⟩ := (o3.mono x4).mono x5
                obtain ⟨p1, p2⟩ := put_reps (k := key) r4 r5 (show Rep K G5 ρ5 vd yv from rv)
                have hl : kvs.length < sizeLine := by
                  have := r4.length
                  rw [List.length_map] at this
                  rw [this, ← LIM_eq]
                  exact hcc.2
                refine ⟨kvs, key, rfl, e4, hl, S4, G5, ρ5, _, ?_, h5.own g4 n4, ⟨g4, n4, Nat.le_trans put_len hcc.2, _, upd_same, p1, p2⟩, q1⟩
                have x15 := (x13.trans x4).trans x5
                refine ⟨x15.g, x15.p, fun a o h n => ?_, x15.gn, x15.pn, fun a o h => ?_⟩
                · rw [upd_ne (ne_of_none h np)]
                  exact x15.h a o h n
                · rw [upd_ne (ne_of_none h np)]
                  exact x15.d a o h
              · cases ep
    · rintro H' ⟨S', G', ρ', acc, x1, h1, o1, q1⟩
      rw [List.drop_length] at q1
      have q1 : Aft K (RN K H) (WW K ca fun c d H' => W c d σ H') H1 G1 ρ1 (M.ret (D.dic acc.1 acc.2) S') Q := q1
      exact q1 _ H' G' ρ' x1 h1 ⟨p, rfl, x.none p np, o1⟩
end
end Ev

set_option Elab.async false
set_option linter.all false
set_option maxRecDepth 100000
set_option maxHeartbeats 2000000
/-! More expressions. -/
namespace Ev
open PySem PySem.Spec PyProof.Rows L2
section
variable {X : Cx} {ca : Nat → Value} {W : WX} {F : Fns} {a b c : Expr} {a' b' c' : E} {es : List Expr} {es' : Es} {p pos apos cpos : Pos}
theorem f_dcomp {kx vx tg iter : Expr} {ifs : List Expr} {scope : Scope} {own : List (Str × Nat)} {pos : Pos} {k e : E} {t : List Nat} {u : Bool} {i : Src} {c : Oe} (hc : X.calm = true) (hN : X.N.Nodup) (hi : PI X tg iter (DI X ca W F true i)) (ok : BlkOk X.N X.env.scope scope own) (ht : ∀ j ∈ t, j ∈ own.map (·.2))
    (hg : ∀ (s : Shared) (H : Hp) (C : Addr) (cl : List (Str × Addr)) (fp : List Addr), PG (X.blk s H scope (compEnvC scope cl C X.env) fp) tg (gT X.K t u)) (hts : ∀ (s : Shared) (H : Hp) (C : Addr) (cl : List (Str × Addr)) (fp : List Addr), PTs (X.blk s H scope (compEnvC scope cl C X.env) fp) ifs (DC X.K ca F c))
    (hk : ∀ (s : Shared) (H : Hp) (C : Addr) (cl : List (Str × Addr)) (fp : List Addr), PE (X.blk s H scope (compEnvC scope cl C X.env) fp) kx (DE (X.blk s H scope (compEnvC scope cl C X.env) fp) ca WF F false k))
    (he : ∀ (s : Shared) (H : Hp) (C : Addr) (cl : List (Str × Addr)) (fp : List Addr), PE (X.blk s H scope (compEnvC scope cl C X.env) fp) vx (DE (X.blk s H scope (compEnvC scope cl C X.env) fp) ca WF F false e)) (hs : ∀ x, foldedSetIterable iter X.env x = pure x) :
    PE X (.DictComp kx vx [⟨tg, iter, ifs, 0⟩] scope pos) (DF X.K ca W (ev F (.dcomp k e t u i c (own.map (·.2))))) :=
  PE.imp (pe_dc hc hN hi ok hg hts hk he hs) fun σ H Q q => dc_read ht q
theorem f_ite (hc : PT X c (DT X ca W F c')) (ha : PE X a (DF X.K ca W (ev F a'))) (hb : PE X b (DF X.K ca W (ev F b'))) : PE X (.IfExp c a b pos) (DF X.K ca W (ev F (.ite c' a' b'))) := by
  refine PE.imp (pe_ifExp hc ha hb) fun σ H Q q => ?_
  obtain ⟨env, S, G, ρ, rl, q⟩ := q
  refine ⟨env, S, G, ρ, rl, ?_⟩
  show Aft X.K RB _ H G ρ (tst (ev F c' env) S) _
  have q : Aft X.K (RN X.K H) _ H G ρ (M.bnd (tst (ev F c' env)) (fun r => if r then ev F a' env else ev F b' env) S) Q := q
  unfold M.bnd at q
  cases e : tst (ev F c' env) S with
  | bad => rw [e] at q; exact q
  | exc y S' => rw [e] at q; exact q
  | ok r S' =>
    rw [e] at q
    intro r' H2 G2 ρ2 x hd er
    cases (show r' = r from er)
    have go : ∀ m : M D, Aft X.K (RN X.K H) (WW X.K ca fun c d H' => W c d σ H') H G ρ (m S') Q → Aft X.K (RN X.K H2) (WW X.K ca fun c d H' => W c d σ H') H2 G2 ρ2 (m S') Q := fun m q => by
      refine Aft.imp (fun H' G' ρ' d v h => ?_) (Aft.later x q)
      obtain ⟨a, e1, h0, o⟩ := h
      exact ⟨a, e1, x.none a h0, o⟩
    cases r with
    | true => exact ⟨env, S', G2, ρ2, rl.ext x hd, go _ q⟩
    | false => exact ⟨env, S', G2, ρ2, rl.ext x hd, go _ q⟩
theorem RE.dic {K : PySem.W.Frag} {bo : Bool} {S : Sto} {H G : Hp} {ρ : List Addr} {ks ws : List D} {v : V} (hd : Hold K S H G ρ) (r : RE K bo H G ρ (.dic ks ws) v) : ∃ a kvs, v = .ref a ∧ H a = some (.dK kvs) ∧ Reps K G ρ ks (kvs.map fun p => kV p.1) ∧ Reps K G ρ ws (kvs.map fun p => p.2) := by
  obtain ⟨a, kvs, h1, h2, h3, h4, _⟩ := r.rw.see.dic hd
  exact ⟨a, kvs, h1, h2, h3, h4⟩
/-- d.get(k, x) -/
theorem e_dget {bk : Bool} (hu : X.A.units + 64 < cLine) (ha : PE X a (DE X ca W F true a')) (hb : PE X b (DE X ca W F bk b')) (hc : PE X c (DE X ca W F false c')) (m : M2 X a "get" apos b c cpos) : PE X (.Call (.Attribute a "get" apos) [b, c] [] cpos) (DN X.K ca W (RV X.K) (ev F (.dget a' b' c'))) := by
  refine PE.imp (pe_dget2 (by omega) ha hb hc m) fun σ H Q q => ?_
  refine DN.one (γ := D) (RR := RE X.K true) (k := fun env x => match x with
    | D.dic ks vs => M.bnd (ev F b' env) fun k => M.bnd (ev F c' env) fun d => if isKey k then M.ret ((keyAt ks vs k).getD d) else M.bad
    | _ => M.bad) q fun env S H1 G1 ρ1 x v rl r q => ?_
  cases x with
  | dic ks ws =>
    obtain ⟨l, kvs, rfl, h1, _⟩ := r.dic rl.toHold
    refine ⟨l, rfl, .inl ⟨kvs, .inl h1⟩, env, S, G1, ρ1, rl, ?_⟩
    have q : Aft X.K (RV X.K) _ H1 G1 ρ1 (M.bnd (ev F b' env) (fun k => M.bnd (ev F c' env) fun d => if isKey k then M.ret ((keyAt ks ws k).getD d) else M.bad) S) Q := q
    have b := Aft.bind (RR := RE X.K bk) q
    show Aft X.K (RE X.K bk) _ H1 G1 ρ1 (ev F b' env S) _
    cases e : ev F b' env S with
    | bad => rw [e] at b; exact b
    | exc y S' => rw [e] at b; exact b
    | ok k S' =>
      rw [e] at b
      intro vk H2 G2 ρ2 x2 hd2 r2
      obtain ⟨k', S2, G2', ρ2', x2', hd2', r2', q2⟩ := b vk H2 G2 ρ2 x2 hd2 r2
      refine ⟨env, S2, G2', ρ2', rl.ext x2' hd2', ?_⟩
      have b := Aft.bind (RR := RE X.K false) q2
      show Aft X.K (RE X.K false) _ H2 G2' ρ2' (ev F c' env S2) _
      cases e : ev F c' env S2 with
      | bad => rw [e] at b; exact b
      | exc y S' => rw [e] at b; exact b
      | ok d S' =>
        rw [e] at b
        intro vd H3 G3 ρ3 x3 hd3 r3
        obtain ⟨d', S3, G3', ρ3', x3', hd3', r3', q3⟩ := b vd H3 G3 ρ3 x3 hd3 r3
        split at q3
        · rename_i hk
          obtain ⟨key, rfl⟩ := key_is hk
          have ek : vk = kV key := rwk (r2'.mono x3').rw.see
          subst ek
          obtain ⟨l', kvs', el, h1', h2', h3'⟩ := ((r.mono x2').mono x3').dic hd3'
          cases el
          refine ⟨valV kvs' key, DGet.k h1', Aft.ret (RR := RV X.K) hd3' q3 ?_⟩
          rcases at_key key h2' h3' with ⟨z1, z2⟩ | ⟨v, e, z1, z2, z3⟩
          · rw [z1, z2]
            exact r3'
          · rw [z1, z2]
            exact z3
        · exact q3.elim
  | _ => exact q.elim
/-- d.get(k) -/
theorem e_dget1 {bk : Bool} (hu : X.A.units + 64 < cLine) (ha : PE X a (DE X ca W F true a')) (hb : PE X b (DE X ca W F bk b')) (m : M1 X a "get" apos b cpos) : PE X (.Call (.Attribute a "get" apos) [b] [] cpos) (DN X.K ca W (RV X.K) (ev F (.dget a' b' (.con .non)))) := by
  refine PE.imp (pe_dget1 (by omega) ha hb m) fun σ H Q q => ?_
  refine DN.one (γ := D) (RR := RE X.K true) (k := fun env x => match x with
    | D.dic ks vs => M.bnd (ev F b' env) fun k => M.bnd (M.ret .non) fun d => if isKey k then M.ret ((keyAt ks vs k).getD d) else M.bad
    | _ => M.bad) q fun env S H1 G1 ρ1 x v rl r q => ?_
  cases x with
  | dic ks ws =>
    obtain ⟨l, kvs, rfl, h1, _⟩ := r.dic rl.toHold
    refine ⟨l, rfl, .inl ⟨kvs, .inl h1⟩, env, S, G1, ρ1, rl, ?_⟩
    have q : Aft X.K (RV X.K) _ H1 G1 ρ1 (M.bnd (ev F b' env) (fun k => if isKey k then M.ret ((keyAt ks ws k).getD .non) else M.bad) S) Q := q
    have b := Aft.bind (RR := RE X.K bk) q
    show Aft X.K (RE X.K bk) _ H1 G1 ρ1 (ev F b' env S) _
    cases e : ev F b' env S with
    | bad => rw [e] at b; exact b
    | exc y S' => rw [e] at b; exact b
    | ok k S' =>
      rw [e] at b
      intro vk H2 G2 ρ2 x2 hd2 r2
      obtain ⟨k', S2, G2', ρ2', x2', hd2', r2', q2⟩ := b vk H2 G2 ρ2 x2 hd2 r2
      split at q2
      · rename_i hk
        obtain ⟨key, rfl⟩ := key_is hk
        have ek : vk = kV key := rwk r2'.rw.see
        subst ek
        obtain ⟨l', kvs', el, h1', h2', h3'⟩ := (r.mono x2').dic hd2'
        cases el
        refine ⟨valV kvs' key, DGet.k h1', Aft.ret (RR := RV X.K) hd2' q2 ?_⟩
        rcases at_key key h2' h3' with ⟨z1, z2⟩ | ⟨v, e, z1, z2, z3⟩
        · rw [z1, z2]
          rfl
        · rw [z1, z2]
          exact z3
      · exact q2.elim
  | _ => exact q.elim
theorem op_isb (g : Bool) : OpR X (compareOp (if g then .Is else .IsNot)) (fun x y H Q => ∃ b, y = .bl b ∧ ((∃ c, x = .bl c ∧ Q (.bl ((b == c) == g)) H) ∨ ((x = .non ∨ (∃ i, x = .int i) ∨ (∃ z, x = .str z) ∨ ∃ a, x = .ref a) ∧ Q (.bl (!g)) H))) := by
  intro pins s σ H x y v u Q I rx ry h
  obtain ⟨b, rfl, h⟩ := h
  cases (show u = Value.bool b from ry)
  rcases h with ⟨c, rfl, q⟩ | ⟨h, q⟩
  · cases (show v = Value.bool c from rx)
    cases g with
    | true =>
      refine wpAny_is_plain rfl ⟨.bl (b == c), H, I, ?_, by simpa using q⟩
      show Value.bool _ = Value.bool _
      cases b <;> cases c <;> rfl
    | false =>
      refine wpAny_isNot_plain rfl ⟨.bl ((b == c) == false), H, I, ?_, q⟩
      show Value.bool _ = Value.bool _
      cases b <;> cases c <;> rfl
  · have np : plainIs v (.bool b) = true ∧ v ≠ .bool b := by
      rcases h with rfl | ⟨i, rfl⟩ | ⟨z, rfl⟩ | ⟨a, rfl⟩
      · cases rx
        exact ⟨rfl, by simp⟩
      · obtain ⟨t, rfl⟩ := rx
        exact ⟨rfl, by simp⟩
      · obtain ⟨t, rfl⟩ := rx
        exact ⟨rfl, by simp⟩
      · cases rx
        exact ⟨rfl, by simp⟩
    cases g with
    | true => exact wpAny_is_other np.1 np.2 ⟨.bl false, H, I, rfl, q⟩
    | false => exact wpAny_isNot_other np.1 np.2 ⟨.bl true, H, I, rfl, q⟩
theorem isb_read {b g ba : Bool} {σ : L2.St} {H : Hp} {Q : VK} (q : DN X.K ca W (RV X.K) (ev F (.isb a' b g)) σ H Q) :
    tOp (fun x y H Q => ∃ b, y = .bl b ∧ ((∃ c, x = .bl c ∧ Q (.bl ((b == c) == g)) H) ∨ ((x = .non ∨ (∃ i, x = .int i) ∨ (∃ z, x = .str z) ∨ ∃ a, x = .ref a) ∧ Q (.bl (!g)) H))) (DE X ca W F ba a') (tC (.bl b)) σ H Q := by
  refine DN.one (γ := D) (k := fun _ x => M.ret (D.bl (match x with | .bl c => (b == c) == g | _ => !g))) q fun env S H2 G2 ρ2 x v rl r q => ?_
  refine ⟨b, rfl, ?_⟩
  rcases r.rw with h | ⟨l, rfl, o⟩
  · cases x with
    | bl c => exact .inl ⟨c, h, Aft.ret (RR := RV X.K) rl.toHold q rfl⟩
    | non => exact .inr ⟨.inl h, Aft.ret (RR := RV X.K) rl.toHold q rfl⟩
    | int i => exact .inr ⟨.inr (.inl ⟨i, h⟩), Aft.ret (RR := RV X.K) rl.toHold q rfl⟩
    | str z => exact .inr ⟨.inr (.inr (.inl ⟨z, h⟩)), Aft.ret (RR := RV X.K) rl.toHold q rfl⟩
    | tup ds => obtain ⟨_, a, _, e, _⟩ := h; exact .inr ⟨.inr (.inr (.inr ⟨a, e⟩)), Aft.ret (RR := RV X.K) rl.toHold q rfl⟩
    | lst ds => obtain ⟨_, a, _, e, _⟩ := h; exact .inr ⟨.inr (.inr (.inr ⟨a, e⟩)), Aft.ret (RR := RV X.K) rl.toHold q rfl⟩
    | dic ks ws => obtain ⟨_, a, _, e, _⟩ := h; exact .inr ⟨.inr (.inr (.inr ⟨a, e⟩)), Aft.ret (RR := RV X.K) rl.toHold q rfl⟩
    | cell n => obtain ⟨a, e, _⟩ := h; exact .inr ⟨.inr (.inr (.inr ⟨a, e⟩)), Aft.ret (RR := RV X.K) rl.toHold q rfl⟩
  · cases x with
    | lst ds => exact .inr ⟨.inr (.inr (.inr ⟨l, rfl⟩)), Aft.ret (RR := RV X.K) rl.toHold q rfl⟩
    | dic ks ws => exact .inr ⟨.inr (.inr (.inr ⟨l, rfl⟩)), Aft.ret (RR := RV X.K) rl.toHold q rfl⟩
    | _ => exact o.2.2.elim
theorem e_isb {b ba : Bool} {j : Nat} {p' : Pos} (ha : PE X a (DE X ca W F ba a')) : PE X (.Compare a [.Is] [.Constant (.bool b) j p'] pos) (DN X.K ca W (RV X.K) (ev F (.isb a' b true))) :=
  PE.imp (pe_cmpR (op_isb true) ha pe_bl (nomark _)) fun _ _ _ q => isb_read q
theorem t_isb {b ba : Bool} {j : Nat} {p' : Pos} (ha : PE X a (DE X ca W F ba a')) : PT X (.Compare a [.Is] [.Constant (.bool b) j p'] pos) (DT X ca W F (.isb a' b true)) :=
  PT.imp (pt_cmpR (op_isb true) ha pe_bl (nomark _)) fun _ _ _ q => isb_read (DT.val q)
theorem e_notb {b ba : Bool} {j : Nat} {p' : Pos} (ha : PE X a (DE X ca W F ba a')) : PE X (.Compare a [.IsNot] [.Constant (.bool b) j p'] pos) (DN X.K ca W (RV X.K) (ev F (.isb a' b false))) :=
  PE.imp (pe_cmpR (op_isb false) ha pe_bl (nomark _)) fun _ _ _ q => isb_read q
theorem t_notb {b ba : Bool} {j : Nat} {p' : Pos} (ha : PE X a (DE X ca W F ba a')) : PT X (.Compare a [.IsNot] [.Constant (.bool b) j p'] pos) (DT X ca W F (.isb a' b false)) :=
  PT.imp (pt_cmpR (op_isb false) ha pe_bl (nomark _)) fun _ _ _ q => isb_read (DT.val q)
/-! ### xs.index(y), sep.join(xs) -/
theorem flat_v {K : PySem.W.Frag} {H G : Hp} {ρ : List Addr} {d : D} {v : V} (f : flatD d = true) (r : Rep K G ρ d v) : flatV v = true := by
  cases d with
  | non => cases (show v = .non from r); rfl
  | bl b => cases (show v = .bl b from r); rfl
  | int b => cases (show v = .int b from r); rfl
  | str b => cases (show v = .str b from r); rfl
  | _ => cases f
theorem flat_eq {K : PySem.W.Frag} {G : Hp} {ρ : List Addr} {d e : D} {v w : V} (f : flatD d = true) (g : flatD e = true) (r : Rep K G ρ d v) (s : Rep K G ρ e w) : eqV v w = D.eqv d e := by
  cases d with
  | non =>
    cases (show v = .non from r)
    cases e with
    | non => cases (show w = .non from s); rfl
    | bl b => cases (show w = .bl b from s); rfl
    | int b => cases (show w = .int b from s); rfl
    | str b => cases (show w = .str b from s); rfl
    | _ => cases g
  | bl b =>
    cases (show v = .bl b from r)
    cases e with
    | non => cases (show w = .non from s); rfl
    | bl b => cases (show w = .bl b from s); rfl
    | int b => cases (show w = .int b from s); rfl
    | str b => cases (show w = .str b from s); rfl
    | _ => cases g
  | int b =>
    cases (show v = .int b from r)
    cases e with
    | non => cases (show w = .non from s); rfl
    | bl b => cases (show w = .bl b from s); rfl
    | int b => cases (show w = .int b from s); rfl
    | str b => cases (show w = .str b from s); rfl
    | _ => cases g
  | str b =>
    cases (show v = .str b from r)
    cases e with
    | non => cases (show w = .non from s); rfl
    | bl b => cases (show w = .bl b from s); rfl
    | int b => cases (show w = .int b from s); rfl
    | str b => cases (show w = .str b from s); rfl
    | _ => cases g
  | _ => cases f
theorem seeL_ok {K : PySem.W.Frag} {S : Sto} {H G : Hp} {ρ : List Addr} {d : D} {v : V} {α : Type} {β : Type} {RQ : Hp → Hp → List Addr → α → β → Prop} {Wx : Exn → Sto → Hp → Hp → List Addr → Prop} {Q : β → Hp → Prop} {k : Unit → M α} (hd : Hold K S H G ρ) (r : RW K H G ρ d v) (q : Aft K RQ Wx H G ρ (M.bnd (seeL d) k S) Q) :
    (∃ a vs, v = .ref a ∧ SqL K H a vs) ∧ Aft K RQ Wx H G ρ (k () S) Q := by
  cases d with
  | lst ds =>
    obtain ⟨a, vs, e, h, _⟩ := r.see.list hd
    exact ⟨⟨a, vs, e, h⟩, q⟩
  | cell n =>
    unfold M.bnd seeL at q
    dsimp only at q
    cases e : S[n]? with
    | none => rw [e] at q; exact q.elim
    | some c =>
      rw [e] at q
      cases c with
      | lst ds =>
        obtain ⟨b, e1, _, c⟩ := hd.cel n _ e
        obtain ⟨_, vs, h, _⟩ := c
        rcases r with ⟨a, e2, e3⟩ | ⟨a, _, _, _, o⟩
        · rw [e1] at e3
          cases e3
          exact ⟨⟨b, vs, e2, SqL.of h⟩, q⟩
        · exact o.elim
      | ins c fs => exact q.elim
  | _ => exact q.elim
theorem find_at {ds : List D} {y : D} {j : Nat} (h : (ds.findIdx? fun x => D.eqv x y) = some j) : (∃ d, ds[j]? = some d ∧ D.eqv d y = true) ∧ ∀ m d, m < j → ds[m]? = some d → D.eqv d y = false := by
  rw [List.findIdx?_eq_some_iff_getElem] at h
  obtain ⟨hl, h1, h2⟩ := h
  refine ⟨⟨ds[j], List.getElem?_eq_getElem hl, h1⟩, fun m d hm e => ?_⟩
  obtain ⟨hl2, e2⟩ := List.getElem?_eq_some_iff.mp e
  have := h2 m hm
  rw [e2] at this
  simpa using this
theorem idxD_some {d y z : D} (h : idxD d y = some z) : ∃ ds j, d = .lst ds ∧ ds.all flatD = true ∧ flatD y = true ∧ (ds.findIdx? fun x => D.eqv x y) = some j ∧ z = .int (j : Nat) := by
  cases d with
  | lst ds =>
    have h : (if ds.all flatD && flatD y then (ds.findIdx? fun x => D.eqv x y).map fun j => D.int (j : Nat) else none) = some z := h
    split at h
    · rename_i hf
      simp only [Bool.and_eq_true] at hf
      cases e : (ds.findIdx? fun x => D.eqv x y) with
      | none => rw [e] at h; cases h
      | some j =>
        rw [e] at h
        cases h
        exact ⟨ds, j, rfl, hf.1, hf.2, e, rfl⟩
    · cases h
  | _ => cases h
theorem e_idx {ba bb : Bool} (ha : PE X a (DE X ca W F ba a')) (hb : PE X b (DE X ca W F bb b')) (mo : MOk X a b "index" apos cpos) : PE X (.Call (.Attribute a "index" apos) [b] [] cpos) (DN X.K ca W (RV X.K) (ev F (.idx a' b'))) := by
  refine PE.imp (pe_bm PySem.F.plainAttrs_list PySem.F.slot_list_index PySem.F.type_list_index mt_index ha (pa_cons hb pa_nil mo.star) mo.base mo.few mo.line mo.star mo.plain) fun σ H Q q => ?_
  refine DN.one (γ := D) (RR := RE X.K ba) (k := fun env d => M.bnd (seeL d) fun _ => M.bnd (ev F b' env) fun y => M.bnd (seeD d) fun d => M.lift (idxD d y)) q fun env S H1 G1 ρ1 d v rl r q => ?_
  obtain ⟨⟨l, vs, rfl, hl⟩, q⟩ := seeL_ok rl.toHold r.rw q
  refine ⟨.inl ⟨rfl, vs, hl⟩, env, S, G1, ρ1, rl, ?_⟩
  have b := Aft.bind (RR := RE X.K bb) q
  show Aft X.K (RE X.K bb) _ H1 G1 ρ1 (ev F b' env S) _
  cases e : ev F b' env S with
  | bad => rw [e] at b; exact b
  | exc y S' => rw [e] at b; exact b
  | ok y S' =>
    rw [e] at b
    intro vy H2 G2 ρ2 x2 hd2 r2
    obtain ⟨y', S2, G2', ρ2', x2', hd2', r2', q2⟩ := b vy H2 G2 ρ2 x2 hd2 r2
    obtain ⟨d', rd, q2⟩ := Aft.see hd2' (r.rw.mono x2') q2
    obtain ⟨z, hz, q2⟩ := Aft.lift1 q2
    obtain ⟨ds, j, rfl, hf1, hf2, hi, rfl⟩ := idxD_some hz
    obtain ⟨l', vs', el, h1, h2, _⟩ := rd.list hd2'
    cases el
    obtain ⟨⟨d, ed, eq⟩, no⟩ := find_at hi
    obtain ⟨w, ew, rw'⟩ := h2.get ed
    have ry : Rep X.K G2' ρ2' y' vy := by
      rcases r2'.rw with q | ⟨b, _, _, _, o⟩
      · exact q
      · cases y' with
        | lst _ => cases hf2
        | dic _ _ => cases hf2
        | _ => exact o.elim
    have fl : ∀ m d, ds[m]? = some d → flatD d = true := fun m d e => List.all_eq_true.mp hf1 d (List.mem_of_getElem? e)
    refine ⟨l, vs', vy, j, w, rfl, rfl, h1, flat_v (H := H2) hf2 ry, ?_, ew, ?_, fun m z' hm e' => ?_, Aft.ret (RR := RV X.K) hd2' q2 rfl⟩
    · rw [List.all_eq_true]
      intro z hz
      obtain ⟨m, hm⟩ := List.mem_iff_getElem?.mp hz
      obtain ⟨d, e1, e2⟩ := h2.getV hm
      exact flat_v (H := H2) (fl m d e1) e2
    · rw [flat_eq (fl j d ed) hf2 rw' ry]
      exact eq
    · obtain ⟨d, e1, e2⟩ := h2.getV e'
      rw [flat_eq (fl m d e1) hf2 e2 ry]
      exact no m d hm e1
theorem e_join {ba bb : Bool} (ha : PE X a (DE X ca W F ba a')) (hb : PE X b (DE X ca W F bb b')) (mo : MOk X a b "join" apos cpos) : PE X (.Call (.Attribute a "join" apos) [b] [] cpos) (DN X.K ca W (RV X.K) (ev F (.join a' b'))) := by
  refine PE.imp (pe_bm PySem.F.plainAttrs_str PySem.F.slot_str_join PySem.F.type_str_join mt_join ha (pa_cons hb pa_nil mo.star) mo.base mo.few mo.line mo.star mo.plain) fun σ H Q q => ?_
  refine DN.one (γ := D) (RR := RE X.K ba) (k := fun env x => match x with
    | D.str z => M.bnd (ev F b' env) fun y => match y with
      | D.lst ds => match allS ds with
        | some xs => if (xs.map (·.length)).sum + xs.length * z.length ≤ LIM then M.ret (D.str (Txt.join z xs)) else M.bad
        | none => M.bad
      | _ => M.bad
    | _ => M.bad) q fun env S H1 G1 ρ1 d v rl r q => ?_
  cases d with
  | str z =>
    have ev0 : v = V.str z := r.rw.see.str
    subst ev0
    refine ⟨rfl, ?_⟩
    refine DN.one (γ := D) (RR := RE X.K bb) (k := fun env y => match y with
      | D.lst ds => match allS ds with
        | some xs => if (xs.map (·.length)).sum + xs.length * z.length ≤ LIM then M.ret (D.str (Txt.join z xs)) else M.bad
        | none => M.bad
      | _ => M.bad) ⟨env, S, G1, ρ1, rl, q⟩ fun env S H2 G2 ρ2 y vy rl2 r2 q => ?_
    cases y with
    | lst ds =>
      obtain ⟨l, vs, rfl, h1, h2, _⟩ := r2.rw.see.list rl2.toHold
      cases hx : allS ds with
      | none =>
        have q : Aft X.K (RV X.K) (WW X.K ca fun c d H' => W c d σ H') H2 G2 ρ2 ((match allS ds with
          | some xs => if (xs.map (·.length)).sum + xs.length * z.length ≤ LIM then M.ret (D.str (Txt.join z xs)) else M.bad
          | none => M.bad : M D) S) Q := q
        rw [hx] at q
        exact q.elim
      | some xs =>
        have q : Aft X.K (RV X.K) (WW X.K ca fun c d H' => W c d σ H') H2 G2 ρ2 ((match allS ds with
          | some xs => if (xs.map (·.length)).sum + xs.length * z.length ≤ LIM then M.ret (D.str (Txt.join z xs)) else M.bad
          | none => M.bad : M D) S) Q := q
        rw [hx] at q
        dsimp only at q
        split at q
        · rename_i hz
          have e1 := h2.strs hx
          exact ⟨z, l, xs, rfl, rfl, .inl (by rw [← e1]; exact h1), hz, Aft.ret (RR := RV X.K) rl2.toHold q rfl⟩
        · exact q.elim
    | _ => exact q.elim
  | _ => exact q.elim
end
end Ev

set_option Elab.async false
set_option linter.all false
set_option maxRecDepth 100000
set_option maxHeartbeats 2000000
/-! x[::-1]; list(range), list(text); calls by keywords; new cells. -/
namespace EvT
open PySem PyProof.Rows HT L2
section
variable {prog : Program} {w : World} {A : Around} {E : Value → Shared → Prop} {s : Shared}
theorem applied_rev {sl : Addr} {vl vu vs : Value} {n : Nat} {Q : Int × Int × Nat → Shared → Prop} (hs : s.heap.IsSliceOf sl vl vu vs) (pl : IsPart vl none) (pu : IsPart vu none) (ps : IsPart vs (some (-1)))
    (h : Q ((n : Int) - 1, -1, n) s) : wpAny (model prog w) A (Builtin.Slice.sliceApplied (.ref sl) (pure (n : Int))) Q E s := by
  obtain ⟨os, hos, hcs, hds⟩ := id hs
  unfold Builtin.Slice.sliceApplied Builtin.Slice.sliceFields
  refine wpAny_bind (wpAny_bind (wpAny_field hos hds (x := vl) rfl (wpAny_bind (wpAny_field hos hds (x := vu) rfl (wpAny_bind (wpAny_field hos hds (x := vs) rfl (wpAny_pure ?_)))))))
  refine wpAny_bind (slicePart_ ps ?_)
  show wpAny _ _ (if ((-1 : Int) == 0) = true then _ else _) _ _ s
  rw [if_neg (by decide)]
  refine wpAny_bind (slicePart_ pl (wpAny_bind (slicePart_ pu (wpAny_bind (wpAny_pure ?_)))))
  have e1 : Builtin.Slice.sliceAdjust none none (-1) (n : Int) = ((n : Int) - 1, -1) := by
    unfold Builtin.Slice.sliceAdjust
    simp
  have e2 : Builtin.Slice.slicePlaces ((n : Int) - 1) (-1) (-1) = n := by
    unfold Builtin.Slice.slicePlaces
    simp
    omega
  show wpAny _ _ (match Builtin.Slice.sliceAdjust none none (-1) (n : Int) with | (lo, hi) => pure (lo, (-1 : Int), Builtin.Slice.slicePlaces lo hi (-1))) _ _ s
  rw [e1]
  show wpAny _ _ (pure ((n : Int) - 1, (-1 : Int), Builtin.Slice.slicePlaces ((n : Int) - 1) (-1) (-1))) _ _ s
  rw [e2]
  exact wpAny_pure h
theorem fm_congr {α β : Type} {f g : α → Option β} : ∀ {l : List α}, (∀ m ∈ l, f m = g m) → l.filterMap f = l.filterMap g
  | [], _ => rfl
  | m :: l, h => by
    rw [List.filterMap_cons, List.filterMap_cons, h m List.mem_cons_self, fm_congr fun k hk => h k (List.mem_cons_of_mem _ hk)]
theorem pick_rev (xs : Array Value) : ((List.range xs.size).filterMap fun (m : Nat) => xs[(((xs.size : Int) - 1) + (m : Int) * (-1)).toNat]?).toArray = xs.toList.reverse.toArray := by
  have e : (List.range xs.size).filterMap (fun (m : Nat) => xs[(((xs.size : Int) - 1) + (m : Int) * (-1)).toNat]?) = xs.toList.reverse := by
    have e2 : (List.range xs.size).filterMap (fun (m : Nat) => xs[(((xs.size : Int) - 1) + (m : Int) * (-1)).toNat]?) = ((List.range xs.size).map fun m => xs.size - 1 - m).filterMap fun m => xs[m]? := by
      rw [List.filterMap_map]
      apply fm_congr
      intro m hm
      have := List.mem_range.mp hm
      show xs[(((xs.size : Int) - 1) + (m : Int) * (-1)).toNat]? = xs[xs.size - 1 - m]?
      congr 1
      omega
    rw [e2, PySem.W.krv_range, List.filterMap_reverse, PySem.W.krv_all]
  rw [e]
theorem getItem_tuple_rev {t sl : Addr} {items : Array Value} {vl vu vs : Value} {Q : Value → Shared → Prop} (ht : IsTup s.heap t items) (hs : s.heap.IsSliceOf sl vl vu vs) (pl : IsPart vl none) (pu : IsPart vu none) (ps : IsPart vs (some (-1)))
    (h : Q (.ref s.heap.objs.size) { s with heap := s.heap.push { cls := .type "tuple", data := .seq items.toList.reverse.toArray } })
    (hsz : items.size ≤ sizeLine) : wpAny (model prog w) A (getItem (.ref t) (.ref sl)) Q E s := by
  have htake : sizeOk (.seq items.toList.reverse.toArray) := by
    show items.toList.reverse.toArray.size ≤ sizeLine
    simpa using hsz
  obtain ⟨os, hos, hcs, hds⟩ := id hs
  have hTs : s.TypeIs (.ref sl) "slice" := ⟨os, hos, hcs⟩
  unfold getItem
  try with_reducible refine wpAny_holding ?_
  first | refine wpAny_bind (wpAny_pure ?_) | skip
  refine wpAny_bind (wpAny_sequenceKey ht.typeIs (by decide) ?_)
  refine wpAny_bind (wpAny_callSpecial?_slot (name := Str.ofString "__getitem__") ht.typeIs PyProof.Rows.slot_tuple_getitem
    (wpAny_call_entry PyProof.Rows.slot_tuple_getitem ht.typeIs entry_tuple_getitem ?_ (args_tuple_getitem _ _)))
  show wpAny _ _ (Builtin.Tuple.tupleItemsOf (.ref t) >>= _) _ _ s
  refine wpAny_bind (tupleItemsOf_ ht ?_)
  refine wpAny_bind (wpAny_typeOf hTs ?_)
  rw [if_pos (by decide)]
  refine wpAny_bind (applied_rev hs pl pu ps ?_)
  have hno : ¬ ((((items.size : Int) - 1) == 0 && (-1 : Int) == 1 && items.size == items.size) = true) := by
    intro q
    rw [Bool.and_eq_true, Bool.and_eq_true] at q
    exact absurd q.1.2 (by decide)
  show wpAny _ _ (if (((items.size : Int) - 1) == 0 && (-1 : Int) == 1 && items.size == items.size) = true then _ else _) _ _ s
  rw [if_neg hno, pick_rev]
  first
    | exact wpAny_bind (m := Builtin.Tuple.tupleExact _) (wpAny_newObj_type (wpAny_pure ⟨_, rfl, wpAny_pure h⟩) htake)
    | exact wpAny_bind (m := Builtin.Tuple.tupleExact _) (wpAny_newObj_type (wpAny_bind (wpAny_pure (wpAny_pure ⟨_, rfl, wpAny_pure h⟩))) htake)
    | exact wpAny_bind (wpAny_bind (m := Builtin.Tuple.tupleExact _) (wpAny_newObj_type (wpAny_pure (wpAny_pure ⟨_, rfl, wpAny_pure h⟩)) htake))
    | exact wpAny_bind (wpAny_bind (m := Builtin.Tuple.tupleExact _) (wpAny_newObj_type (wpAny_pure ⟨_, rfl, wpAny_pure h⟩) htake))
end
end EvT
namespace Ev
open PySem PySem.Spec PyProof.Rows L2
section
variable {X : Cx} {ca : Nat → Value} {W : WX} {F : Fns} {a b c : Expr} {a' b' c' : E} {es : List Expr} {es' : Es} {p pos apos cpos : Pos}
def tRevT (K : PySem.W.Frag) (te : TE) : TE := fun σ H Q => te σ H fun x H1 => ∃ a xs, x = .ref a ∧ SqT K H1 a xs ∧ ∀ p, H1 p = none → Q (.ref p) (upd H1 p (.tup xs.reverse))
theorem pe_revT {e : Expr} {te : TE} {k : Nat} {p1 p2 p3 pos : Pos} (he : PE X e te) : PE X (.Subscript e (.Slice none none (some (.UnaryOp .USub (.Constant (.int 1) k p1) p2)) p3) pos) (tRevT X.K te) := by
  refine ⟨fun pins s σ H Q I h => ?_⟩
  refine Subscript_ (thn (he.run pins s σ H _ I h) fun v s1 ⟨x, H1, I1, r1, q1⟩ => ?_)
  obtain ⟨a, xs, ex, hx, q⟩ := q1
  subst ex
  cases r1
  have hst : PO X (some (.UnaryOp .USub (.Constant (.int 1) k p1) p2)) (tPart (tUn (rU fun i => .int (-i)) (tC (.int 1)))) := po_some (pe_un un_neg pe_int)
  refine wpAny_Slice (thn (po_none.run pins s1 σ H1 (fun o H2 => o = none ∧ H2 = H1) I1 ⟨rfl, rfl⟩) fun vl s2 ⟨l, H2, I2, pl, el, e2⟩ => ?_)
  subst el e2
  refine thn (po_none.run pins s2 σ H2 (fun o H3 => o = none ∧ H3 = H2) I2 ⟨rfl, rfl⟩) fun vu s3 ⟨u, H3, I3, pu, eu, e3⟩ => ?_
  subst eu e3
  refine thn (hst.run pins s3 σ H3 (fun o H4 => o = some (-1) ∧ H4 = H3) I3 ⟨1, rfl, -1, rfl, rfl, rfl⟩) fun vs s4 ⟨o, H4, I4, ps, eo, e4⟩ => ?_
  subst eo e4
  have I5 : Inv X pins σ H4 { s4 with heap := s4.heap.push { cls := .type "slice", data := .fields #[vl, vu, vs] } } := I4.kept (t' := s4.toks) fun b ob q => Heap.get?_push_of_some _ q
  obtain ⟨its, r, ht, hz⟩ := I5.tuple hx
  have hlen := r.length
  show wpAny (model X.prog X.w) X.A (subscriptTail e (.Slice none none (some (.UnaryOp .USub (.Constant (.int 1) k p1) p2)) p3) (.ref a) (.ref s4.heap.objs.size)) (EP X pins σ Q) X.xe { s4 with heap := s4.heap.push { cls := .type "slice", data := .fields #[vl, vu, vs] } }
  refine tail_any (ops := [.ref a, .ref s4.heap.objs.size]) ht.typeIs (PyProof.Rows.slot_tuple_getitem.lookup) ?_ (by with_unfolding_all rfl)
  refine EvT.getItem_tuple_rev ht (Heap.IsSliceOf.new _ vl vu vs) pl pu ps ?_ (by rw [List.size_toArray]; omega)
  refine ⟨.ref _, _, I5.laid (t' := s4.toks) (o := .tup xs.reverse) (fun b ob q => Heap.get?_push_of_some _ q) (Nat.le_refl _) ?_, rfl, q _ (I5.hok.fresh (Nat.le_refl _))⟩
  refine ⟨by rw [List.length_reverse]; exact hz, _, r.reverse, ?_⟩
  have e : its.toArray.toList.reverse.toArray = its.reverse.toArray := by simp
  rw [e]
  exact IsTup.new _ _
theorem e_rev {ba : Bool} {k : Nat} {p1 p2 p3 : Pos} (ha : PE X a (DE X ca W F ba a')) : PE X (.Subscript a (.Slice none none (some (.UnaryOp .USub (.Constant (.int 1) k p1) p2)) p3) pos) (DN X.K ca W (RV X.K) (ev F (.rev a'))) := by
  have h : PE X (.Subscript a (.Slice none none (some (.UnaryOp .USub (.Constant (.int 1) k p1) p2)) p3) pos) (fun σ H Q => tRevL X.K (DE X ca W F ba a') σ H Q ∨ tRevT X.K (DE X ca W F ba a') σ H Q) :=
    ⟨fun pins s σ H Q I q => q.elim ((pe_revL ha).run pins s σ H Q I) ((pe_revT ha).run pins s σ H Q I)⟩
  refine PE.imp h fun σ H Q q => ?_
  obtain ⟨env, S, G, ρ, rl, q⟩ := q
  have q : Aft X.K (RV X.K) _ H G ρ (M.bnd (ev F a' env) (fun x => M.bnd (seeD x) fun x => match x with
    | D.lst ds => M.ret (D.lst ds.reverse)
    | D.tup ds => M.ret (D.tup ds.reverse)
    | _ => M.bad) S) Q := q
  have b := Aft.bind (RR := RE X.K ba) q
  cases e : ev F a' env S with
  | bad =>
    rw [e] at b
    exact b.elim
  | exc y S' =>
    rw [e] at b
    refine .inl ⟨env, S, G, ρ, rl, ?_⟩
    show Aft X.K (RE X.K ba) _ H G ρ (ev F a' env S) _
    rw [e]
    exact b
  | ok x S' =>
    unfold M.bnd at q
    rw [e] at q
    rcases see_cases (d := x) (S := S') with ⟨y, hy⟩ | hy
    · dsimp only at q
      rw [hy] at q
      have go : ∀ v H1 G1 ρ1, Ext H G ρ H1 G1 ρ1 → Hold X.K S' H1 G1 ρ1 → RE X.K ba H1 G1 ρ1 x v → RS X.K H1 G1 ρ1 y v := fun v H1 G1 ρ1 x1 hd r => (see_ok hd r.rw hy).2
      cases y with
      | lst ds =>
        refine .inl ⟨env, S, G, ρ, rl, ?_⟩
        show Aft X.K (RE X.K ba) _ H G ρ (ev F a' env S) _
        rw [e]
        intro v H1 G1 ρ1 x1 hd r
        obtain ⟨l, vs, rfl, h1, h2, h3⟩ := (go v H1 G1 ρ1 x1 hd r).list hd
        exact ⟨l, vs, rfl, h1, newLst hd h2.reverse (by rw [List.length_reverse]; exact h3) fun v H' G' y hd' r' => q v H' G' ρ1 (x1.trans y) hd' r'⟩
      | tup ds =>
        refine .inr ⟨env, S, G, ρ, rl, ?_⟩
        show Aft X.K (RE X.K ba) _ H G ρ (ev F a' env S) _
        rw [e]
        intro v H1 G1 ρ1 x1 hd r
        obtain ⟨l, vs, rfl, h1, h2, h3⟩ := (go v H1 G1 ρ1 x1 hd r).tup hd
        exact ⟨l, vs, rfl, h1, newTup hd h2.reverse (by rw [List.length_reverse]; exact h3) fun v H' G' y hd' r' => q v H' G' ρ1 (x1.trans y) hd' r'⟩
      | _ => exact q.elim
    · dsimp only at q
      rw [hy] at q
      exact q.elim
/-! ### calls by keywords; without arguments -/
theorem e_call0 {k f : Nat} {g : Addr} {fd : FuncData} {ps : List Str} {x : Str} (Fo : FnOk X.prog X.w X.K X.mg X.base (L2.CX X.prog X.w) k g fd ps (spF X.K ca 0 (F f))) (hr : Room k X.A) (tk : Takes X W) (hg : Gl X x) (hm : X.mg x = some (.ref g)) (hk : PySem.W.keepIn X.K (.ref g) = true)
    (hb : Binds X.K fd ps []) (hdb : (x == ("__debug__" : Str)) = false) : PE X (.Call (.Name x p) [] [] pos) (DN X.K ca W (RV X.K) (ev F (.call0 f))) := by
  refine ⟨fun pins s σ H Q I h => ?_⟩
  refine wpAny_Call_Name_kw (ld_glob I hg hm ?_ hdb)
  refine PySem.W.callWith_K0 I.kIn hk (run_fnS (us := []) (vs := []) (E := WE W) Fo hr hb (passAt tk σ) I .nil ?_)
  obtain ⟨env, S, G, ρ, rl, q⟩ := h
  exact ⟨[], S, G, ρ, rfl, rl.toHold, .nil, q⟩
/-- how a call by keywords alone binds -/
def KW0 (K : PySem.W.Frag) (fd : FuncData) (ps ks : List Str) (pm : List Nat) : Prop := ∀ (s : Shared) (ws : List Value), K.In s.heap → ws.length = ks.length → BindsTo s fd ⟨[], ks.zip ws⟩ (ps.zip (pm.map fun i => ws.getD i .none))
theorem vals_perm {vs : List V} {ws : List Value} (r : Vals vs ws) : ∀ (pm : List Nat), (∀ i ∈ pm, i < vs.length) → Vals (pm.map fun i => vs.getD i .non) (pm.map fun i => ws.getD i .none)
  | [], _ => .nil
  | i :: pm, h => by
    have hi := h i List.mem_cons_self
    obtain ⟨u, e, ru⟩ := r.get (List.getElem?_eq_getElem hi)
    refine .cons ?_ (vals_perm r pm fun j hj => h j (List.mem_cons_of_mem _ hj))
    show L2.RelV (vs.getD i V.non) (ws.getD i Value.none)
    rw [List.getD_eq_getElem?_getD, List.getElem?_eq_getElem hi, List.getD_eq_getElem?_getD, e]
    exact ru
theorem reps_perm {K : PySem.W.Frag} {G : Hp} {ρ : List Addr} {ds : List D} {vs : List V} (r : Reps K G ρ ds vs) : ∀ (pm : List Nat), (∀ i ∈ pm, i < ds.length) → Reps K G ρ (pm.map fun i => ds.getD i .non) (pm.map fun i => vs.getD i .non)
  | [], _ => .nil
  | i :: pm, h => by
    have hi := h i List.mem_cons_self
    obtain ⟨u, e, ru⟩ := r.get (List.getElem?_eq_getElem hi)
    refine .cons ?_ (reps_perm r pm fun j hj => h j (List.mem_cons_of_mem _ hj))
    show Rep K G ρ (ds.getD i D.non) (vs.getD i V.non)
    rw [List.getD_eq_getElem?_getD, List.getElem?_eq_getElem hi, List.getD_eq_getElem?_getD, e]
    exact ru
abbrev DK (X : Cx) (ca : Nat → Value) (W : WX) (F : Fns) (es : Es) : TA := DN X.K ca W (REs X.K false) (evs F es)
theorem k_nil : PK X [] (DK X ca W F .nil) := ⟨fun pos pins s σ H Q I q => pk_nil.run pos pins s σ H Q I (by
  obtain ⟨env, S, G, ρ, rl, q⟩ := q
  exact Aft.ret (RR := REs X.K false) rl.toHold q .nil)⟩
theorem k_cons {nm : Option Str} {kpos : Pos} {kws : List Keyword} (ha : PE X a (DE X ca W F false a')) (hr : PK X kws (DK X ca W F es')) : PK X (⟨nm, a, kpos⟩ :: kws) (DK X ca W F (.cons a' es')) := by
  refine ⟨fun pos pins s σ H Q I q => (pk_cons ha hr).run pos pins s σ H Q I ?_⟩
  refine DN.one (γ := List D) (k := fun env d => M.bnd (evs F es' env) fun ds => M.ret (d :: ds)) q fun env S H1 G1 ρ1 d v rl r q => ?_
  refine ⟨env, S, G1, ρ1, rl, ?_⟩
  have b := Aft.bind (RR := REs X.K false) q
  show Aft X.K (REs X.K false) _ H1 G1 ρ1 (evs F es' env S) _
  cases e : evs F es' env S with
  | bad => rw [e] at b; exact b
  | exc y S' => rw [e] at b; exact b
  | ok ds S' =>
    rw [e] at b
    intro vs H2 G2 ρ2 x2 hd r2
    obtain ⟨d', S1, G3, ρ3, x3, hd3, r3, q3⟩ := b vs H2 G2 ρ2 x2 hd r2
    exact Aft.ret (RR := REs X.K false) hd3 q3 (.cons (Rep.mono x3.g x3.p _ _ r) r3)
theorem e_kcall {k f np : Nat} {g : Addr} {fd : FuncData} {ps ks : List Str} {pm : List Nat} {x : Str} {kws : List Keyword} (Fo : FnOk X.prog X.w X.K X.mg X.base (L2.CX X.prog X.w) k g fd ps (spF X.K ca np (F f))) (hr : Room k X.A) (tk : Takes X W) (hg : Gl X x) (hm : X.mg x = some (.ref g)) (hk : PySem.W.keepIn X.K (.ref g) = true)
    (hb : KW0 X.K fd ps ks pm) (hps : ps.length = np) (hpm : pm.length = np) (hks : ks.length = es'.len) (hin : ∀ i ∈ pm, i < es'.len) (hkw : PK X kws (DK X ca W F es'))
    (hall : (backToKw pos (keywordEach kws X.env)).all (·.1.isSome) = true) (hke : (backToKw pos (keywordEach kws X.env)).filterMap (·.1) = ks) (hdb : (x == ("__debug__" : Str)) = false)
    (hpl : ((backTo pos (starEach [] X.env)).any (·.1) || (backToKw pos (keywordEach kws X.env)).any (·.1.isNone)) = false) : PE X (.Call (.Name x p) [] kws pos) (DN X.K ca W (RV X.K) (ev F (.kcall f pm es'))) := by
  refine ⟨fun pins s σ H Q I h => ?_⟩
  refine wpAny_Call_Name_kw (ld_glob I hg hm ?_ hdb)
  refine PySem.W.callWith_KW0 (h₀ := X.base) I.ok.mod.kin hk hall ?_ hpl
  have h : DK X ca W F es' σ H fun vs H2 => vs.length = es'.len ∧ spF X.K ca np (F f) (pm.map fun i => vs.getD i .non) H2 Q (WE W σ) := by
    refine DN.oneE (γ := D) (k := fun env ds => F f (pm.map fun i => ds.getD i .non)) h fun env S G ρ S' H2 G2 ρ2 ds vs rl e x hd r q => ?_
    have hl := evs_len es' env S S' ds e
    have rr := REs.reps r
    exact ⟨by rw [rr.length, hl], pm.map fun i => ds.getD i .non, S', G2, ρ2, by rw [List.length_map, hpm], hd, reps_perm rr pm fun i hi => by rw [hl]; exact hin i hi, q⟩
  refine thn (hkw.run pos pins s σ H _ I h) fun ws s2 ⟨vs, H2, I2, rz, hl, q2⟩ => ⟨I2.kIn, ?_⟩
  rw [hke, List.nil_append]
  have hw : ws.length = es'.len := by rw [← rz.length, hl]
  refine wpAny_call (codeAny_mono (Fo.run X.A X.stack s2 H2 ⟨[], ks.zip ws⟩ _ _ Q (WE W σ) hr I2.env0 (hb s2 ws I2.kIn (by rw [hw, hks])) (vals_perm rz pm fun i hi => by rw [hl]; exact hin i hi) q2) fun r s' hq => ?_)
  cases r with
  | error e => exact passAt tk σ pins H2 s2 e s' I2 hq
  | ok fl =>
    cases fl with
    | ret u => exact I2.after hq
    | next => exact False.elim hq
    | brk => exact False.elim hq
    | cont => exact False.elim hq
end
end Ev

set_option Elab.async false
set_option linter.all false
set_option maxRecDepth 100000
set_option maxHeartbeats 2000000
/-! New cells; list(range), tuple(range), list(text). -/
namespace Ev
open PySem PySem.Spec PyProof.Rows L2
section
variable {X : Cx} {ca : Nat → Value} {W : WX} {F : Fns} {a b c : Expr} {a' b' c' : E} {es : List Expr} {es' : Es} {p pos apos cpos : Pos}
theorem Hold.cell {K : PySem.W.Frag} {S : Sto} {H H0 G G0 : Hp} {ρ ρ0 : List Addr} {a : Addr} {ds : List D} (hd : Hold K S H G ρ) (x : Ext H0 G0 ρ0 H G ρ) (h0 : H0 a = none) (o : Ow K H G ρ (.lst ds) a) : Hold K (S ++ [.lst ds]) H G (ρ ++ [a]) ∧ Ext H0 G0 ρ0 H G (ρ ++ [a]) ∧ Rep K G (ρ ++ [a]) (.cell S.length) (.ref a) := by
  obtain ⟨g, n, z, vs, e, r⟩ := o
  have pre : ρ <+: ρ ++ [a] := List.prefix_append _ _
  refine ⟨⟨hd.gh, ?_, ?_, fun k c e1 => ?_⟩, ⟨x.g, x.p.trans pre, x.h, x.gn, fun b m => ?_, x.d⟩, a, rfl, ?_⟩
  · rw [List.length_append, List.length_append, hd.len]
    rfl
  · rw [List.nodup_append]
    exact ⟨hd.nd, by simp, fun b hb c hc => by
      simp only [List.mem_singleton] at hc
      subst hc
      exact fun q => n (q ▸ hb)⟩
  · by_cases hk : k < S.length
    · rw [List.getElem?_append_left hk] at e1
      obtain ⟨b, e2, e3, e4⟩ := hd.cel k c e1
      refine ⟨b, pre_get pre e2, e3, ?_⟩
      unfold CelAt at *
      split at e4
      · obtain ⟨w, us, q, t⟩ := e4
        exact ⟨w, us, q, Reps.mono (fun _ _ q => q) pre _ _ t⟩
      · exact e4.elim
    · rw [List.getElem?_append_right (by omega)] at e1
      have ek : k = S.length := by
        have := (List.getElem?_eq_some_iff.mp e1).1
        simp at this
        omega
      subst ek
      simp at e1
      subst e1
      refine ⟨a, ?_, g, z, vs, e, Reps.mono (fun _ _ q => q) pre _ _ r⟩
      rw [hd.len, List.getElem?_append_right (Nat.le_refl _)]
      simp
  · rcases List.mem_append.mp m with m | m
    · exact x.pn b m
    · simp only [List.mem_singleton] at m
      subst m
      exact .inr h0
  · rw [hd.len, List.getElem?_append_right (Nat.le_refl _)]
    simp
theorem e_newc (ha : PE X a (DF X.K ca W (ev F a'))) : PE X a (DN X.K ca W (RV X.K) (ev F (.newc a'))) := by
  refine PE.imp ha fun σ H Q q => ?_
  obtain ⟨env, S, G, ρ, rl, q⟩ := q
  refine ⟨env, S, G, ρ, rl, ?_⟩
  have q : Aft X.K (RV X.K) _ H G ρ (M.bnd (ev F a' env) (fun x => match x with
    | D.lst ds => fun s => .ok (.cell s.length) (s ++ [.lst ds])
    | _ => M.bad) S) Q := q
  unfold M.bnd at q
  cases e : ev F a' env S with
  | bad => rw [e] at q; exact q
  | exc y S' => rw [e] at q; exact q
  | ok d S' =>
    rw [e] at q
    rintro v H1 G1 ρ1 x hd ⟨l, rfl, h0, o⟩
    cases d with
    | lst ds =>
      obtain ⟨hd', x', r'⟩ := hd.cell x h0 o
      exact q _ _ _ _ x' hd' r'
    | _ => exact q.elim
/-! ### list(range(..)), tuple(range(..)) -/
theorem rg_read {σ : L2.St} {H : Hp} {Q : VK} {RR : Hp → Hp → List Addr → D → V → Prop} {bo : Bool} {mk : List D → D} (q : DN X.K ca W RR (fun env => M.bnd (evi F true (.rng a') env) fun ds => M.ret (mk ds)) σ H Q) {Fin : Int → Hp → Prop}
    (hf : ∀ env S H2 G2 ρ2 (n : Int), Rl X.K env S σ H2 G2 ρ2 → -(2 ^ 62) ≤ n → n < LIM → Aft X.K RR (WW X.K ca fun c d H' => W c d σ H') H2 G2 ρ2 (M.ret (mk (range 0 n.toNat)) S) Q → Fin n H2) : DE X ca W F bo a' σ H fun v H1 => ∃ n, v = .int n ∧ Fin n H1 := by
  have q : DN X.K ca W RR (fun env => M.bnd (ev F a' env) fun x => match x with
    | D.int n => if -(2 ^ 62) ≤ n ∧ n < LIM then M.ret (mk (range 0 n.toNat)) else M.bad
    | _ => M.bad) σ H Q := DN.congr (fun env => by
      show M.bnd (M.bnd (ev F a' env) fun x => match x with
        | D.int n => if -(2 ^ 62) ≤ n ∧ n < LIM then M.ret (range 0 n.toNat) else M.bad
        | _ => M.bad) (fun ds => M.ret (mk ds)) = _
      funext S
      unfold M.bnd
      cases ev F a' env S with
      | ok d S' =>
        cases d with
        | int n =>
          by_cases hn : -(2 ^ 62) ≤ n ∧ n < (LIM : Int)
          · simp only [if_pos hn]
            rfl
          · simp only [if_neg hn]
            rfl
        | _ => rfl
      | exc _ _ => rfl
      | bad => rfl) q
  refine DN.one (γ := D) (k := fun env x => match x with
    | D.int n => if -(2 ^ 62) ≤ n ∧ n < LIM then M.ret (mk (range 0 n.toNat)) else M.bad
    | _ => M.bad) q fun env S H2 G2 ρ2 d v rl r q => ?_
  cases d with
  | int n =>
    have ev0 : v = V.int n := r.rw.see.int
    subst ev0
    dsimp only at q
    split at q
    · rename_i h
      exact ⟨n, rfl, hf env S H2 G2 ρ2 n rl h.1 h.2 q⟩
    · exact q.elim
  | _ => exact q.elim
theorem rg_reps {K : PySem.W.Frag} {G : Hp} {ρ : List Addr} (n : Int) : Reps K G ρ (range 0 n.toNat) (rgV 0 n) := by
  have e : ∀ (l : List Nat), Reps K G ρ (l.map fun k => D.int (0 + (k : Nat))) (l.map fun i => V.int (0 + (i : Nat))) := fun l => by
    induction l with
    | nil => exact .nil
    | cons k l ih => exact .cons rfl ih
  unfold range rgV
  rw [Int.sub_zero]
  exact e _
theorem range_len (lo : Int) (n : Nat) : (range lo n).length = n := by simp [range]
theorem e_tupRg {bo : Bool} {p2 pos2 : Pos} (hcalm : X.calm = true) (ha : PE X a (DE X ca W F bo a')) (hg : Gl X "tuple") (hm : X.mg "tuple" = none) (hg2 : Gl X "range") (hm2 : X.mg "range" = none) (hs : starEach [a] X.env = (false, eval a X.env) :: starEach [] X.env) (hs2 : starEach [.Call (.Name "range" p2) [a] [] pos2] X.env = (false, eval (.Call (.Name "range" p2) [a] [] pos2) X.env) :: starEach [] X.env) :
    PE X (.Call (.Name "tuple" p) [.Call (.Name "range" p2) [a] [] pos2] [] pos) (DN X.K ca W (RV X.K) (ev F (.totup (.rng a')))) := by
  refine PE.imp (pe_tupRg hcalm hg hm (prg_1 hg2 hm2 ha hs) hs2) fun σ H Q q => ?_
  refine rg_read (mk := D.tup) q fun env S H2 G2 ρ2 n rl h1 h2 q => ?_
  have hL : LIM = 16777216 := rfl
  refine ⟨⟨by omega, by omega, h1, by omega, by omega⟩, ?_⟩
  exact newTup rl.toHold (rg_reps n) (by rw [range_len]; omega) fun v H' G' y hd' r' => q v H' G' ρ2 y hd' r'
theorem f_lstRg {bo : Bool} {p2 pos2 : Pos} (hcalm : X.calm = true) (ha : PE X a (DE X ca W F bo a')) (hg : Gl X "list") (hm : X.mg "list" = none) (hg2 : Gl X "range") (hm2 : X.mg "range" = none) (hs : starEach [a] X.env = (false, eval a X.env) :: starEach [] X.env) (hs2 : starEach [.Call (.Name "range" p2) [a] [] pos2] X.env = (false, eval (.Call (.Name "range" p2) [a] [] pos2) X.env) :: starEach [] X.env) :
    PE X (.Call (.Name "list" p) [.Call (.Name "range" p2) [a] [] pos2] [] pos) (DF X.K ca W (ev F (.tolst (.rng a')))) := by
  refine PE.imp (pe_listRg hcalm hg hm (prg_1 hg2 hm2 ha hs) hs2) fun σ H Q q => ?_
  obtain ⟨env, S, G, ρ, rl, q⟩ := q
  have q2 : DE X ca W F bo a' σ H fun v H1 => (∀ z, H1 z = none → H z = none) ∧ ∃ n, v = .int n ∧ RgOk 0 n ∧ ∀ q, H1 q = none → Q (.ref q) (upd H1 q (.lst (rgV 0 n))) := by
    refine ⟨env, S, G, ρ, rl, ?_⟩
    have q : Aft X.K (RN X.K H) _ H G ρ (M.bnd (M.bnd (ev F a' env) fun x => match x with
        | D.int n => if -(2 ^ 62) ≤ n ∧ n < LIM then M.ret (range 0 n.toNat) else M.bad
        | _ => M.bad) (fun ds => M.ret (D.lst ds)) S) Q := q
    unfold M.bnd at q
    cases e : ev F a' env S with
    | bad => rw [e] at q; exact q
    | exc y S' => rw [e] at q; exact q
    | ok d S' =>
      rw [e] at q
      intro v H1 G1 ρ1 x hd r
      have q := Aft.later x q
      cases d with
      | int n =>
        have ev0 : v = V.int n := r.rw.see.int
        subst ev0
        dsimp only at q
        by_cases hn : -(2 ^ 62) ≤ n ∧ n < LIM
        · rw [if_pos hn] at q
          have hL : LIM = 16777216 := rfl
          have h1 := hn.1
          have h2 := hn.2
          exact ⟨x.none, n, rfl, ⟨by omega, by omega, h1, by omega, by omega⟩, freshL hd x.none (rg_reps n) (by rw [range_len]; omega) q⟩
        · rw [if_neg hn] at q
          exact q.elim
      | _ => exact q.elim
  obtain ⟨env, S, G, ρ, rl, q⟩ := q2
  refine ⟨env, S, G, ρ, rl, ?_⟩
  show Aft X.K (RE X.K bo) _ H G ρ (ev F a' env S) _
  cases e : ev F a' env S with
  | bad => rw [e] at q; exact q
  | exc y S' => rw [e] at q; exact q
  | ok x S' =>
    rw [e] at q
    exact fun v H2 G2 ρ2 x2 hd2 r2 => (q v H2 G2 ρ2 x2 hd2 r2).2
end
end Ev

set_option Elab.async false
set_option linter.all false
set_option maxRecDepth 100000
set_option maxHeartbeats 4000000
/-! Sets of whole numbers and texts, made of a list or a tuple; their table can be walked. -/
namespace Ev
open PySem PySem.Spec PyProof.Rows L2
local instance (priority := 10000) keyBEq : BEq Key := instBEqOfDecidableEq
local instance (priority := 10000) keyLaw : LawfulBEq Key := inferInstanceAs (@LawfulBEq Key instBEqOfDecidableEq)
def stepK (σ : List Key) (v : Key) : List Key := if v ∈ σ then σ else σ ++ [v]
def metK (val : Nat → Key) (i : Nat) : List Key := ((List.range i).map val).foldl stepK []
theorem metK_succ (val : Nat → Key) (i : Nat) : metK val (i + 1) = stepK (metK val i) (val i) := by
  unfold metK
  rw [List.range_succ, List.map_append, List.foldl_append]
  rfl
theorem stepK_mem (σ : List Key) (v k : Key) : decide (k ∈ stepK σ v) = (decide (k ∈ σ) || decide (k = v)) := by
  unfold stepK
  split
  · rename_i h
    by_cases e : k = v
    · subst e
      simp [h]
    · simp [e]
  · by_cases e : k = v
    · subst e
      simp
    · simp [e]
theorem stepK_len (σ : List Key) (v : Key) : (stepK σ v).length = if decide (v ∈ σ) = true then σ.length else σ.length + 1 := by
  unfold stepK
  simp only [decide_eq_true_eq]
  split <;> simp
theorem metK_le (val : Nat → Key) : ∀ i, (metK val i).length ≤ i
  | 0 => Nat.le_refl _
  | i + 1 => by
    rw [metK_succ, stepK_len]
    have ih := metK_le val i
    split <;> omega
theorem setOf_eq {prog : Program} {w : World} {h : Heap} {a : Addr} {S S' : Key → Bool} {n n' : Nat} (hS : h.SetOf (mixKind prog w) a S n) (e : ∀ k, S k = S' k) (en : n = n') : h.SetOf (mixKind prog w) a S' n' := by
  have : S = S' := funext e
  subst this en
  exact hS
/-- the set of keys at a: S its members, n their number; its table rises and can be walked -/
def SetM (P : Program) (w : World) (h : Heap) (a : Addr) (S : Key → Bool) (n : Nat) : Prop :=
  ∃ o es ep t, h.get? a = some o ∧ o.ExactSet ∧ o.data = .set es ep t ∧ ElemsOf (mixKind P w) es.toList ∧ (∀ k, S k = true ↔ ∃ e ∈ es.toList, (mixKind P w).is k e.2 = true) ∧
    es.size < scanBound ∧ t.fits es.size = true ∧ es.size = n ∧ Ris t.place.toList ∧ (w.params.followText "set-order" = true ∨ t.led = true)
section
variable {P : Program} {w : World} {h h' : Heap} {a : Addr} {S : Key → Bool} {n : Nat}
theorem SetM.at (R : SetM P w h a S n) (k : ∀ o, h.get? a = some o → h'.get? a = some o) : SetM P w h' a S n := by
  obtain ⟨o, es, ep, t, ho, r⟩ := R
  exact ⟨o, es, ep, t, k o ho, r⟩
theorem SetM.congr {S' : Key → Bool} {n' : Nat} (R : SetM P w h a S n) (e : ∀ k, S k = S' k) (en : n = n') : SetM P w h a S' n' := by
  have q : S = S' := funext e
  rw [← q, ← en]; exact R
theorem SetM.setOf (R : SetM P w h a S n) : h.SetOf (mixKind P w) a S n := by
  obtain ⟨o, es, ep, t, ho, hx, hd, g, hm, hb, hf, hn, _⟩ := R
  exact ⟨o, es, ep, t, ho, hx, hd, g, hm, hb, hf, hn⟩
end
section
variable {P : Program} {w : World} {A : Around} {E : Value → Shared → Prop} {s : Shared} {a : Addr} {S : Key → Bool} {n : Nat}
theorem setM_add_tail {g : Bool → Sem Unit} (hg : ∀ (b : Bool) (s₁ : Shared) (Q' : Unit → Shared → Prop), Q' () s₁ → wpAny (model P w) A (g b) Q' E s₁)
    {o : Obj} {es : Array (Int × Value)} {ep : Nat} {t : SetTable} (ho : s.heap.get? a = some o) (hex : o.ExactSet) (hd : o.data = .set es ep t)
    {es1 : Array (Int × Value)} {t2 : SetTable} {S' : Key → Bool} (g1 : ElemsOf (mixKind P w) es1.toList) (m1 : ∀ k, S' k = true ↔ ∃ e ∈ es1.toList, (mixKind P w).is k e.2 = true)
    (hb1 : es1.size < scanBound) (hf2 : t2.fits es1.size = true) (hr : Ris t2.place.toList) (hl : w.params.followText "set-order" = true ∨ t2.led = true) {wasDummy : Bool} {R : Option Bool → Shared → Prop}
    (hR : ∀ h', Heap.SameBut a s.heap h' → SetM P w h' a S' es1.size → R (some true) { s with heap := h' }) :
    wpAny (model P w) A (do
        storeSet a es1 t2
        if (!wasDummy && t2.tooFull) = true then do
            g (relayAll t2 es1 (SetTable.grown es1.size)).2.2
            storeSet a (relayAll t2 es1 (SetTable.grown es1.size)).1 (relayAll t2 es1 (SetTable.grown es1.size)).2.1
            pure (some true)
          else pure (some true)) R E s := by
  refine wpAny_bind (wpAny_storeSet_of ho hd ?_ (fits_of_scanBound hb1))
  have ho1 := store_at (es' := es1) (t' := t2) ho hd
  have sb1 := Heap.SameBut.update s.heap a (Obj.putSet es1 t2)
  split
  · have pm := relayAll_perm t2 es1 (SetTable.grown es1.size)
    have hf3 := relayAll_fits t2 es1 (SetTable.grown es1.size)
    have hr3 := relayAll_ris t2 es1 (SetTable.grown es1.size)
    have hl3 := relayAll_led t2 es1 (SetTable.grown es1.size)
    generalize relayAll t2 es1 (SetTable.grown es1.size) = Z at pm hf3 hr3 hl3 ⊢
    obtain ⟨es2, t3, gave⟩ := Z
    dsimp only at pm hf3 hr3 hl3 ⊢
    have hsz : es2.size = es1.size := by rw [← Array.length_toList, pm.length_eq, Array.length_toList]
    have hb2 : es2.size < scanBound := by rw [hsz]; exact hb1
    refine wpAny_bind (hg _ _ _ ?_)
    refine wpAny_bind (wpAny_storeSet_of ho1 rfl ?_ (fits_of_scanBound hb2))
    have ho2 := store_at (es' := es2) (t' := t3) ho1 rfl
    refine wpAny_pure (hR _ (sb1.trans (Heap.SameBut.update _ a _)) ?_)
    exact ⟨_, es2, _, t3, ho2, hex, rfl, fun e he => g1 e (pm.mem_iff.mp he), fun k => (m1 k).trans ⟨fun ⟨e, he, q⟩ => ⟨e, pm.mem_iff.mpr he, q⟩, fun ⟨e, he, q⟩ => ⟨e, pm.mem_iff.mp he, q⟩⟩, hb2, hf3, hsz, hr3,
      hl.imp id fun z => by rw [hl3]; exact z⟩
  · exact wpAny_pure (hR _ sb1 ⟨_, es1, _, t2, ho1, hex, rfl, g1, m1, hb1, hf2, rfl, hr, hl⟩)

theorem setM_add_hashed {k : Key} {v : Value} {Q : Bool → Shared → Prop} (rv : RelV (kV k) v) (R : SetM P w s.heap a S n) (room : n + 1 < scanBound)
    (hQ : ∀ h', Heap.SameBut a s.heap h' → SetM P w h' a (fun j => S j || decide (j = k)) (if S k = true then n else n + 1) → Q (!S k) { s with heap := h' }) :
    wpAny (model P w) A (setAddHashed a v ((mixKind P w).hash k)) Q E s := by
  obtain ⟨o, es, ep, t, ho, hex, hd, g, hm, hb, hf, hn, hr, hl⟩ := R
  have hkey : (mixKind P w).is k v = true := kV_is rv
  have hsc : v.scannable = true := key_scan rv
  have hel : ElemsOf (mixKind P w) es.toList := g
  unfold setAddHashed setAddHashedIn
  refine wpAny_holding (wpAny_bind (wpAny_setState_of ho hd hf ?_))
  dsimp only
  rw [byScan_of hsc hb hel]
  simp only [↓reduceIte]
  unfold setAddByScan
  refine wpAny_bind ?_
  refine wpAny_bind (wpAny_rule ?_)
  refine wpAny_bind (wpAny_setScan_of hkey ho hd hf hel ?_)
  cases hfi : List.findIdx? (fun e => (mixKind P w).is k e.2) es.toList with
  | some j =>
    dsimp only
    obtain ⟨hj, pj, _⟩ := List.findIdx?_eq_some_iff_getElem.mp hfi
    have hSk : S k = true := (hm k).2 ⟨es.toList[j], List.getElem_mem hj, pj⟩
    refine wpAny_pure (wpAny_pure ?_)
    have q := hQ s.heap (Heap.SameBut.refl a s.heap) ⟨o, es, ep, t, ho, hex, hd, g, fun i => by
      rw [Bool.or_eq_true, decide_eq_true_eq, ← hm i]
      exact ⟨fun z => z.elim id (fun e => e ▸ hSk), .inl⟩, hb, hf, by rw [if_pos hSk]; exact hn, hr, hl⟩
    rw [hSk] at q
    exact q
  | none =>
    dsimp only
    have hnk : ¬∃ e ∈ es.toList, (mixKind P w).is k e.2 = true := fun ⟨e, he, q⟩ => by
      have c := List.findIdx?_eq_none_iff.mp hfi e he
      rw [q] at c
      cases c
    have hSk : S k = false := by
      cases q : S k with
      | false => rfl
      | true => exact absurd ((hm k).1 q) hnk
    have hgw : ∀ (b : Bool) {s₁ : Shared} {Q' : Unit → Shared → Prop}, Q' () s₁ → wpAny (model P w) A (match b with | true => rule "set.scan.the-table-gave-way" | false => pure ()) Q' E s₁ :=
      fun b s₁ Q' q => by cases b <;> first | exact wpAny_pure q | exact wpAny_rule q
    have pm := layNew_perm t es ((mixKind P w).hash k) v
    have hf1 := layNew_fits t es ((mixKind P w).hash k) v
    have hr1 := layNew_ris t es ((mixKind P w).hash k) v hr
    have hl1 := layNew_led t es ((mixKind P w).hash k) v
    generalize layNew t es ((mixKind P w).hash k) v = Z at pm hf1 hr1 hl1 ⊢
    obtain ⟨es1, t1, wasDummy, gave⟩ := Z
    dsimp only at pm hf1 hr1 hl1 ⊢
    rw [Array.toList_push] at pm
    have pc : es1.toList.Perm (((mixKind P w).hash k, v) :: es.toList) := pm.trans (List.perm_append_singleton _ _)
    have g1 : ElemsOf (mixKind P w) es1.toList := fun e he => by
      rcases List.mem_cons.mp (pc.mem_iff.mp he) with z | z
      · rw [z]; exact ⟨⟨k, hkey, rfl⟩, hsc⟩
      · exact g e z
    have m1 : ∀ i, (S i || decide (i = k)) = true ↔ ∃ e ∈ es1.toList, (mixKind P w).is i e.2 = true := fun i => by
      rw [Bool.or_eq_true, decide_eq_true_eq, hm i]
      constructor
      · rintro (⟨e, he, q⟩ | rfl)
        · exact ⟨e, pc.mem_iff.mpr (List.mem_cons_of_mem _ he), q⟩
        · exact ⟨_, pc.mem_iff.mpr (List.mem_cons_self ..), hkey⟩
      · rintro ⟨e, he, q⟩
        rcases List.mem_cons.mp (pc.mem_iff.mp he) with z | z
        · rw [z] at q
          exact .inr ((mixKind P w).inj _ _ _ q hkey)
        · exact .inl ⟨e, z, q⟩
    have hsz : es1.size = n + 1 := by rw [← Array.length_toList, pc.length_eq, List.length_cons, Array.length_toList, hn]
    have hb1 : es1.size < scanBound := by rw [hsz]; exact room
    have hled : w.params.followText "set-order" = true ∨ t1.led = true := hl.imp id fun z => by rw [hl1]; exact z
    have fin : ∀ h', Heap.SameBut a s.heap h' → SetM P w h' a (fun j => S j || decide (j = k)) es1.size → Q true { s with heap := h' } := fun h' sb r => by
      have q := hQ h' sb
      rw [hSk] at q
      rw [hsz] at r
      exact q r
    refine wpAny_bind (hgw _ ?_)
    split
    · refine wpAny_bind ?_
      rw [hashByValue_scannable 8 hsc]
      refine wpAny_pure ?_
      refine setM_add_tail ?_ ho hex hd g1 m1 hb1 ?_ ?_ ?_ ?_
      · intro b s₁ Q' q; cases b <;> first | exact wpAny_pure q | exact wpAny_rule q
      · first | (split <;> first | exact hf1 | exact SetTable.fits_plain_off hf1) | exact hf1
      · first | (split <;> exact hr1) | exact hr1
      · first | (split <;> exact hled) | exact hled
      · intro h' sb r; dsimp only; exact wpAny_pure (fin h' sb r)
    · refine wpAny_bind (wpAny_pure ?_)
      simp only [↓reduceIte]
      refine setM_add_tail ?_ ho hex hd g1 m1 hb1 hf1 hr1 hled ?_
      · intro b s₁ Q' q; cases b <;> first | exact wpAny_pure q | exact wpAny_rule q
      · intro h' sb r; dsimp only; exact wpAny_pure (fin h' sb r)

end
/-! ### set(xs) -/
section
variable {prog : Program} {w : World} {A : Around} {R : Result → Shared → Prop} {I : Addr} {fp wr : List Addr} {G : Array GenState → Array GenState → Prop} {n : Nat} {P : Nat → Value → Prop} {St : Nat → Shared → Prop}
theorem key_loopM (W : WalksS prog w A.in1 I fp wr G n P St) (S : Addr) (hSf : S ∉ fp) (val : Nat → Key) (hval : ∀ i v, P i v → RelV (kV (val i)) v) (hb : n + 1 < scanBound) :
    ∀ (k i : Nat) (s : Shared), n - i = k → i ≤ n → St i s → SetM prog w s.heap S (fun k' => decide (k' ∈ metK val i)) (metK val i).length →
      (∀ s', Moved (S :: wr) G s s' → SetM prog w s'.heap S (fun k' => decide (k' ∈ metK val n)) (metK val n).length → R (.ok (.ret .none)) s') → codeAny (model prog w) A (.builtin "set.update.loop" ⟨[.ref S, .ref I], []⟩) R s := by
  have hSw : S ∉ wr := fun h => hSf (W.sub _ h)
  have hsub : ∀ b ∈ wr, b ∈ S :: wr := fun b hb => List.mem_cons_of_mem _ hb
  have keep : ∀ {s s' : Shared} {i : Nat} , SetM prog w s.heap S (fun k' => decide (k' ∈ metK val i)) (metK val i).length → Moved wr G s s' → SetM prog w s'.heap S (fun k' => decide (k' ∈ metK val i)) (metK val i).length := fun hS hm => SetM.at hS fun o ho => hm.heap S o hSw ho
  intro k
  induction k with
  | zero =>
    intro i s hk hi hst hS hR
    have hin : i = n := by omega
    subst hin
    refine codeAny_builtin F.entry_set_update_loop ?_
    rw [Around.under_plainId F.plain_set_update_loop _]
    refine wpAny_bind (m := pyNext (.ref I)) (W.done s _ _ hst fun s' hm => ?_)
    show wpAny _ A.in1 (ret Value.none) _ _ s'
    exact wpAny_pure (hR s' (hm.mono hsub) (keep hS hm))
  | succ k ih =>
    intro i s hk hi hst hS hR
    have hlt : i < n := by omega
    refine codeAny_builtin F.entry_set_update_loop ?_
    rw [Around.under_plainId F.plain_set_update_loop _]
    refine wpAny_bind (m := pyNext (.ref I)) (W.item i s _ _ hlt hst fun v s' hP hst' hm => ?_)
    have rv := hval i v hP
    have hS' := keep hS hm
    refine wpAny_bind (m := holding [v] (setAdd S v)) (wpAny_holding ?_)
    unfold setAdd
    refine wpAny_holding ?_
    refine wpAny_bind ((mixKind prog w).pyHash (k := val i) (kV_is rv) ?_)
    have hroom : (metK val i).length + 1 < scanBound := by have := metK_le val i; omega
    refine setM_add_hashed (s := { s' with toks := s'.toks + 1 }) rv hS' hroom fun h' hsb hS2 => ?_
    have hSi : SetM prog w h' S (fun k' => decide (k' ∈ metK val (i + 1))) (metK val (i + 1)).length := hS2.congr (fun k' => by rw [metK_succ, stepK_mem]) (by rw [metK_succ, stepK_len])
    refine wpAny_pure ⟨plainId_quiet F.plain_set_update_loop _, ih (i + 1) _ (by omega) hlt (W.frame _ s' _ _ hst' (Nat.le_succ _) fun b hb o e => ?_) hSi fun s'' hm'' hS'' => ?_⟩
    · rw [hsb.2 b (fun h : b = S => hSf (by rw [← h]; exact hb))]
      exact e
    · refine hR s'' (Moved.trans W.gtrans ((hm.mono hsub).then_heap (Nat.le_succ _) fun b o hb e => ?_) hm'') hS''
      rw [hsb.2 b (fun h : b = S => hb (by rw [h]; exact List.mem_cons_self))]
      exact e
end
section
variable {prog : Program} {w : World} {A : Around} {E : Value → Shared → Prop} {s : Shared}
theorem call_set_listM {l : Addr} {items : Array Value} {val : Nat → Key} {Q : Value → Shared → Prop} (hh : A.handled = none) (hl : s.heap.IsList l items) (hval : ∀ i v, items[i]? = some v → RelV (kV (val i)) v) (hb : items.size + 1 < scanBound)
    (h : ∀ (h' : Heap) (tk : Nat), SetM prog w h' s.heap.objs.size (fun k' => decide (k' ∈ metK val items.size)) (metK val items.size).length → (∀ b o, b < s.heap.objs.size → s.heap.get? b = some o → h'.get? b = some o) → Q (.ref s.heap.objs.size) { s with heap := h', toks := tk }) :
    wpAny (model prog w) A (call (.type "set") [.ref l]) Q E s := by
  obtain ⟨c, tl, hmro⟩ := PySem.F.called_set.mro
  have made := PySem.F.called_set.made
  have sub := PySem.F.called_set.sub
  refine wpAny_call (codeAny_of_tree ?_)
  show wpAny _ _ (callAny (.type "set") _) _ _ _
  refine wpAny_pure ⟨Code.quiet_builtin _ (by decide +kernel), codeAny_builtin PySem.F.entry_type_call ?_⟩
  rw [Around.under_plain (weight_type_call_type "set" [.ref l] []) rfl]
  have f1 := PySem.F.called_set.notType
  have f2 := PySem.F.called_set.canCreate
  have f3 := PySem.F.typeCall_set_1 (.ref l)
  repeat (any_goals (first | assumption | wp_step))
  refine codeAny_mono (code_set_led1 (.ref l) (E := E) (Q₁ := fun obj t => obj = .ref s.heap.objs.size ∧ t = { s with heap := s.heap.push { cls := .type "set", dict := none, data := .set #[] 0 (.fresh 0 0 (!w.params.followText "set-order")) } }) ⟨rfl, rfl⟩) fun r t hr => ?_
  cases r with
  | error e => exact hr
  | ok fl =>
    cases fl with
    | ret obj =>
      obtain ⟨rfl, rfl⟩ := hr
      have at0 : (s.heap.push { cls := .type "set", dict := none, data := .set #[] 0 (.fresh 0 0 (!w.params.followText "set-order")) }).get? s.heap.objs.size = some { cls := .type "set", dict := none, data := .set #[] 0 (.fresh 0 0 (!w.params.followText "set-order")) } := Heap.get?_push_size _ rfl
      have ty0 : Shared.TypeIs { s with heap := s.heap.push { cls := .type "set", dict := none, data := .set #[] 0 (.fresh 0 0 (!w.params.followText "set-order")) } } (.ref s.heap.objs.size) "set" := ⟨_, at0, rfl⟩
      have i1 := PySem.F.called_set.init.lookup
      have i2 := PySem.F.called_set.init.bind (.ref s.heap.objs.size)
      repeat (any_goals (first | assumption | wp_step))
      refine codeAny_mono (codeAny_call_builtin (R := wants (fun r t => r = .none ∧ ∃ h' tk, t = { s with heap := h', toks := tk } ∧ SetM prog w h' s.heap.objs.size (fun k' => decide (k' ∈ metK val items.size)) (metK val items.size).length ∧
          (∀ b o, b < s.heap.objs.size → s.heap.get? b = some o → h'.get? b = some o)) E) PySem.F.called_set.init.plain PySem.F.entry_set_init (check_set_init_1 ty0 ?_)) fun r t hr => ?_
      · obtain ⟨⟨cls, dd, dt, sl⟩, ho, hc, nl, hd⟩ := hl
        simp only at hc hd
        subst hc hd
        have ho' : (s.heap.push { cls := .type "set", dict := none, data := .set #[] 0 (.fresh 0 0 (!w.params.followText "set-order")) }).get? l = some { cls := .type "list", dict := dd, data := .seq items nl, slots := sl } := Heap.get?_push_of_some _ ho
        have q1 := PySem.F.sub_list_set
        have q2 := PySem.F.sub_list_frozenset
        have q3 : (Value.type "list" == Value.type "dict") = false := by decide
        have hl1 : (s.heap.push { cls := .type "set", dict := none, data := .set #[] 0 (.fresh 0 0 (!w.params.followText "set-order")) }).IsList l items := ⟨_, ho', rfl, nl, rfl⟩
        unfold Builtin.«set.__init__» noKeywords Builtin.Frozenset.updateFrom
        generalize hPI : pyIter = PI
        wp_walk
        subst hPI
        refine wpAny_pyIter_list hl1 ?_
        refine wpAny_bind (wpAny_runValue ?_)
        have hlS : l < s.heap.objs.size := Heap.lt_size ho
        have h3 : A.in1.in1.in1.handled = none := by simp [hh]
        have neI : l ≠ (s.heap.push { cls := .type "set", dict := none, data := .set #[] 0 (.fresh 0 0 (!w.params.followText "set-order")) }).objs.size := by
          rw [Heap.size_push]
          exact Nat.ne_of_lt (Nat.lt_succ_of_lt hlS)
        have hSf : s.heap.objs.size ∉ [(s.heap.push { cls := .type "set", dict := none, data := .set #[] 0 (.fresh 0 0 (!w.params.followText "set-order")) }).objs.size, l] := by
          rw [Heap.size_push]
          simp only [List.mem_cons, List.mem_singleton, List.not_mem_nil, or_false, not_or]
          exact ⟨Nat.ne_of_lt (Nat.lt_succ_self _), Nat.ne_of_gt hlS⟩
        refine key_loopM ((Walks.list h3 _ l neI items).toS) s.heap.objs.size hSf val hval hb (items.size - 0) 0 _ (by omega) (Nat.zero_le _) ⟨⟨_, Heap.get?_push_size _ rfl, rfl, rfl⟩, (hl1.push _)⟩ ?hS0 ?hR
        case hS0 =>
          have hget : ((s.heap.push { cls := .type "set", dict := none, data := .set #[] 0 (.fresh 0 0 (!w.params.followText "set-order")) }).push { cls := .type "list_iterator", data := .fields #[.ref l, .int 0 0] }).get? s.heap.objs.size = some { cls := .type "set", dict := none, data := .set #[] 0 (.fresh 0 0 (!w.params.followText "set-order")) } := Heap.get?_push_of_some _ at0
          exact ⟨_, #[], 0, _, hget, ⟨rfl, rfl, rfl⟩, rfl, (fun e he => by simp at he), (fun k => by simp [metK]), (by decide), (by rfl), rfl, List.Pairwise.nil, by cases w.params.followText "set-order" <;> simp [SetTable.fresh]⟩
        case hR =>
          intro t hm hS'
          obtain ⟨h', g', d', tk', os'⟩ := t
          have eg : g' = s.gens := hm.gens
          have ed : d' = s.drawn := hm.drawn
          have eo : os' = s.os := hm.os
          subst eg ed eo
          show wpAny _ _ _ _ _ _
          refine wpAny_pure ?_
          show wpAny _ _ (ret Value.none) _ _ _
          refine wpAny_pure ⟨rfl, h', tk', rfl, hS', fun b o hb e => ?_⟩
          have n1 : b ≠ s.heap.objs.size := Nat.ne_of_lt hb
          have n2 : b ≠ (s.heap.push { cls := .type "set", dict := none, data := .set #[] 0 (.fresh 0 0 (!w.params.followText "set-order")) }).objs.size := by
            rw [Heap.size_push]
            exact Nat.ne_of_lt (Nat.lt_succ_of_lt hb)
          exact hm.heap b o (by simp only [List.mem_cons, List.mem_singleton, List.not_mem_nil, or_false, not_or]; exact ⟨n1, n2⟩) (Heap.get?_push_of_some _ (Heap.get?_push_of_some _ e))
      · cases r with
        | error e => exact hr
        | ok fl =>
          cases fl with
          | ret r =>
            obtain ⟨rfl, h', tk, rfl, hS', hk'⟩ := hr
            repeat (any_goals (first | assumption | wp_step))
            exact h _ _ hS' hk'
          | _ => exact hr.elim
    | _ => exact hr.elim
end
section
variable {prog : Program} {w : World} {A : Around} {E : Value → Shared → Prop} {s : Shared}
theorem call_set_tupleM {l : Addr} {items : Array Value} {val : Nat → Key} {Q : Value → Shared → Prop} (hh : A.handled = none) (hl : s.heap.IsTuple l items) (hval : ∀ i v, items[i]? = some v → RelV (kV (val i)) v) (hb : items.size + 1 < scanBound)
    (h : ∀ (h' : Heap) (tk : Nat), SetM prog w h' s.heap.objs.size (fun k' => decide (k' ∈ metK val items.size)) (metK val items.size).length → (∀ b o, b < s.heap.objs.size → s.heap.get? b = some o → h'.get? b = some o) → Q (.ref s.heap.objs.size) { s with heap := h', toks := tk }) :
    wpAny (model prog w) A (call (.type "set") [.ref l]) Q E s := by
  obtain ⟨c, tl, hmro⟩ := PySem.F.called_set.mro
  have made := PySem.F.called_set.made
  have sub := PySem.F.called_set.sub
  refine wpAny_call (codeAny_of_tree ?_)
  show wpAny _ _ (callAny (.type "set") _) _ _ _
  refine wpAny_pure ⟨Code.quiet_builtin _ (by decide +kernel), codeAny_builtin PySem.F.entry_type_call ?_⟩
  rw [Around.under_plain (weight_type_call_type "set" [.ref l] []) rfl]
  have f1 := PySem.F.called_set.notType
  have f2 := PySem.F.called_set.canCreate
  have f3 := PySem.F.typeCall_set_1 (.ref l)
  repeat (any_goals (first | assumption | wp_step))
  refine codeAny_mono (code_set_led1 (.ref l) (E := E) (Q₁ := fun obj t => obj = .ref s.heap.objs.size ∧ t = { s with heap := s.heap.push { cls := .type "set", dict := none, data := .set #[] 0 (.fresh 0 0 (!w.params.followText "set-order")) } }) ⟨rfl, rfl⟩) fun r t hr => ?_
  cases r with
  | error e => exact hr
  | ok fl =>
    cases fl with
    | ret obj =>
      obtain ⟨rfl, rfl⟩ := hr
      have at0 : (s.heap.push { cls := .type "set", dict := none, data := .set #[] 0 (.fresh 0 0 (!w.params.followText "set-order")) }).get? s.heap.objs.size = some { cls := .type "set", dict := none, data := .set #[] 0 (.fresh 0 0 (!w.params.followText "set-order")) } := Heap.get?_push_size _ rfl
      have ty0 : Shared.TypeIs { s with heap := s.heap.push { cls := .type "set", dict := none, data := .set #[] 0 (.fresh 0 0 (!w.params.followText "set-order")) } } (.ref s.heap.objs.size) "set" := ⟨_, at0, rfl⟩
      have i1 := PySem.F.called_set.init.lookup
      have i2 := PySem.F.called_set.init.bind (.ref s.heap.objs.size)
      repeat (any_goals (first | assumption | wp_step))
      refine codeAny_mono (codeAny_call_builtin (R := wants (fun r t => r = .none ∧ ∃ h' tk, t = { s with heap := h', toks := tk } ∧ SetM prog w h' s.heap.objs.size (fun k' => decide (k' ∈ metK val items.size)) (metK val items.size).length ∧
          (∀ b o, b < s.heap.objs.size → s.heap.get? b = some o → h'.get? b = some o)) E) PySem.F.called_set.init.plain PySem.F.entry_set_init (check_set_init_1 ty0 ?_)) fun r t hr => ?_
      · obtain ⟨⟨cls, dd, dt, sl⟩, ho, hc, nl, hd⟩ := hl
        simp only at hc hd
        subst hc hd
        have ho' : (s.heap.push { cls := .type "set", dict := none, data := .set #[] 0 (.fresh 0 0 (!w.params.followText "set-order")) }).get? l = some { cls := .type "tuple", dict := dd, data := .seq items nl, slots := sl } := Heap.get?_push_of_some _ ho
        have q1 := PySem.F.sub_tuple_set
        have q2 := PySem.F.sub_tuple_frozenset
        have q3 : (Value.type "tuple" == Value.type "dict") = false := by decide
        have hl1 : (s.heap.push { cls := .type "set", dict := none, data := .set #[] 0 (.fresh 0 0 (!w.params.followText "set-order")) }).IsTuple l items := ⟨_, ho', rfl, nl, rfl⟩
        unfold Builtin.«set.__init__» noKeywords Builtin.Frozenset.updateFrom
        generalize hPI : pyIter = PI
        wp_walk
        subst hPI
        refine wpAny_pyIter_tuple hl1 ?_
        refine wpAny_bind (wpAny_runValue ?_)
        have hlS : l < s.heap.objs.size := Heap.lt_size ho
        have h3 : A.in1.in1.in1.handled = none := by simp [hh]
        have neI : l ≠ (s.heap.push { cls := .type "set", dict := none, data := .set #[] 0 (.fresh 0 0 (!w.params.followText "set-order")) }).objs.size := by
          rw [Heap.size_push]
          exact Nat.ne_of_lt (Nat.lt_succ_of_lt hlS)
        have hSf : s.heap.objs.size ∉ [(s.heap.push { cls := .type "set", dict := none, data := .set #[] 0 (.fresh 0 0 (!w.params.followText "set-order")) }).objs.size, l] := by
          rw [Heap.size_push]
          simp only [List.mem_cons, List.mem_singleton, List.not_mem_nil, or_false, not_or]
          exact ⟨Nat.ne_of_lt (Nat.lt_succ_self _), Nat.ne_of_gt hlS⟩
        refine key_loopM ((Walks.tuple h3 _ l neI items).toS) s.heap.objs.size hSf val hval hb (items.size - 0) 0 _ (by omega) (Nat.zero_le _) ⟨⟨_, Heap.get?_push_size _ rfl, rfl, rfl⟩, (hl1.push _)⟩ ?hS0 ?hR
        case hS0 =>
          have hget : ((s.heap.push { cls := .type "set", dict := none, data := .set #[] 0 (.fresh 0 0 (!w.params.followText "set-order")) }).push { cls := .type "tuple_iterator", data := .fields #[.ref l, .int 0 0] }).get? s.heap.objs.size = some { cls := .type "set", dict := none, data := .set #[] 0 (.fresh 0 0 (!w.params.followText "set-order")) } := Heap.get?_push_of_some _ at0
          exact ⟨_, #[], 0, _, hget, ⟨rfl, rfl, rfl⟩, rfl, (fun e he => by simp at he), (fun k => by simp [metK]), (by decide), (by rfl), rfl, List.Pairwise.nil, by cases w.params.followText "set-order" <;> simp [SetTable.fresh]⟩
        case hR =>
          intro t hm hS'
          obtain ⟨h', g', d', tk', os'⟩ := t
          have eg : g' = s.gens := hm.gens
          have ed : d' = s.drawn := hm.drawn
          have eo : os' = s.os := hm.os
          subst eg ed eo
          show wpAny _ _ _ _ _ _
          refine wpAny_pure ?_
          show wpAny _ _ (ret Value.none) _ _ _
          refine wpAny_pure ⟨rfl, h', tk', rfl, hS', fun b o hb e => ?_⟩
          have n1 : b ≠ s.heap.objs.size := Nat.ne_of_lt hb
          have n2 : b ≠ (s.heap.push { cls := .type "set", dict := none, data := .set #[] 0 (.fresh 0 0 (!w.params.followText "set-order")) }).objs.size := by
            rw [Heap.size_push]
            exact Nat.ne_of_lt (Nat.lt_succ_of_lt hb)
          exact hm.heap b o (by simp only [List.mem_cons, List.mem_singleton, List.not_mem_nil, or_false, not_or]; exact ⟨n1, n2⟩) (Heap.get?_push_of_some _ (Heap.get?_push_of_some _ e))
      · cases r with
        | error e => exact hr
        | ok fl =>
          cases fl with
          | ret r =>
            obtain ⟨rfl, h', tk, rfl, hS', hk'⟩ := hr
            repeat (any_goals (first | assumption | wp_step))
            exact h _ _ hS' hk'
          | _ => exact hr.elim
    | _ => exact hr.elim
end
end Ev

set_option Elab.async false
set_option linter.all false
set_option maxRecDepth 100000
set_option maxHeartbeats 4000000
/-! How many unlike ones. -/
namespace Ev
open PySem PySem.Spec PyProof.Rows L2
local instance (priority := 10000) keyBEqS : BEq Key := instBEqOfDecidableEq
local instance (priority := 10000) keyLawS : LawfulBEq Key := inferInstanceAs (@LawfulBEq Key instBEqOfDecidableEq)
/-! ### how many unlike ones -/
def keysD (ds : List D) : Option (List Key) := match allI ds with
  | some ns => some (ns.map .inl)
  | none => (allS ds).map fun xs => xs.map .inr
theorem keys_reps {K : PySem.W.Frag} {G : Hp} {ρ : List Addr} {ds : List D} {vs : List V} {ks : List Key} (r : Reps K G ρ ds vs) (h : keysD ds = some ks) : vs = ks.map kV := by
  unfold keysD at h
  split at h
  · rename_i ns e
    cases h
    rw [r.ints e, List.map_map]
    rfl
  · obtain ⟨xs, e, rfl⟩ := Option.map_eq_some_iff.mp h
    rw [r.strs e, List.map_map]
    rfl
theorem foldK_nodup : ∀ (ks σ : List Key), σ.Nodup → (ks.foldl stepK σ).Nodup
  | [], _, h => h
  | k :: ks, σ, h => by
    refine foldK_nodup ks (stepK σ k) ?_
    unfold stepK
    split
    · exact h
    · rename_i hn
      refine List.nodup_append.mpr ⟨h, by simp, fun a ha b hb => ?_⟩
      rw [List.mem_singleton] at hb
      subst hb
      intro e
      subst e
      exact hn ha
theorem foldK_mem : ∀ (ks σ : List Key) (k : Key), k ∈ ks.foldl stepK σ ↔ k ∈ σ ∨ k ∈ ks
  | [], σ, k => by simp
  | x :: ks, σ, k => by
    have e := stepK_mem σ x k
    rw [List.foldl_cons, foldK_mem ks (stepK σ x) k, List.mem_cons]
    have e2 : k ∈ stepK σ x ↔ k ∈ σ ∨ k = x := by
      have := congrArg (· = true) e
      simpa using this
    rw [e2, or_assoc]
theorem len_le_of {α : Type} [DecidableEq α] : ∀ {l m : List α}, l.Nodup → (∀ a ∈ l, a ∈ m) → l.length ≤ m.length
  | [], _, _, _ => Nat.zero_le _
  | a :: l, m, h, hs => by
    rw [List.nodup_cons] at h
    have ha := hs a List.mem_cons_self
    have := len_le_of (l := l) (m := m.erase a) h.2 fun b hb => (List.mem_erase_of_ne fun e => h.1 (by rw [← e]; exact hb)).mpr (hs b (List.mem_cons_of_mem _ hb))
    rw [List.length_erase_of_mem ha] at this
    have : 0 < m.length := List.length_pos_of_mem ha
    rw [List.length_cons]
    omega
theorem nubI_mem : ∀ (l : List Int) (a : Int), a ∈ nubI l ↔ a ∈ l
  | [], a => Iff.rfl
  | x :: l, a => by
    unfold nubI
    split
    · rename_i h
      rw [nubI_mem l a, List.mem_cons]
      have : x ∈ l := by simpa using h
      constructor
      · exact .inr
      · rintro (e | e)
        · subst e; exact this
        · exact e
    · rw [List.mem_cons, List.mem_cons, nubI_mem l a]
theorem nubI_nodup : ∀ l : List Int, (nubI l).Nodup
  | [] => List.nodup_nil
  | x :: l => by
    unfold nubI
    split
    · exact nubI_nodup l
    · rename_i h
      exact List.nodup_cons.mpr ⟨fun m => h (by simpa using (nubI_mem l x).mp m), nubI_nodup l⟩
theorem nubS_mem : ∀ (l : List Str) (a : Str), a ∈ nubS l ↔ a ∈ l
  | [], a => Iff.rfl
  | x :: l, a => by
    unfold nubS
    split
    · rename_i h
      rw [nubS_mem l a, List.mem_cons]
      have : x ∈ l := by simpa using h
      constructor
      · exact .inr
      · rintro (e | e)
        · subst e; exact this
        · exact e
    · rw [List.mem_cons, List.mem_cons, nubS_mem l a]
theorem nubS_nodup : ∀ l : List Str, (nubS l).Nodup
  | [] => List.nodup_nil
  | x :: l => by
    unfold nubS
    split
    · exact nubS_nodup l
    · rename_i h
      exact List.nodup_cons.mpr ⟨fun m => h (by simpa using (nubS_mem l x).mp m), nubS_nodup l⟩
theorem map_nodup {α β : Type} {f : α → β} (hf : ∀ a b, f a = f b → a = b) : ∀ {l : List α}, l.Nodup → (l.map f).Nodup
  | [], _ => List.nodup_nil
  | a :: l, h => by
    rw [List.nodup_cons] at h
    refine List.nodup_cons.mpr ⟨fun m => ?_, map_nodup hf h.2⟩
    obtain ⟨b, hb, e⟩ := List.mem_map.mp m
    have e2 := hf _ _ e
    subst e2
    exact h.1 hb
theorem foldK_len {ks ls : List Key} (hn : ls.Nodup) (hm : ∀ k, k ∈ ls ↔ k ∈ ks) : (ks.foldl stepK []).length = ls.length := by
  have h1 : ∀ k, k ∈ ks.foldl stepK [] ↔ k ∈ ls := fun k => by
    rw [foldK_mem, hm]
    simp
  exact Nat.le_antisymm (len_le_of (foldK_nodup ks [] List.nodup_nil) fun k h => (h1 k).mp h) (len_le_of hn fun k h => (h1 k).mpr h)
theorem lenSet_keys {ds : List D} {z : List D} (h : nubA ds = some z) : ∃ ks, keysD ds = some ks ∧ ks.length = ds.length ∧ (ks.foldl stepK []).length = z.length := by
  unfold nubA at h
  unfold keysD
  split at h
  · rename_i ns e
    cases h
    refine ⟨_, by first | rw [e] | rfl, ?_, ?_⟩
    · rw [List.length_map]
      have g : ∀ (ds : List D) (ns : List Int), allI ds = some ns → ns.length = ds.length := by
        intro ds
        induction ds with
        | nil => intro ns e; cases e; rfl
        | cons d ds ih =>
          intro ns e
          cases d with
          | int i =>
            obtain ⟨m, e1, rfl⟩ := Option.map_eq_some_iff.mp (show (allI ds).map (i :: ·) = some ns from e)
            rw [List.length_cons, List.length_cons, ih m e1]
          | _ => cases e
      exact g ds ns e
    · rw [List.length_map, foldK_len (ls := (nubI ns).map .inl) (map_nodup (fun a b e => by injection e) (nubI_nodup ns)) fun k => ?_, List.length_map]
      simp only [List.mem_map, nubI_mem]
  · rename_i e
    split at h
    · rename_i xs e2
      cases h
      refine ⟨_, by first | (rw [e, e2]; rfl) | (rw [e2]; rfl) | rfl, ?_, ?_⟩
      · rw [List.length_map]
        have g : ∀ (ds : List D) (ns : List Str), allS ds = some ns → ns.length = ds.length := by
          intro ds
          induction ds with
          | nil => intro ns e; cases e; rfl
          | cons d ds ih =>
            intro ns e
            cases d with
            | str i =>
              obtain ⟨m, e1, rfl⟩ := Option.map_eq_some_iff.mp (show (allS ds).map (i :: ·) = some ns from e)
              rw [List.length_cons, List.length_cons, ih m e1]
            | _ => cases e
        exact g ds xs e2
      · rw [List.length_map, foldK_len (ls := (nubS xs).map .inr) (map_nodup (fun a b e => by injection e) (nubS_nodup xs)) fun k => ?_, List.length_map]
        simp only [List.mem_map, nubS_mem]
    · cases h
theorem range_getD (ks : List Key) (d : Key) : (List.range ks.length).map (fun i => ks.getD i d) = ks := by
  refine List.ext_getElem (by simp) fun i h1 h2 => ?_
  simp [List.getD_eq_getElem?_getD, List.getElem?_eq_getElem h2]
theorem metK_all (ks : List Key) (d : Key) : metK (fun i => ks.getD i d) ks.length = ks.foldl stepK [] := by
  unfold metK
  rw [range_getD]
section
variable {X : Cx} {ca : Nat → Value} {W : WX} {F : Fns} {a : Expr} {a' : E} {p p2 q pos : Pos} {bo : Bool}
/-- len(set(xs)) -/
theorem e_lenset (hc : X.calm = true) (hg : Gl X "len") (hm : X.mg "len" = none) (hg2 : Gl X "set") (hm2 : X.mg "set" = none) (ha : PE X a (DE X ca W F bo a')) (na : starEach [a] X.env = (false, eval a X.env) :: starEach [] X.env) :
    PE X (.Call (.Name "len" p) [.Call (.Name "set" p2) [a] [] q] [] pos) (DN X.K ca W (RV X.K) (ev F (.bi .lenset (.cons a' .nil)))) := by
  refine ⟨fun pins s σ H Q I h => ?_⟩
  have h := bi_read (bo := bo) h
  have h1 : DE X ca W F bo a' σ H fun v H1 => rBi X.K .lenset [v] H1 Q := by
    refine DN.one (γ := List D) (k := fun env d => M.bnd (evs F .nil env) fun ds => M.ret (d :: ds)) h fun env S H1 G1 ρ1 d v rl r q => ?_
    have q : Aft X.K (REs X.K bo) _ H1 G1 ρ1 (M.ret [d] S) _ := q
    exact Aft.ret (RR := REs X.K bo) rl.toHold q (.cons r .nil)
  refine Call_ (ld_blt I hg hm boot_len ?_)
  refine PyProof.Rows.callWith_builtin1 (PyProof.Rows.args_cons ?_ rfl) rfl rfl
  refine Call_ (ld_blt I hg2 hm2 boot_set ?_)
  refine PyProof.Rows.callWith_type1 (PyProof.Rows.args_cons (thn (ha.run pins s σ H _ I h1) fun v s1 ⟨x, H1, I1, r1, q1⟩ => PyProof.Rows.args_nil ?_) na) na rfl
  obtain ⟨ds, z, S, G, ρ, hd, hr, hf, q⟩ := q1
  have hf : one lenSetD ds = some z := hf
  unfold one at hf
  split at hf
  · rename_i d _
    obtain ⟨_, e, rv⟩ := pr1 hr
    cases e
    unfold lenSetD at hf
    obtain ⟨nb, e, rfl⟩ := Option.map_eq_some_iff.mp hf
    cases es : seqD d with
    | none => rw [es] at e; cases e
    | some ds =>
      rw [es] at e
      have e : (if ds.length ≤ 4000 then nubA ds else none) = some nb := e
      split at e
      · rename_i hz
        obtain ⟨ks, e1, e2, e3⟩ := lenSet_keys e
        have keyAt : ∀ {vs : List V} {its : List Value}, Reps X.K G ρ ds vs → Vals vs its → its.toArray.size = ks.length ∧ ∀ i v, its.toArray[i]? = some v → RelV (kV ((fun i => ks.getD i (.inl 0)) i)) v := fun {vs its} rr rl => by
          have ev := keys_reps rr e1
          subst ev
          refine ⟨by rw [List.size_toArray, ← rl.length, List.length_map], fun i v hv => ?_⟩
          have hi : i < ks.length := by
            rw [← List.length_map (f := kV), rl.length, ← List.size_toArray]
            exact (Array.getElem?_eq_some_iff.mp hv).1
          obtain ⟨u, hu, ru⟩ := rl.get (i := i) (x := kV ks[i]) (by simp [hi])
          have : u = v := by
            rw [List.getElem?_toArray, hu] at hv
            cases hv
            rfl
          subst this
          show RelV (kV (ks.getD i (.inl 0))) u
          rw [List.getD_eq_getElem?_getD, List.getElem?_eq_getElem hi]
          exact ru
        have fin : ∀ {n : Nat}, n = ks.length → ∀ (h' : Heap) (tk : Nat), h'.SetOf (mixKind X.prog X.w) s1.heap.objs.size (fun k' => decide (k' ∈ metK (fun i => ks.getD i (.inl 0)) n)) (metK (fun i => ks.getD i (.inl 0)) n).length →
            (∀ b o, b < s1.heap.objs.size → s1.heap.get? b = some o → h'.get? b = some o) →
            wpAny (model X.prog X.w) X.A (spliced (backTo pos (starEach [] X.env))) (fun vs s₂ => wpAny (model X.prog X.w) X.A (call (.builtin "len") (Value.ref s1.heap.objs.size :: vs)) (EP X pins σ Q) X.xe s₂) X.xe { s1 with heap := h', toks := tk } := fun {n} en h' tk hS hk => by
          subst en
          refine PyProof.Rows.args_nil ?_
          rw [metK_all, e3] at hS
          obtain ⟨o, es, ep, t, ho, hex, hd2, _, _, _, hf2, hn⟩ := hS
          have I2 : Inv X pins σ H1 { s1 with heap := h', toks := tk } := I1.kept fun b o e => hk b o (Heap.lt_size e) e
          have hle : nb.length ≤ 4000 := by
            rw [← e3]
            have := metK_le (fun i => ks.getD i (.inl 0)) ks.length
            rw [metK_all] at this
            omega
          exact call_len_set ho hex hd2 hf2 (by rw [hn] <;> omega) ⟨.int nb.length, H1, I2.tok _, ⟨_, by rw [hn]⟩, q _ _ _ .refl hd rfl⟩
        have room : ks.length + 1 < scanBound := by
          rw [e2]
          unfold scanBound
          omega
        cases d with
        | lst xs =>
          cases es
          obtain ⟨a, vs, rfl, h1, h2, _⟩ := rv.list hd
          obtain ⟨its, r, pl, _⟩ := I1.list h1
          obtain ⟨k1, k2⟩ := keyAt h2 r
          cases r1
          exact call_set_listM (I1.ok.hd hc) pl.isList k2 (by rw [k1]; exact room) fun h' tk hS hk => fin k1 h' tk hS.setOf hk
        | tup xs =>
          cases es
          obtain ⟨a, vs, rfl, h1, h2, _⟩ := rv.tup hd
          obtain ⟨its, r, pl, _⟩ := I1.tuple h1
          obtain ⟨k1, k2⟩ := keyAt h2 r
          cases r1
          exact call_set_tupleM (I1.ok.hd hc) pl k2 (by rw [k1]; exact room) fun h' tk hS hk => fin k1 h' tk hS.setOf hk
        | _ => cases es
      · cases e
  · cases hf
end
end Ev

set_option Elab.async false
set_option linter.all false
set_option maxRecDepth 100000
set_option maxHeartbeats 2000000
/-! repr(..), where no guard stands. -/
namespace Ev
open PySem PySem.Spec PyProof.Rows L2
mutual
theorem toP_noDict : ∀ (d : D) (n : Nat), d.pl n = true → d.toP.hasDict = false
  | .non, _, _ => rfl
  | .bl _, _, _ => rfl
  | .int _, _, _ => rfl
  | .str _, _, _ => rfl
  | .tup ds, n, p => by
    cases n with
    | zero => cases p
    | succ n =>
      show PyData.hasDict (.tuple (D.toPs ds)) = false
      unfold PyData.hasDict
      exact toPs_noDict ds n p
  | .lst ds, n, p => by
    cases n with
    | zero => cases p
    | succ n =>
      show PyData.hasDict (.list (D.toPs ds)) = false
      unfold PyData.hasDict
      exact toPs_noDict ds n p
  | .dic _ _, _, p => by cases p
  | .cell _, _, p => by cases p
theorem toPs_noDict : ∀ (ds : List D) (n : Nat), D.pls ds n = true → PyData.hasDictAll (D.toPs ds) = false
  | [], _, _ => by
    show PyData.hasDictAll [] = false
    unfold PyData.hasDictAll
    rfl
  | d :: ds, n, p => by
    obtain ⟨p1, p2⟩ := Bool.and_eq_true_iff.mp (show (d.pl n && D.pls ds n) = true from p)
    show PyData.hasDictAll (d.toP :: D.toPs ds) = false
    unfold PyData.hasDictAll
    rw [toP_noDict d n p1, toPs_noDict ds n p2]
    rfl
end
/-! ### list(text) -/
section
variable {X : Cx} {ca : Nat → Value} {W : WX} {F : Fns} {a : Expr} {a' : E} {pos p : Pos}
theorem cr_listStr (hc : X.calm = true) : CallR X (.type "list") (fun xs H Q => ∃ z : Str, xs = [.str z] ∧ z.cps.size ≤ sizeLine ∧ ∀ l, H l = none → Q (.ref l) (upd H l (.lst (z.cps.toList.map fun c => V.str ⟨#[c]⟩)))) := by
  intro pins s σ H xs us Q I r h
  obtain ⟨z, rfl, hz, q⟩ := h
  obtain ⟨u, rfl, ⟨t, rfl⟩⟩ := vals1 r
  refine call_list_str (I.ok.hd hc) z t (hn := hz) fun h' tk its c kp at' items => ?_
  have vs : Vals (z.cps.toList.map fun c => V.str ⟨#[c]⟩) its.toList := by
    obtain ⟨e1, e2⟩ := items
    have go : ∀ (l : List V) (m : List Value), l.length = m.length → (∀ (i : Nat) (x : V) (u : Value), l[i]? = some x → m[i]? = some u → RelV x u) → Vals l m := by
      intro l
      induction l with
      | nil =>
        intro m hl _
        cases m with
        | nil => exact .nil
        | cons _ _ => simp at hl
      | cons x l ih =>
        intro m hl hm
        cases m with
        | nil => simp at hl
        | cons u m => exact .cons (hm 0 x u rfl rfl) (ih m (by simpa using hl) fun i x u h1 h2 => hm (i + 1) x u (by simpa using h1) (by simpa using h2))
    refine go _ _ (by rw [List.length_map, Array.length_toList, Array.length_toList, e1]) fun i x u h1 h2 => ?_
    obtain ⟨ch, t', hch, rfl⟩ := e2 i u (by simpa using h2)
    rw [List.getElem?_map] at h1
    obtain ⟨c', hc', rfl⟩ := Option.map_eq_some_iff.mp h1
    have : c' = ch := by
      have z1 : z.cps[i]? = some c' := by simpa using hc'
      rw [hch] at z1
      cases z1
      rfl
    subst this
    exact ⟨_, rfl⟩
  refine ⟨.ref s.heap.objs.size, upd H s.heap.objs.size (.lst (z.cps.toList.map fun c => V.str ⟨#[c]⟩)), I.laid (t' := tk) kp (Nat.le_refl _) ⟨by rw [List.length_map, Array.length_toList]; exact hz, its.toList, c, vs, by simpa using at'⟩, rfl, q _ (I.hok.fresh (Nat.le_refl _))⟩
theorem reps_chars {K : PySem.W.Frag} {G : Hp} {ρ : List Addr} : ∀ cs : List Nat, Reps K G ρ (cs.map fun c => D.str ⟨#[c]⟩) (cs.map fun c => V.str ⟨#[c]⟩)
  | [] => .nil
  | _ :: cs => .cons rfl (reps_chars cs)
theorem f_lstr {bo : Bool} (hc : X.calm = true) (ha : PE X a (DE X ca W F bo a')) (hg : Gl X "list") (hm : X.mg "list" = none) (hs : starEach [a] X.env = (false, eval a X.env) :: starEach [] X.env) : PE X (.Call (.Name "list" p) [a] [] pos) (DF X.K ca W (ev F (.lstr a'))) := by
  refine PE.imp (pe_callTy (cr_listStr hc) hg hm (by decide +kernel) (pa_cons ha pa_nil hs) (by decide) (by decide) hs rfl) fun σ H Q q => ?_
  obtain ⟨env, S, G, ρ, rl, q⟩ := q
  refine ⟨env, S, G, ρ, rl, ?_⟩
  have q : Aft X.K (RN X.K H) _ H G ρ (M.bnd (ev F a' env) (fun x => match x with
    | .str z => if z.cps.size ≤ LIM then M.ret (D.lst (z.cps.toList.map fun c => .str ⟨#[c]⟩)) else M.bad
    | _ => M.bad) S) Q := q
  unfold M.bnd at q
  cases e : ev F a' env S with
  | bad => rw [e] at q; exact q
  | exc y S' => rw [e] at q; exact q
  | ok x S' =>
    rw [e] at q
    intro v H2 G2 ρ2 x2 hd2 r2
    have q := Aft.later x2 q
    cases x with
    | str z =>
      cases (show v = .str z from r2.rw.see.str)
      have q : Aft X.K (RN X.K H) _ H2 G2 ρ2 ((if z.cps.size ≤ LIM then M.ret (D.lst (z.cps.toList.map fun c => .str ⟨#[c]⟩)) else M.bad) S') Q := q
      split at q
      · rename_i hz
        exact ⟨z, rfl, by rw [← LIM_eq]; exact hz, freshL hd2 x2.none (reps_chars _) (by rw [List.length_map, Array.length_toList]; exact hz) q⟩
      · exact q.elim
    | _ => exact q.elim
end
section
variable {X : Cx}
theorem bi_repr (hg : X.A.guards = some []) (hu : X.A.units + 64 < cLine) : CallR X (.builtin "repr") (rBi X.K .repr) := by
  refine bi_one rfl fun pins s σ H vs us Q I r h => ?_
  obtain ⟨v, d, z, S, G, ρ, rfl, hd, rv, hf, q⟩ := h
  have go : ∀ {a : Addr}, v = .ref a → (if d.plain && d.toP.showable && decide (d.toP.shown.length ≤ LIM) then some (D.str d.toP.shown) else none) = some z → wpAny (model X.prog X.w) X.A (call (.builtin "repr") us) (EP X pins σ Q) X.xe s := fun {a} ev hf => by
    split at hf
    · rename_i p
      cases hf
      simp only [Bool.and_eq_true, decide_eq_true_eq] at p
      obtain ⟨⟨p1, p2⟩, p3⟩ := p
      subst ev
      obtain ⟨u, rfl, ru⟩ := vals1 r
      obtain ⟨as, rd⟩ := Dp.reads I _ _ u (rv.dp hd p1) ru
      cases ru
      have hdp := toP_depth d 40 p1
      refine repr_of_reads' rd p2 (PyData.noDict_hsm (toP_noDict d 40 p1)) hg (by omega) (fun _ _ e => e) (fun h' u tk hk => ?_) (by rw [← LIM_eq]; exact p3)
      exact ⟨.str d.toP.shown, H, I.kept hk, ⟨_, rfl⟩, q _ _ _ .refl hd rfl⟩
    · cases hf
  cases d with
  | tup ds =>
    obtain ⟨a, ws, rfl, _⟩ := rv.tup hd
    exact go rfl hf
  | lst ds =>
    obtain ⟨a, ws, rfl, _⟩ := rv.list hd
    exact go rfl hf
  | _ => cases hf
end
end Ev

set_option Elab.async false
set_option linter.all false
set_option maxRecDepth 100000
set_option maxHeartbeats 2000000
/-! sorted(..) of a list of data that can be compared. -/
namespace Ev
open PySem PySem.Spec PyProof.Rows L2 PySem.W
theorem alikes_of {ds : List D} (h : alikesB ds = true) : AllAlike (ds.map D.toP) := by
  intro d hd d' hd'
  obtain ⟨a, ma, rfl⟩ := List.mem_map.mp hd
  obtain ⟨b, mb, rfl⟩ := List.mem_map.mp hd'
  exact List.all_eq_true.mp (List.all_eq_true.mp h a ma) b mb
theorem sortable_of {ds : List D} (h : (tupB ds || flatB ds) = true) : Sortable (ds.map D.toP) := by
  rw [Bool.or_eq_true] at h
  rcases h with h | h
  · refine .inl fun d hd => ?_
    obtain ⟨a, ma, rfl⟩ := List.mem_map.mp hd
    have := List.all_eq_true.mp h a ma
    cases a with
    | tup xs =>
      cases xs with
      | nil => cases this
      | cons x xs => exact ⟨x.toP, D.toPs xs, by simp [D.toP, D.toPs]⟩
    | _ => cases this
  · refine .inr fun d hd => ?_
    obtain ⟨a, ma, rfl⟩ := List.mem_map.mp hd
    have := List.all_eq_true.mp h a ma
    cases a with
    | tup xs => cases this
    | non => cases this
    | _ => simp [D.toP]
section
variable {X : Cx}
theorem reps_len {K : PySem.W.Frag} {G : Hp} {ρ : List Addr} : ∀ {ds : List D} {vs : List V}, Reps K G ρ ds vs → ds.length = vs.length
  | [], _, h => by cases h; rfl
  | d :: ds, _, h => by
    obtain ⟨v, r, rfl, _, h2⟩ := h
    rw [List.length_cons, List.length_cons, reps_len h2]
theorem reps_zip {K : PySem.W.Frag} {G : Hp} {ρ : List Addr} : ∀ {ds : List D} {vs : List V}, Reps K G ρ ds vs → ∀ p ∈ ds.zip vs, Rep K G ρ p.1 p.2
  | [], _, h => by cases h; simp
  | d :: ds, _, h => by
    obtain ⟨v, r, rfl, h1, h2⟩ := h
    intro p hp
    rw [List.zip_cons_cons] at hp
    rcases List.mem_cons.mp hp with rfl | hp
    · exact h1
    · exact reps_zip h2 p hp
theorem reps_unzip {K : PySem.W.Frag} {G : Hp} {ρ : List Addr} : ∀ {ps : List (D × V)}, (∀ p ∈ ps, Rep K G ρ p.1 p.2) → Reps K G ρ (ps.map (·.1)) (ps.map (·.2))
  | [], _ => rfl
  | p :: ps, h => ⟨p.2, _, rfl, h p (List.mem_cons_self ..), reps_unzip fun q m => h q (List.mem_cons_of_mem _ m)⟩
theorem each_zip : ∀ {ds : List D} {vs : List V} {us : List Value}, ds.length = vs.length → Vals vs us → EachIs (fun u (p : D × V) => RelV p.2 u) us (ds.zip vs)
  | [], [], _, _, h => by cases h; exact .nil
  | d :: ds, v :: vs, _, l, h => by
    cases h with
    | cons h1 h2 => exact .cons h1 (each_zip (by simpa using l) h2)
  | [], v :: vs, _, l, _ => by cases l
  | d :: ds, [], _, l, _ => by cases l
theorem each_vals : ∀ {us : List Value} {ps : List (D × V)}, EachIs (fun u (p : D × V) => RelV p.2 u) us ps → Vals (ps.map (·.2)) us
  | _, _, .nil => .nil
  | _, _, .cons h1 h2 => .cons h1 (each_vals h2)
theorem cr_srt (hu : X.A.units + 64 < cLine) : CallR X (.builtin "sorted") (fun vs H Q => ∃ (a : Addr) (xs : List V) (ds : List D) (G : Hp) (ρ : List Addr), vs = [.ref a] ∧ SqL X.K H a xs ∧ Reps X.K G ρ ds xs ∧ (∀ a o, G a = some o → H a = some o) ∧ (∀ d ∈ ds, d.plain = true) ∧ alikesB ds = true ∧ (tupB ds || flatB ds) = true ∧
    ∀ l ys, H l = none → Reps X.K G ρ (ds.mergeSort leD) ys → Q (.ref l) (upd H l (.lst ys))) := by
  intro pins s σ H vs us Q I r h
  obtain ⟨a, xs, ds, G, ρ, rfl, hs, hr, gh, pl, al, so, q⟩ := h
  obtain ⟨its, rv, hl, hz⟩ := I.list hs
  obtain ⟨u, rfl, ru⟩ := vals1 r
  obtain rfl : u = Value.ref a := ru
  have ln := reps_len hr
  have e := each_zip ln rv
  have me : (ds.zip xs).map (fun p => p.1.toP) = ds.map D.toP := by
    have e0 : (ds.zip xs).map Prod.fst = ds := List.map_fst_zip (by omega)
    have e1 : ((ds.zip xs).map Prod.fst).map D.toP = (ds.zip xs).map (fun p => p.1.toP) := List.map_map ..
    rw [← e1, e0]
  have rz := reps_zip hr
  have pz : ∀ p ∈ ds.zip xs, p.1.plain = true := fun p m => pl p.1 (List.of_mem_zip m).1
  have er : EachIs (fun v (p : D × V) => ∃ as, Reads s.heap v p.1.toP as) its (ds.zip xs) := (each_mem e).mono fun v p ⟨h1, h2⟩ => Dp.reads I _ p.2 v (Rep.dp gh p.1 40 p.2 (pz p h2) (rz p h2)) h1
  refine PySem.W.sorted_data (enc := fun p : D × V => p.1.toP) hl.isList e er (by rw [me]; exact alikes_of al) (by rw [me]; exact sortable_of so) (by rw [List.length_zip]; omega) (fun p m => by have := toP_depth p.1 40 (pz p m); omega) fun out lo eo => ?_
  have em : ((ds.zip xs).mergeSort (dataLe false fun p : D × V => p.1.toP)).map (·.1) = ds.mergeSort leD := by
    have e0 : (ds.zip xs).map Prod.fst = ds := List.map_fst_zip (by omega)
    have e1 := sort_maps (r := dataLe false fun p : D × V => p.1.toP) (s := leD) Prod.fst (l := ds.zip xs) fun _ _ _ _ => rfl
    rw [e0] at e1
    exact e1
  have rr : Reps X.K G ρ (ds.mergeSort leD) (((ds.zip xs).mergeSort (dataLe false fun p : D × V => p.1.toP)).map (·.2)) := by
    rw [← em]
    exact reps_unzip fun p m => rz p (List.mem_mergeSort.mp m)
  obtain ⟨n, hn⟩ := sortedAll_at s.heap its out.toArray
  refine ⟨.ref (s.heap.objs.size + 1), upd H (s.heap.objs.size + 1) (.lst (((ds.zip xs).mergeSort (dataLe false fun p : D × V => p.1.toP)).map (·.2))), I.laid (t' := s.toks) (fun _ _ => sortedAll_old) (Nat.le_succ _) ⟨?_, out, n, each_vals eo, hn⟩, rfl, q _ _ (I.hok.fresh (Nat.le_succ _)) rr⟩
  rw [List.length_map, List.length_mergeSort, List.length_zip]
  omega
/-- sorted(xs) -/
theorem f_srt {ca : Nat → Value} {W : WX} {F : Fns} {a : Expr} {a' : E} {p pos : Pos} {bo : Bool} (hu : X.A.units + 64 < cLine) (ha : PE X a (DE X ca W F bo a')) (hg : Gl X "sorted") (hm : X.mg "sorted" = none) (hs : starEach [a] X.env = (false, eval a X.env) :: starEach [] X.env) : PE X (.Call (.Name "sorted" p) [a] [] pos) (DF X.K ca W (ev F (.bi .srt (.cons a' .nil)))) := by
  refine PE.imp (pe_callB (cr_srt hu) hg hm (by decide +kernel) (pa_cons ha pa_nil hs) (by decide) (by decide) hs rfl) fun σ H Q q => ?_
  obtain ⟨env, S, G, ρ, rl, q⟩ := q
  refine ⟨env, S, G, ρ, rl, ?_⟩
  have e0 : ev F (.bi .srt (.cons a' .nil)) env S = M.bnd (ev F a' env) (fun x => M.bnd (seeD x) fun x => M.lift (sortedD x)) S := by
    show M.bnd (M.bnd (ev F a' env) fun d => M.bnd (M.ret []) fun ds => M.ret (d :: ds)) (fun ds => M.bnd (match ds with | [d] => M.bnd (seeD d) fun d => M.ret [d] | ds => M.ret ds) fun ds => M.lift (biD .srt ds)) S = _
    unfold M.bnd
    cases ev F a' env S with
    | ok x S' =>
      dsimp only [M.ret]
      cases seeD x S' <;> rfl
    | exc _ _ => rfl
    | bad => rfl
  have q : Aft X.K (RN X.K H) (WW X.K ca fun c d H' => W c d σ H') H G ρ (ev F (.bi .srt (.cons a' .nil)) env S) Q := q
  rw [e0] at q
  unfold M.bnd at q
  cases e : ev F a' env S with
  | bad => rw [e] at q; exact q
  | exc y S' => rw [e] at q; exact q
  | ok x S' =>
    rw [e] at q
    intro v H2 G2 ρ2 x2 hd2 r2
    have q := Aft.later x2 q
    obtain ⟨x', r1, q⟩ := Aft.see (k := fun x => M.lift (sortedD x)) hd2 r2.rw q
    cases x' with
    | lst ds =>
      obtain ⟨l, vs, rfl, h1, h2, h3⟩ := r1.list hd2
      have q : Aft X.K (RN X.K H) _ H2 G2 ρ2 (M.lift ((srtA ds).map D.lst) S') Q := q
      unfold srtA at q
      split at q
      · rename_i hc
        simp only [Bool.and_eq_true, decide_eq_true_eq, List.all_eq_true] at hc
        obtain ⟨⟨⟨c1, c2⟩, c3⟩, c4⟩ := hc
        refine ⟨l, vs, ds, G2, ρ2, rfl, h1, h2, hd2.gh, c1, c2, c3, fun p ys n rr => ?_⟩
        exact freshL hd2 x2.none rr (by rw [List.length_mergeSort]; exact c4) q p n
      · exact q.elim
    | _ => exact q.elim
end
end Ev

set_option Elab.async false
set_option linter.all false
set_option maxRecDepth 100000
set_option maxHeartbeats 2000000
/-! sorted(..) of a set whose table can be walked, its members data that need no heap to be read. -/
namespace Ev
open PySem PySem.Spec PyProof.Rows L2 PySem.W
section
variable {P : Program} {w : World} {A : Around} {E : Value → Shared → Prop} {s : Shared} {a : Addr}
theorem each_pick {β : Type} {R : Value → β → Prop} {C : β → Prop} : ∀ {vs : List Value}, (∀ v ∈ vs, ∃ b, C b ∧ R v b) → ∃ bs, EachIs R vs bs ∧ ∀ b ∈ bs, C b
  | [], _ => ⟨[], .nil, by simp⟩
  | v :: vs, h => by
    obtain ⟨b, c, r⟩ := h v (List.mem_cons_self ..)
    obtain ⟨bs, e, cs⟩ := each_pick fun u m => h u (List.mem_cons_of_mem _ m)
    exact ⟨b :: bs, .cons r e, fun x m => by
      rcases List.mem_cons.mp m with rfl | m
      · exact c
      · exact cs x m⟩
theorem sorted_setD {β : Type} {R : Value → β → Prop} {enc : β → PyData} {C : β → Prop} {es : Array (Int × Value)} {ep : Nat} {t : SetTable} {Q : Value → Shared → Prop} (hh : A.handled = none) (ha : SetAt s.heap a es ep t) (hf : t.fits es.size = true) (hsz : es.size < scanBound) (hr : Ris t.place.toList)
    (hl : w.params.followText "set-order" = true ∨ t.led = true) (hz : es.size ≤ sizeLine) (hR : ∀ e ∈ es.toList, ∃ b, C b ∧ R e.2 b) (hrd : ∀ v b, R v b → ∀ h : Heap, Reads h v (enc b) [])
    (hal : ∀ b b', C b → C b' → alike (enc b) (enc b') = true) (hk : ∀ bs : List β, (∀ b ∈ bs, C b) → Sortable (bs.map enc)) (hu : ∀ b, A.units + 10 + (enc b).depth < cLine)
    (hQ : ∀ s' p (vs out : List Value) (bs : List β) (c : Nat), (∀ b o, s.heap.get? b = some o → s'.heap.get? b = some o) → s'.gens = s.gens → s'.os = s.os → s.heap.objs.size ≤ p →
      s'.heap.get? p = some (seqObj "list" out.toArray c) → vs.Perm (es.toList.map (·.2)) → EachIs R vs bs → (∀ b ∈ bs, C b) → out.length = es.size → EachIs R out (bs.mergeSort (dataLe false enc)) → Q (.ref p) s') :
    wpAny (model P w) A (call (.builtin "sorted") [.ref a]) Q E s := by
  refine Calls.call_function_entry kind_sorted plain_sorted entry_sorted (args_sorted1 _) ?_
  unfold Builtin.«sorted»
  refine wpAny_bind (m := checkCount "sorted" 1 1 _) (wpAny_pure ?_)
  refine wpAny_bind (collect_set (A := A.in1) hh ha hf hsz hr hl fun s1 vs k1 hz1 g1 o1 pm => ?_)
  have hvl : vs.length = es.size := by rw [pm.length_eq, List.length_map, Array.length_toList]
  obtain ⟨bs, e, cs⟩ := each_pick (R := R) (C := C) (vs := vs) fun v hv => by
    obtain ⟨x, hx, q⟩ := List.mem_map.mp (pm.mem_iff.mp hv)
    obtain ⟨b, c, r⟩ := hR x hx
    exact ⟨b, c, q ▸ r⟩
  have bl := e.length
  refine wpAny_bind (wpAny_newList ?_ (by rw [hvl]; exact hz))
  have hoL : (s1.heap.push (seqObj "list" vs.toArray 0)).get? s1.heap.objs.size = some (seqObj "list" vs.toArray 0) := Heap.get?_push_size _ rfl
  refine wpAny_bind (wpAny_holding (list_sort_data (R := R) (enc := enc) hoL e (e.mono fun v b r => ⟨[], hrd v b r _, by simp⟩) (fun d hd d' hd' => by
    obtain ⟨b, mb, rfl⟩ := List.mem_map.mp hd
    obtain ⟨b', mb', rfl⟩ := List.mem_map.mp hd'
    exact hal b b' (cs b mb) (cs b' mb')) (hk bs cs) (by rw [← bl, hvl]; exact hz) (fun b _ => by have := hu b; simp at *; omega) fun out lo eo => ?_))
  obtain ⟨c, hc⟩ := sortedHeap_at (vs := vs) (out := out.toArray) hoL
  refine wpAny_pure ⟨_, rfl, hQ _ s1.heap.objs.size vs out bs c (fun b u e' => ?_) g1 o1 hz1 hc pm e cs (by rw [lo, ← bl, hvl]) eo⟩
  have q := k1 b u e'
  have hlt := Heap.lt_size q
  show (sortedHeap (s1.heap.push (seqObj "list" vs.toArray 0)) s1.heap.objs.size vs out.toArray).get? b = some u
  rw [sortedHeap_old (Nat.ne_of_lt hlt) (by rw [size_push']; exact Nat.lt_succ_of_lt hlt)]
  exact Heap.get?_push_of_some _ q
end
end Ev

set_option Elab.async false
set_option linter.all false
set_option maxRecDepth 100000
set_option maxHeartbeats 2000000
/-! sorted(set(..)) of whole numbers, of texts. -/
namespace Ev
open PySem PySem.Spec PyProof.Rows L2 PySem.W
local instance (priority := 10000) keyBEq3 : BEq Key := instBEqOfDecidableEq
local instance (priority := 10000) keyLaw3 : LawfulBEq Key := inferInstanceAs (@LawfulBEq Key instBEqOfDecidableEq)
theorem pw_uniq {α : Type} {le : α → α → Prop} (anti : ∀ a b, le a b → le b a → a = b) : ∀ {a b : List α}, a.Perm b → a.Pairwise le → b.Pairwise le → a = b
  | [], _, p, _, _ => p.nil_eq
  | x :: r, b, p, ha, hb => by
    cases b with
    | nil => exact absurd p.length_eq (by simp)
    | cons y t =>
      have hx : x ∈ y :: t := p.mem_iff.mp (.head _)
      have hy : y ∈ x :: r := p.mem_iff.mpr (.head _)
      have e : x = y := by
        rcases List.mem_cons.mp hx with h | h
        · exact h
        · rcases List.mem_cons.mp hy with h' | h'
          · exact h'.symm
          · exact anti _ _ ((List.pairwise_cons.mp ha).1 y h') ((List.pairwise_cons.mp hb).1 x h)
      subst e
      rw [pw_uniq anti (List.Perm.cons_inv p) (List.pairwise_cons.mp ha).2 (List.pairwise_cons.mp hb).2]
theorem insI_pw (x : Int) : ∀ ys : List Int, ys.Pairwise (· ≤ ·) → (insI x ys).Pairwise (· ≤ ·)
  | [], _ => by simp [insI]
  | y :: ys, h => by
    rw [insI]
    have h' := List.pairwise_cons.mp h
    split
    · rename_i c
      refine List.pairwise_cons.mpr ⟨fun z m => ?_, h⟩
      rcases List.mem_cons.mp m with rfl | m
      · exact c
      · exact Int.le_trans c (h'.1 z m)
    · rename_i c
      refine List.pairwise_cons.mpr ⟨fun z m => ?_, insI_pw x ys h'.2⟩
      rcases List.mem_cons.mp ((insI_perm x ys).mem_iff.mp m) with rfl | m
      · omega
      · exact h'.1 z m
theorem sortI_pw : ∀ xs : List Int, (sortI xs).Pairwise (· ≤ ·)
  | [] => .nil
  | x :: xs => insI_pw x _ (sortI_pw xs)
def leS (x y : Str) : Prop := x.cps.toList ≤ y.cps.toList
theorem leS_anti (x y : Str) (h : leS x y) (h' : leS y x) : x = y := by
  have e := List.le_antisymm h h'
  cases x
  cases y
  simp only [Array.toList_inj] at e
  rw [e]
theorem leS_trans {x y z : Str} (h : leS x y) (h' : leS y z) : leS x z := List.le_trans h h'
theorem leS_total (x y : Str) : leS x y ∨ leS y x := List.le_total _ _
theorem ltS_not {x y : Str} (h : ltS x y = false) : leS y x := by
  unfold ltS at h
  have h := of_decide_eq_false h
  exact List.not_lt.mp h
theorem ltS_le {x y : Str} (h : ltS x y = true) : leS x y := by
  unfold ltS at h
  exact List.le_of_lt (of_decide_eq_true h)
theorem insS_perm (x : Str) : ∀ ys : List Str, (insS x ys).Perm (x :: ys)
  | [] => .refl _
  | y :: ys => by
    rw [insS]
    split
    · exact ((insS_perm x ys).cons y).trans (.swap x y ys)
    · exact .refl _
theorem sortS_perm : ∀ xs : List Str, (sortS xs).Perm xs
  | [] => .refl _
  | x :: xs => (insS_perm x _).trans ((sortS_perm xs).cons x)
theorem insS_pw (x : Str) : ∀ ys : List Str, ys.Pairwise leS → (insS x ys).Pairwise leS
  | [], _ => by simp [insS]
  | y :: ys, h => by
    rw [insS]
    have h' := List.pairwise_cons.mp h
    split
    · rename_i c
      refine List.pairwise_cons.mpr ⟨fun z m => ?_, insS_pw x ys h'.2⟩
      rcases List.mem_cons.mp ((insS_perm x ys).mem_iff.mp m) with rfl | m
      · exact ltS_le c
      · exact h'.1 z m
    · rename_i c
      have c := ltS_not (by simpa using c)
      refine List.pairwise_cons.mpr ⟨fun z m => ?_, h⟩
      rcases List.mem_cons.mp m with rfl | m
      · exact c
      · exact leS_trans c (h'.1 z m)
theorem sortS_pw : ∀ xs : List Str, (sortS xs).Pairwise leS
  | [] => .nil
  | x :: xs => insS_pw x _ (sortS_pw xs)
theorem msI {zs ns : List Int} (p : zs.Perm ns) : zs.mergeSort (dataLe false fun i : Int => PyData.int i) = sortI ns := by
  rw [dataLe_int fun i : Int => i]
  refine pw_uniq (le := fun a b : Int => a ≤ b) (fun a b h h' => by omega) ((List.mergeSort_perm _ _).trans (p.trans (sortI_perm ns).symm)) ?_ (sortI_pw ns)
  have := List.pairwise_mergeSort (le := fun a b : Int => decide (a ≤ b)) (fun a b c h h' => by simp at *; omega) (fun a b => by simp; omega) zs
  exact this.imp fun h => by simpa using h
theorem msS {zs ns : List Str} (p : zs.Perm ns) : zs.mergeSort (dataLe false fun i : Str => PyData.str i) = sortS ns := by
  rw [dataLe_str fun i : Str => i]
  refine pw_uniq (le := leS) leS_anti ((List.mergeSort_perm _ _).trans (p.trans (sortS_perm ns).symm)) ?_ (sortS_pw ns)
  have := List.pairwise_mergeSort (le := fun a b : Str => decide (a.cps.toList ≤ b.cps.toList)) (fun a b c h h' => by
    simp only [decide_eq_true_eq] at *
    exact leS_trans h h') (fun a b => by
    rw [Bool.or_eq_true, decide_eq_true_eq, decide_eq_true_eq]
    exact leS_total a b) zs
  exact this.imp fun h => of_decide_eq_true h
theorem perm_of_sub {α : Type} [DecidableEq α] : ∀ {nb bs : List α}, nb.Nodup → (∀ b ∈ nb, b ∈ bs) → bs.length ≤ nb.length → bs.Perm nb
  | [], bs, _, _, l => by
    have e : bs = [] := List.eq_nil_of_length_eq_zero (by simpa using l)
    rw [e]
  | x :: nb, bs, hn, hm, l => by
    have hx := hm x (List.mem_cons_self ..)
    have hn := List.nodup_cons.mp hn
    have p := List.perm_cons_erase hx
    refine p.trans ((perm_of_sub hn.2 (fun b m => ?_) ?_).cons x)
    · exact (List.mem_erase_of_ne fun e => hn.1 (by rw [← e]; exact m)).mpr (hm b (List.mem_cons_of_mem _ m))
    · rw [List.length_erase_of_mem hx]
      rw [List.length_cons] at l
      omega
theorem rel_of_is {P : Program} {w : World} {k : Key} {v : Value} (h : (mixKind P w).is k v = true) : RelV (kV k) v := by
  rcases keyIs_shape h with ⟨i, t, rfl, rfl⟩ | ⟨x, t, rfl, rfl⟩
  · exact ⟨t, rfl⟩
  · exact ⟨t, rfl⟩
section
variable {P : Program} {w : World} {A : Around} {E : Value → Shared → Prop} {s : Shared} {a : Addr}
theorem each_of {α β : Type} {R : α → β → Prop} : ∀ {as : List α} {bs : List β}, EachIs R as bs → ∀ x ∈ as, ∃ b ∈ bs, R x b
  | _, _, .nil, x, m => by cases m
  | _, _, .cons h t, x, m => by
    rcases List.mem_cons.mp m with rfl | m
    · exact ⟨_, List.mem_cons_self .., h⟩
    · obtain ⟨b, mb, r⟩ := each_of t x m
      exact ⟨b, List.mem_cons_of_mem _ mb, r⟩
theorem sorted_setK {β : Type} [DecidableEq β] {key : β → Key} {enc : β → PyData} (kinj : ∀ a b, key a = key b → a = b) {bs nb : List β} (hnd : nb.Nodup) (hmem : ∀ b, b ∈ nb → b ∈ bs) (R : SetM P w s.heap a (fun k => decide (k ∈ bs.map key)) nb.length) (hh : A.handled = none) (hz : nb.length ≤ 4000)
    (henc : ∀ b v, RelV (kV (key b)) v → ∀ h : Heap, Reads h v (enc b) []) (hal : ∀ b b', alike (enc b) (enc b') = true) (hs : ∀ bs : List β, Sortable (bs.map enc)) (hu : ∀ b, A.units + 10 + (enc b).depth < cLine) {Q : Value → Shared → Prop}
    (hQ : ∀ s' p (out : List Value) (zs : List β) (c : Nat), (∀ b o, s.heap.get? b = some o → s'.heap.get? b = some o) → s'.gens = s.gens → s'.os = s.os → s.heap.objs.size ≤ p →
      s'.heap.get? p = some (seqObj "list" out.toArray c) → EachIs (fun v b => RelV (kV (key b)) v) out (zs.mergeSort (dataLe false enc)) → zs.Perm nb → Q (.ref p) s') :
    wpAny (model P w) A (call (.builtin "sorted") [.ref a]) Q E s := by
  obtain ⟨o, es, ep, t, ho, hex, hd, g, hm, hb, hf, hn, hr, hl⟩ := R
  refine sorted_setD (R := fun v b => RelV (kV (key b)) v) (C := fun b => b ∈ bs) (enc := enc) hh ⟨o, ho, hex.1, hd⟩ hf hb hr hl (by rw [hn, sizeLine_eq]; omega) (fun e he => ?_) (fun v b r h => henc b v r h) (fun b b' _ _ => hal b b') (fun bs _ => hs bs) hu fun s' p vs out bs' c k1 g1 o1 hp hg pm e cs ho' eo => ?_
  · obtain ⟨⟨k, hk, _⟩, _⟩ := g e he
    have hS := (hm k).mpr ⟨e, he, hk⟩
    simp only [decide_eq_true_eq] at hS
    obtain ⟨b, hb', rfl⟩ := List.mem_map.mp hS
    exact ⟨b, hb', rel_of_is hk⟩
  · refine hQ s' p out bs' c k1 g1 o1 hp hg eo (perm_of_sub hnd (fun b mb => ?_) ?_)
    · obtain ⟨x, hx, q⟩ := (hm (key b)).mp (by simp only [decide_eq_true_eq]; exact List.mem_map_of_mem (hmem b mb))
      have hv : x.2 ∈ vs := pm.mem_iff.mpr (List.mem_map_of_mem hx)
      obtain ⟨b', mb', r⟩ := each_of e _ hv
      have := (mixKind P w).inj _ _ _ q (kV_is r)
      rw [kinj _ _ this]
      exact mb'
    · rw [← e.length, pm.length_eq, List.length_map, Array.length_toList, hn]
      exact Nat.le_refl _
end
section
variable {X : Cx} {ca : Nat → Value} {W : WX} {F : Fns} {a : Expr} {a' : E} {p p2 q pos : Pos} {bo : Bool}
theorem each_relInt {K : PySem.W.Frag} {G : Hp} {ρ : List Addr} : ∀ {out : List Value} {ns : List Int}, EachIs (fun v b => RelV (kV (Sum.inl b)) v) out ns → Vals (ns.map V.int) out ∧ Reps K G ρ (ns.map D.int) (ns.map V.int)
  | _, _, .nil => ⟨.nil, rfl⟩
  | _, _, .cons h t => by
    obtain ⟨h1, h2⟩ := each_relInt (K := K) (G := G) (ρ := ρ) t
    exact ⟨.cons h h1, .cons rfl h2⟩
theorem each_relStr {K : PySem.W.Frag} {G : Hp} {ρ : List Addr} : ∀ {out : List Value} {ns : List Str}, EachIs (fun v b => RelV (kV (Sum.inr b)) v) out ns → Vals (ns.map V.str) out ∧ Reps K G ρ (ns.map D.str) (ns.map V.str)
  | _, _, .nil => ⟨.nil, rfl⟩
  | _, _, .cons h t => by
    obtain ⟨h1, h2⟩ := each_relStr (K := K) (G := G) (ρ := ρ) t
    exact ⟨.cons h h1, .cons rfl h2⟩

theorem each_vals2 {β : Type} {toV : β → V} : ∀ {out : List Value} {ns : List β}, EachIs (fun v b => RelV (toV b) v) out ns → Vals (ns.map toV) out
  | _, _, .nil => .nil
  | _, _, .cons h t => .cons h (each_vals2 t)
/-- what is wanted of a list that is sorted and nubbed -/
def PostK {β : Type} (K : PySem.W.Frag) (toV : β → V) (srt nub : List β → List β) (v : V) (H : Hp) (Q : VK) : Prop :=
  ∃ (l : Addr) (ns : List β), v = .ref l ∧ (SqL K H l (ns.map toV) ∨ SqT K H l (ns.map toV)) ∧ ns.length ≤ 4000 ∧ ∀ p, H p = none → Q (.ref p) (upd H p (.lst ((srt (nub ns)).map toV)))
theorem srtset_tail {β : Type} [DecidableEq β] [Inhabited β] {key : β → Key} {enc : β → PyData} {srt nub : List β → List β} (kinj : ∀ a b, key a = key b → a = b) (hnd : ∀ ns, (nub ns).Nodup) (hmem : ∀ ns b, b ∈ nub ns ↔ b ∈ ns)
    (henc : ∀ b v, RelV (kV (key b)) v → ∀ h : Heap, Reads h v (enc b) []) (hal : ∀ b b', alike (enc b) (enc b') = true) (hs : ∀ bs : List β, Sortable (bs.map enc)) (hu : ∀ b, X.A.units + 10 + (enc b).depth < cLine)
    (hms : ∀ zs ns : List β, zs.Perm ns → zs.mergeSort (dataLe false enc) = srt ns) (hlen : ∀ ns, (srt ns).length = ns.length) (hc : X.calm = true)
    {pins : List (Addr × Obj)} {σ : L2.St} {H1 : Hp} {s1 : Shared} {v : V} {u : Value} {Q : VK} (I1 : Inv X pins σ H1 s1) (r : RelV v u) (h : PostK X.K (fun b => kV (key b)) srt nub v H1 Q) :
    wpAny (model X.prog X.w) X.A (call (.type "set") [u]) (fun u2 s2 => wpAny (model X.prog X.w) X.A (call (.builtin "sorted") [u2]) (EP X pins σ Q) X.xe s2) X.xe s1 := by
  obtain ⟨l, ns, rfl, hq, hz, q⟩ := h
  cases r
  have nle : (nub ns).length ≤ ns.length := len_le_of (hnd ns) fun a m => (hmem ns a).mp m
  have ke : (ns.map key).length = ns.length := List.length_map ..
  have at_ : ∀ {its : List Value}, Vals (ns.map fun b => kV (key b)) its → its.toArray.size = (ns.map key).length ∧ ∀ i v, its.toArray[i]? = some v → RelV (kV ((fun i => (ns.map key).getD i (key default)) i)) v := fun {its} rl => by
    have hl : its.toArray.size = ns.length := by rw [List.size_toArray, ← rl.length, List.length_map]
    refine ⟨by rw [hl, ke], fun i v hv => ?_⟩
    have hi : i < ns.length := by
      rw [← hl]
      exact (Array.getElem?_eq_some_iff.mp hv).1
    obtain ⟨u, hu, ru⟩ := rl.get (i := i) (x := kV (key ns[i])) (by simp [hi])
    have : u = v := by
      rw [List.getElem?_toArray, hu] at hv
      cases hv
      rfl
    subst this
    show RelV (kV ((ns.map key).getD i (key default))) u
    rw [List.getD_eq_getElem?_getD, List.getElem?_map, List.getElem?_eq_getElem hi]
    exact ru
  have room : (ns.map key).length + 1 < scanBound := by
    rw [ke]
    unfold scanBound
    omega
  have fin : ∀ {n : Nat}, n = (ns.map key).length → ∀ (h' : Heap) (tk : Nat), SetM X.prog X.w h' s1.heap.objs.size (fun k' => decide (k' ∈ metK (fun i => (ns.map key).getD i (key default)) n)) (metK (fun i => (ns.map key).getD i (key default)) n).length →
      (∀ b o, b < s1.heap.objs.size → s1.heap.get? b = some o → h'.get? b = some o) →
      wpAny (model X.prog X.w) X.A (call (.builtin "sorted") [Value.ref s1.heap.objs.size]) (EP X pins σ Q) X.xe { s1 with heap := h', toks := tk } := fun {n} en h' tk hS hk => by
    subst en
    rw [metK_all] at hS
    have hS2 : SetM X.prog X.w h' s1.heap.objs.size (fun k => decide (k ∈ ns.map key)) (nub ns).length := hS.congr (fun k => by
      have := foldK_mem (ns.map key) [] k
      rw [decide_eq_decide, this]
      simp) (by
      rw [foldK_len (ls := (nub ns).map key) (map_nodup (fun a b e => kinj a b e) (hnd ns)) fun k => ?_, List.length_map]
      simp only [List.mem_map, hmem])
    have I2 : Inv X pins σ H1 { s1 with heap := h', toks := tk } := I1.kept fun b o e => hk b o (Heap.lt_size e) e
    refine sorted_setK (s := { s1 with heap := h', toks := tk }) kinj (hnd ns) (fun b m => (hmem ns b).mp m) hS2 (I1.ok.hd hc) (by omega) henc hal hs hu fun s' p out zs c k g o hp hg eo pm => ?_
    have eo2 : EachIs (fun v b => RelV (kV (key b)) v) out (srt (nub ns)) := by
      rw [← hms zs _ pm]
      exact eo
    have vals : Vals ((srt (nub ns)).map fun b => kV (key b)) out := each_vals2 eo2
    have hn : H1 p = none := I2.hok.fresh hp
    have J : Inv X pins σ (upd H1 p (.lst ((srt (nub ns)).map fun b => kV (key b)))) { ({ s1 with heap := h', toks := tk } : Shared) with heap := s'.heap, gens := s'.gens, drawn := s'.drawn, toks := s'.toks } :=
      I2.call (ch := []) (Un.laid (h := h') k hp hn) (I2.hok.laid k hp ⟨by rw [List.length_map, hlen, sizeLine_eq]; omega, out, c, vals, hg⟩) (by rw [g]; exact I1.bare) (fun _ z => nomatch z)
    have e : s' = { ({ s1 with heap := h', toks := tk } : Shared) with heap := s'.heap, gens := s'.gens, drawn := s'.drawn, toks := s'.toks } := by
      cases s'
      cases s1
      cases o
      rfl
    rw [e]
    exact ⟨.ref p, _, J, rfl, q p hn⟩
  rcases hq with hq | hq
  · obtain ⟨its, rl, pl, _⟩ := I1.list hq
    obtain ⟨k1, k2⟩ := at_ rl
    exact call_set_listM (I1.ok.hd hc) pl.isList k2 (by rw [k1]; exact room) fun h' tk hS hk => fin k1 h' tk hS hk
  · obtain ⟨its, rl, pl, _⟩ := I1.tuple hq
    obtain ⟨k1, k2⟩ := at_ rl
    exact call_set_tupleM (I1.ok.hd hc) pl k2 (by rw [k1]; exact room) fun h' tk hS hk => fin k1 h' tk hS hk
theorem sorted_set_cases {ds : List D} {l : D} (h : (((if ds.length ≤ 4000 then nubA ds else none).bind srtD).map D.lst) = some l) :
    (∃ ns : List Int, ns.length ≤ 4000 ∧ allI ds = some ns ∧ l = .lst ((sortI (nubI ns)).map .int)) ∨ ∃ ns : List Str, ns.length ≤ 4000 ∧ allI ds = none ∧ allS ds = some ns ∧ l = .lst ((sortS (nubS ns)).map .str) := by
  have lenI : ∀ {ds : List D} {ns : List Int}, allI ds = some ns → ds = ns.map .int := fun {ds} => by
    induction ds with
    | nil => intro ns e; cases e; rfl
    | cons d ds ih =>
      intro ns e
      cases d with
      | int i =>
        have e : (allI ds).map (i :: ·) = some ns := e
        obtain ⟨m, e1, rfl⟩ := Option.map_eq_some_iff.mp e
        rw [ih e1]
        rfl
      | _ => cases e
  have lenS : ∀ {ds : List D} {ns : List Str}, allS ds = some ns → ds = ns.map .str := fun {ds} => by
    induction ds with
    | nil => intro ns e; cases e; rfl
    | cons d ds ih =>
      intro ns e
      cases d with
      | str i =>
        have e : (allS ds).map (i :: ·) = some ns := e
        obtain ⟨m, e1, rfl⟩ := Option.map_eq_some_iff.mp e
        rw [ih e1]
        rfl
      | _ => cases e
  have mapI : ∀ ns : List Int, allI (ns.map D.int) = some ns := fun ns => by
    induction ns with
    | nil => rfl
    | cons n ns ih => show (allI (ns.map D.int)).map (n :: ·) = _; rw [ih]; rfl
  have mapS : ∀ ns : List Str, allS (ns.map D.str) = some ns := fun ns => by
    induction ns with
    | nil => rfl
    | cons n ns ih => show (allS (ns.map D.str)).map (n :: ·) = _; rw [ih]; rfl
  split at h
  · rename_i hz
    unfold nubA at h
    cases e : allI ds with
    | some ns =>
      rw [e] at h
      have hl := lenI e
      refine .inl ⟨ns, by rw [hl, List.length_map] at hz; exact hz, rfl, ?_⟩
      have h : ((srtD ((nubI ns).map .int)).map D.lst) = some l := h
      unfold srtD at h
      rw [mapI] at h
      cases h
      rfl
    | none =>
      rw [e] at h
      cases e2 : allS ds with
      | none => rw [e2] at h; cases h
      | some ns =>
        rw [e2] at h
        have hl := lenS e2
        refine .inr ⟨ns, by rw [hl, List.length_map] at hz; exact hz, rfl, rfl, ?_⟩
        have h : ((srtD ((nubS ns).map .str)).map D.lst) = some l := h
        unfold srtD at h
        rw [mapS] at h
        cases en : nubS ns with
        | nil =>
          rw [en] at h
          cases h
          rfl
        | cons x xs =>
          rw [en] at h
          cases h
          rfl
  · cases h
/-- sorted(set(xs)) -/
theorem f_srtset (hc : X.calm = true) (hu : X.A.units + 64 < cLine) (hg : Gl X "sorted") (hm : X.mg "sorted" = none) (hg2 : Gl X "set") (hm2 : X.mg "set" = none) (ha : PE X a (DE X ca W F bo a')) (na : starEach [a] X.env = (false, eval a X.env) :: starEach [] X.env) :
    PE X (.Call (.Name "sorted" p) [.Call (.Name "set" p2) [a] [] q] [] pos) (DF X.K ca W (ev F (.bi .srtset (.cons a' .nil)))) := by
  refine ⟨fun pins s σ H Q I h => ?_⟩
  have h1 : DE X ca W F bo a' σ H fun v H1 => PostK (β := Int) X.K (fun b => kV (Sum.inl b)) sortI nubI v H1 Q ∨ PostK (β := Str) X.K (fun b => kV (Sum.inr b)) sortS nubS v H1 Q := by
    obtain ⟨env, S, G, ρ, rl, q⟩ := h
    refine ⟨env, S, G, ρ, rl, ?_⟩
    have e0 : ev F (.bi .srtset (.cons a' .nil)) env S = M.bnd (ev F a' env) (fun x => M.bnd (seeD x) fun x => M.lift (sortedSetD x)) S := by
      show M.bnd (M.bnd (ev F a' env) fun d => M.bnd (M.ret []) fun ds => M.ret (d :: ds)) (fun ds => M.bnd (match ds with | [d] => M.bnd (seeD d) fun d => M.ret [d] | ds => M.ret ds) fun ds => M.lift (biD .srtset ds)) S = _
      unfold M.bnd
      cases ev F a' env S with
      | ok x S' =>
        dsimp only [M.ret]
        cases seeD x S' <;> rfl
      | exc _ _ => rfl
      | bad => rfl
    have q : Aft X.K (RN X.K H) (WW X.K ca fun c d H' => W c d σ H') H G ρ (ev F (.bi .srtset (.cons a' .nil)) env S) Q := q
    rw [e0] at q
    unfold M.bnd at q
    cases e : ev F a' env S with
    | bad => rw [e] at q; exact q
    | exc y S' => rw [e] at q; exact q
    | ok x S' =>
      rw [e] at q
      intro v H2 G2 ρ2 x2 hd2 r2
      have q := Aft.later x2 q
      obtain ⟨x', r1, q⟩ := Aft.see (k := fun x => M.lift (sortedSetD x)) hd2 r2.rw q
      obtain ⟨l, el, q⟩ := Aft.lift1 q
      have go : ∀ {ds : List D} {vs : List V} {b : Addr}, seqD x' = some ds → v = .ref b → (SqL X.K H2 b vs ∨ SqT X.K H2 b vs) → Reps X.K G2 ρ2 ds vs → PostK (β := Int) X.K (fun b => kV (Sum.inl b)) sortI nubI v H2 Q ∨ PostK (β := Str) X.K (fun b => kV (Sum.inr b)) sortS nubS v H2 Q := fun {ds vs b} es ev hq hr => by
        have el : ((((seqD x').bind nubD).bind srtD).map D.lst) = some l := el
        rw [es] at el
        rcases sorted_set_cases el with ⟨ns, hz, e1, rfl⟩ | ⟨ns, hz, e0', e1, rfl⟩
        · have ev2 := hr.ints e1
          subst ev2
          refine .inl ⟨b, ns, ev, hq, hz, fun p n => ?_⟩
          have le : (sortI (nubI ns)).length ≤ ns.length := by rw [(sortI_perm _).length_eq]; exact len_le_of (nubI_nodup ns) fun a m => (nubI_mem ns a).mp m
          have rr : ∀ zs : List Int, Reps X.K G2 ρ2 (zs.map D.int) (zs.map fun b => kV (Sum.inl b)) := fun zs => by
            induction zs with
            | nil => rfl
            | cons z zs ih => exact .cons rfl ih
          exact freshL hd2 x2.none (rr _) (by rw [List.length_map]; exact Nat.le_trans le (Nat.le_trans hz (by decide))) q p n
        · have ev2 := hr.strs e1
          subst ev2
          refine .inr ⟨b, ns, ev, hq, hz, fun p n => ?_⟩
          have le : (sortS (nubS ns)).length ≤ ns.length := by rw [(sortS_perm _).length_eq]; exact len_le_of (nubS_nodup ns) fun a m => (nubS_mem ns a).mp m
          have rr : ∀ zs : List Str, Reps X.K G2 ρ2 (zs.map D.str) (zs.map fun b => kV (Sum.inr b)) := fun zs => by
            induction zs with
            | nil => rfl
            | cons z zs ih => exact .cons rfl ih
          exact freshL hd2 x2.none (rr _) (by rw [List.length_map]; exact Nat.le_trans le (Nat.le_trans hz (by decide))) q p n
      cases x' with
      | lst ds =>
        obtain ⟨b, vs, ev, h1, h2, h3⟩ := r1.list hd2
        exact go rfl ev (.inl h1) h2
      | tup ds =>
        obtain ⟨b, vs, ev, h1, h2, h3⟩ := r1.tup hd2
        exact go rfl ev (.inr h1) h2
      | _ => exact absurd el (by simp [sortedSetD, seqD])
  refine Call_ (ld_blt I hg hm PyProof.Rows.boot_sorted ?_)
  refine PyProof.Rows.callWith_builtin1 (PyProof.Rows.args_cons ?_ rfl) rfl rfl
  refine Call_ (ld_blt I hg2 hm2 boot_set ?_)
  refine PyProof.Rows.callWith_type1 (PyProof.Rows.args_cons (thn (ha.run pins s σ H _ I h1) fun v s1 ⟨x, H1, I1, r1, q1⟩ => PyProof.Rows.args_nil ?_) na) na rfl
  have tail : ∀ u2 s2, wpAny (model X.prog X.w) X.A (call (.builtin "sorted") [u2]) (EP X pins σ Q) X.xe s2 → wpAny (model X.prog X.w) X.A (spliced (backTo pos (starEach [] X.env))) (fun vs s₂ => wpAny (model X.prog X.w) X.A (call (.builtin "sorted") (u2 :: vs)) (EP X pins σ Q) X.xe s₂) X.xe s2 := fun u2 s2 h => PyProof.Rows.args_nil h
  rcases q1 with q1 | q1
  · refine wpAny_mono (srtset_tail (key := Sum.inl) (enc := fun i => PyData.int i) (srt := sortI) (nub := nubI) (fun a b e => by injection e) nubI_nodup nubI_mem (fun b v r h => by obtain ⟨t, rfl⟩ := r; exact .int _ _) (fun _ _ => rfl) (fun bs => .inr fun d hd => by obtain ⟨i, _, rfl⟩ := List.mem_map.mp hd; simp) (fun b => by simp [PyData.depth]; omega) (fun zs ns p => msI p) (fun ns => (sortI_perm ns).length_eq) hc I1 r1 q1) (fun u2 s2 h => tail u2 s2 h) fun _ _ z => z
  · refine wpAny_mono (srtset_tail (key := Sum.inr) (enc := fun i => PyData.str i) (srt := sortS) (nub := nubS) (fun a b e => by injection e) nubS_nodup nubS_mem (fun b v r h => by obtain ⟨t, rfl⟩ := r; exact .str _ _) (fun _ _ => rfl) (fun bs => .inr fun d hd => by obtain ⟨i, _, rfl⟩ := List.mem_map.mp hd; simp) (fun b => by simp [PyData.depth]; omega) (fun zs ns p => msS p) (fun ns => (sortS_perm ns).length_eq) hc I1 r1 q1) (fun u2 s2 h => tail u2 s2 h) fun _ _ z => z
end
end Ev

set_option Elab.async false
set_option linter.all false
set_option maxRecDepth 100000
set_option maxHeartbeats 2000000
/-! tuple(range(a, b)), list(range(a, b)). -/
namespace Ev
open PySem PySem.Spec PyProof.Rows L2
section
variable {X : Cx} {ca : Nat → Value} {W : WX} {F : Fns} {a b : Expr} {a' b' : E} {p p2 pos pos2 : Pos} {bo : Bool}
def R2 (i j : Int) : M (List D) := if -(2 ^ 62) ≤ i ∧ i < 2 ^ 62 ∧ j - i < LIM ∧ -(2 ^ 62) ≤ j ∧ j < 2 ^ 62 then M.ret (range i (j - i).toNat) else M.bad
def K2 (mk : List D → D) (x y : D) : M D := match x, y with
  | .int i, .int j => M.bnd (R2 i j) fun ds => M.ret (mk ds)
  | _, _ => M.bad
theorem rg2_eq {F : Fns} {mk : List D → D} (env : Envi) : M.bnd (evi F true (.rng2 a' b') env) (fun ds => M.ret (mk ds)) = M.bnd (ev F a' env) fun x => M.bnd (ev F b' env) fun y => K2 mk x y := by
  show M.bnd (M.bnd (ev F a' env) fun d => M.bnd (ev F b' env) fun e => match d, e with
        | D.int i, D.int j => if -(2 ^ 62) ≤ i ∧ i < 2 ^ 62 ∧ j - i < LIM ∧ -(2 ^ 62) ≤ j ∧ j < 2 ^ 62 then M.ret (range i (j - i).toNat) else M.bad
        | _, _ => M.bad) (fun ds => M.ret (mk ds)) = _
  funext S
  unfold M.bnd
  cases ev F a' env S with
  | ok d S' =>
    dsimp only
    cases ev F b' env S' with
    | ok e S'' =>
      dsimp only
      cases d <;> cases e <;> rfl
    | exc _ _ => rfl
    | bad => rfl
  | exc _ _ => rfl
  | bad => rfl
theorem rg2_reps {K : PySem.W.Frag} {G : Hp} {ρ : List Addr} (i j : Int) : Reps K G ρ (range i (j - i).toNat) (rgV i j) := by
  have e : ∀ (l : List Nat), Reps K G ρ (l.map fun k => D.int (i + (k : Nat))) (l.map fun k => V.int (i + (k : Nat))) := fun l => by
    induction l with
    | nil => exact .nil
    | cons k l ih => exact .cons rfl ih
  exact e _
theorem e_tupRg2 (hcalm : X.calm = true) (ha : PE X a (DE X ca W F bo a')) (hb : PE X b (DE X ca W F bo b')) (hg : Gl X "tuple") (hm : X.mg "tuple" = none) (hg2 : Gl X "range") (hm2 : X.mg "range" = none) (na : starEach [a, b] X.env = (false, eval a X.env) :: starEach [b] X.env) (nb : starEach [b] X.env = (false, eval b X.env) :: starEach [] X.env)
    (hs2 : starEach [.Call (.Name "range" p2) [a, b] [] pos2] X.env = (false, eval (.Call (.Name "range" p2) [a, b] [] pos2) X.env) :: starEach [] X.env) (hp : (backTo pos2 (starEach [b] X.env)).any (·.1) = false) :
    PE X (.Call (.Name "tuple" p) [.Call (.Name "range" p2) [a, b] [] pos2] [] pos) (DN X.K ca W (RV X.K) (ev F (.totup (.rng2 a' b')))) := by
  refine PE.imp (pe_tupRg hcalm hg hm (prg_2 hg2 hm2 ha hb na nb hp) hs2) fun σ H Q q => ?_
  have q : DN X.K ca W (RV X.K) (fun env => M.bnd (ev F a' env) fun x => M.bnd (ev F b' env) fun y => K2 .tup x y) σ H Q := DN.congr (fun env => rg2_eq env) q
  refine DN.one (γ := D) (k := fun env x => M.bnd (ev F b' env) fun y => K2 .tup x y) q fun env S H2 G2 ρ2 x v rl r q => ?_
  have q2 : DN X.K ca W (RV X.K) (fun env => M.bnd (ev F b' env) fun y => K2 .tup x y) σ H2 Q := ⟨env, S, G2, ρ2, rl, q⟩
  refine DN.one (γ := D) (k := fun env y => K2 .tup x y) q2 fun env S H3 G3 ρ3 y w rl3 r3 q => ?_
  cases x with
  | int i =>
    cases y with
    | int j =>
      obtain rfl : v = V.int i := r.rw.see.int
      obtain rfl : w = V.int j := r3.rw.see.int
      have q : Aft X.K (RV X.K) _ H3 G3 ρ3 (M.bnd (R2 i j) (fun ds => M.ret (D.tup ds)) S) Q := q
      unfold R2 at q
      split at q
      · rename_i h
        have hL : LIM = 16777216 := rfl
        refine ⟨i, j, rfl, rfl, ⟨by omega, by omega, by omega, by omega, by omega⟩, ?_⟩
        exact newTup rl3.toHold (rg2_reps i j) (by rw [range_len]; omega) fun v H' G' y hd' r' => q v H' G' ρ3 y hd' r'
      · exact q.elim
    | _ => exact q.elim
  | _ => exact q.elim
end
end Ev

set_option Elab.async false
set_option linter.all false
set_option maxRecDepth 100000
set_option maxHeartbeats 2000000
/-! raise, try. -/
namespace Ev
open PySem PySem.Spec PyProof.Rows L2
/-- a run of statements whose readings know how many names there are -/
theorem PS.impL {X : Cx} {e : Stmt} {t t' : TS} (h : PS X e t) (f : ∀ D σ H, σ.length = X.N.length → t' D σ H → t D σ H) : PS X e t' := ⟨fun pins s σ H Q I q => h.run pins s σ H Q I (f _ _ _ I.len q)⟩
theorem PSs.impL {X : Cx} {e : List Stmt} {t t' : TS} (h : PSs X e t) (f : ∀ D σ H, σ.length = X.N.length → t' D σ H → t D σ H) : PSs X e t' := ⟨fun pins s σ H Q I q => h.run pins s σ H Q I (f _ _ _ I.len q)⟩
/-! ### several except clauses, with names and without -/
/-- where the suite of a clause with the name of slot i goes on -/
def endsAs (i : Nat) (D : Ends) : Ends := { nx := fun σ H => D.nx (σ.set i none) H, rt := D.rt, bk := fun σ H => D.bk (σ.set i none) H, ct := fun σ H => D.ct (σ.set i none) H }
abbrev TSx := Addr → Value → Option Addr → TS
def wMix (K : PySem.W.Frag) (Wo : WX) (D : Ends) : List (Value × Option Nat × TSx) → WX
  | [] => Wo
  | (c, none, ts) :: r => fun cls d σ H => ∃ b, PySem.W.exmOne K cls c = some b ∧ (b = true → ∀ a, H a = none → ts a cls d D σ H) ∧ (b = false → wMix K Wo D r cls d σ H)
  | (c, some i, ts) :: r => fun cls d σ H => ∃ b, PySem.W.exmOne K cls c = some b ∧ (b = true → ∀ a, H a = none → ts a cls d (endsAs i D) (σ.set i (some (.ref a))) H) ∧ (b = false → wMix K Wo D r cls d σ H)
/-- a wish, where there are so many slots -/
abbrev wLen (n : Nat) (W : WX) : WX := fun cls d σ H => σ.length = n → W cls d σ H
abbrev SuiteOk (X : Cx) (su : List Stmt) (ts : TSx) : Prop := ∀ (a : Addr) (oe : Obj) (cls : Value) (d : Option Addr) (pn : List (Addr × Obj)), Zc cls d oe → (∃ vs, oe.data = .fields vs) → PSs (X.suite a ((a, oe) :: pn)) su (ts a cls d)
inductive HdsM (X : Cx) : List ExceptHandler → List (Value × Option Nat × TSx) → Prop
  | nil : HdsM X [] []
  | bare {x : Str} {c : Value} {ts : TSx} {b₀ : Stmt} {su : List Stmt} {np q : Pos} {hds : List ExceptHandler} {l : List (Value × Option Nat × TSx)} (hc : Names X x c) (hsu : SuiteOk X (b₀ :: su) ts) (r : HdsM X hds l) :
      HdsM X (.ExceptHandler (some (.Name x np)) none (b₀ :: su) q :: hds) ((c, none, ts) :: l)
  | named {x n : Str} {i : Nat} {c : Value} {ts : TSx} {b₀ : Stmt} {su : List Stmt} {np q : Pos} {hds : List ExceptHandler} {l : List (Value × Option Nat × TSx)} (hc : Names X x c) (hi : X.N[i]? = some n) (hln : X.env.kindOf n = some .local) (hsu : SuiteOk X (b₀ :: su) ts) (r : HdsM X hds l) :
      HdsM X (.ExceptHandler (some (.Name x np)) (some n) (b₀ :: su) q :: hds) ((c, some i, ts) :: l)
section
variable {X : Cx} {body : List Stmt} {hd0 : ExceptHandler} {hds : List ExceptHandler} {l : List (Value × Option Nat × TSx)} {pos : Pos} {tb : WX → TS} {Wo : WX}
theorem ps_try_mix (hstk : X.stack = X.env :: X.outer) (hfrm : X.env.frame = some X.env.locals) (hnd : X.N.Nodup) (tk : Takes X Wo)
    (hbody : ∀ (W : WX) (pn : List (Addr × Obj)) (xe : Value → Shared → Prop), Takes (X.tr pn xe) W → PassesOwn (model X.prog X.w) X.A X.env xe → PSs (X.tr pn xe) body (tb W))
    (hall : HdsM X (hd0 :: hds) l) : PS X (.Try body (hd0 :: hds) [] [] pos) (fun D σ H => tb (wLen X.N.length (wMix X.K Wo D l)) D σ H) := by
  refine ⟨fun pins s σ H D I hq => ?_⟩
  have okX := I.ok
  have framesX : X.A.frames = some (X.env :: X.outer) := by rw [okX.frames, hstk]
  refine wpAny_Try_except ?_
  have caught : ∀ u s2, XE (X.tr (X.pn ++ pins) fun e s₁ => wpAny (model X.prog X.w) X.A (noteFrame e X.env) (fun _ s₂ => wpAny (model X.prog X.w) X.A (setFlight e none) (fun _ s₃ => wpAny (model X.prog X.w) X.A (handleBy e X.env (hd0 :: hds)) (SP X pins D) X.xe s₃) X.xe s₂) X.xe s₁) (wLen X.N.length (wMix X.K Wo D l)) u s2 →
      wpAny (model X.prog X.w) X.A (noteFrame u X.env) (fun _ s₂ => wpAny (model X.prog X.w) X.A (setFlight u none) (fun _ s₃ => wpAny (model X.prog X.w) X.A (handleBy u X.env (hd0 :: hds)) (SP X pins D) X.xe s₃) X.xe s₂) X.xe s2 := by
    intro u s2 xx
    obtain ⟨ea, Gd, sI, pins1, σ1, H1, cls, dx, rfl, J0, gnd, up0, sky0, free0, osq, bareq, wish0⟩ := xx
    have J1 : Inv X pins σ1 H1 sI := J0.ofTry okX
    have wish := wish0 J1.len
    have sky1 : Sky Gd (X.env :: X.outer) ea (Zc cls dx) X.env.locals s2.heap := by
      rw [← hstk]
      exact sky0
    refine Sky.land Zc.steady framesX hfrm sky1 fun h3 fl3 up3 => ?_
    have J3 : Inv X pins σ1 H1 { s2 with heap := h3 } := J1.landed gnd fl3.1 (up0.trans up3) osq bareq
    obtain ⟨oe3, vs3, at3, zc3, dt3⟩ := fl3.there
    have outside : ∀ {h : Heap} {o : Obj} {vs : Array Value}, h.FunFrames Gd (X.env :: X.outer) → h.get? ea = some o → o.data = .fields vs → ea ∉ frs (X.env :: X.outer) := fun {h o vs} ff e1 e2 hm => by
      obtain ⟨_, o', e', hnf⟩ := ff.mem hm
      rw [e1] at e'
      cases e'
      exact hnf _ e2
    have ea_fr := outside fl3.2.2.1 at3 dt3
    have ea_loc : ea ≠ X.env.locals := fun z => ea_fr (List.mem_filterMap.mpr ⟨X.env, List.mem_cons_self, by rw [hfrm, z]⟩)
    have ea_out : ea ∉ X.fs := fun hm => by
      obtain ⟨e1, m1, q1⟩ := List.mem_filterMap.mp hm
      exact ea_fr (List.mem_filterMap.mpr ⟨e1, List.mem_cons_of_mem _ m1, q1⟩)
    have S3 := J3.suite at3 dt3 free0 ea_loc ea_out
    have tyL : PySem.W.Looks (model X.prog X.w) h3 (typeOf (.ref ea)) cls := fun A Q E s k q => wpAny_typeOf_ref (k _ _ at3) (by rw [zc3.1]; exact q)
    have named_ : ∀ {x : Str} {c : Value} {np : Pos} {Q : Value → Shared → Prop} {E : Value → Shared → Prop}, Names X x c → Q c { s2 with heap := h3 } → wpAny (model X.prog X.w) (X.A.mark (some (.ref ea))) (eval (.Name x np) X.env) Q E { s2 with heap := h3 } := fun {x c np Q E} hc q => by
      obtain ⟨hg, hdbg, hm | ⟨hm, hv, hnn⟩⟩ := hc
      · exact ld_glob (X := X.suite ea ((ea, oe3) :: (X.pn ++ pins))) S3 hg hm q hdbg
      · exact ld_blt (X := X.suite ea ((ea, oe3) :: (X.pn ++ pins))) S3 hg hm hv q hnn hdbg
    have onward : Wo cls dx σ1 H1 → wpAny (model X.prog X.w) X.A (handleBy (.ref ea) X.env []) (SP X pins D) X.xe { s2 with heap := h3 } := fun w => by
      refine wpAny_handleBy_nil ?_
      obtain ⟨_, _, _, oeT, vsT, Tb, oTb, tsT, heT, hzT, hdT, h1T, hrT⟩ := id fl3
      unfold PySem.passOn
      refine wpAny_bind (wpAny_field heT hdT h1T ?_)
      rw [if_neg (show ¬ ((Value.ref Tb == Value.none) = true) from by simp)]
      have fin : wpAny (model X.prog X.w) X.A (setFlight (.ref ea) X.env.frame) (fun _ s4 => wpAny (model X.prog X.w) X.A (throw (.ref ea) : Sem Flow) (SP X pins D) X.xe s4) X.xe { s2 with heap := h3 } := by
        rw [hfrm]
        exact HandSPX.setFlight_upZ fl3 fun h4 held4 up4 => wpAny_throw (tk _ _ ⟨ea, Gd, sI, pins, σ1, H1, cls, dx, rfl, J1, gnd, (up0.trans up3).trans up4, .inr (.inr (by rw [hstk]; exact held4)), free0, osq, bareq, w⟩)
      first
        | exact wpAny_bind (wpAny_pure (wpAny_bind fin))
        | exact wpAny_bind fin
    have go : ∀ {hs2 : List ExceptHandler} {l2 : List (Value × Option Nat × TSx)}, HdsM X hs2 l2 → wMix X.K Wo D l2 cls dx σ1 H1 → wpAny (model X.prog X.w) X.A (handleBy (.ref ea) X.env hs2) (SP X pins D) X.xe { s2 with heap := h3 } := by
      intro hs2 l2 hk
      induction hk with
      | nil => exact onward
      | bare hc hsu r ih =>
        intro w
        obtain ⟨b, hb1, yes, no⟩ := w
        refine wpAny_handleBy_cons (codeAny_handlers_test ?_) (by intro q; cases q)
        refine named_ hc ((PySem.W.exm_one (M := model X.prog X.w) J3.kIn tyL hb1).here ?_)
        cases b with
        | true =>
          refine codeAny_handlers_suite ?_
          refine HandSPX.lands_againZ fl3 fun h4 fl4 up4 => ?_
          have J4 : Inv X pins σ1 H1 { s2 with heap := h4 } := J1.landed gnd fl4.1 ((up0.trans up3).trans up4) osq bareq
          obtain ⟨oe4, vs4, at4, zc4, dt4⟩ := fl4.there
          have S4 := J4.suite at4 dt4 free0 ea_loc ea_out
          refine wpAny_mono ((hsu ea oe4 cls dx (X.pn ++ pins) zc4 ⟨_, dt4⟩).run [] _ _ H1 _ S4 (yes rfl ea free0)) (fun f s6 hsp => ?_) (fun _ _ z => False.elim z)
          cases f with
          | ret u =>
            obtain ⟨v6, σ6, H6, S6, r6, q6⟩ := hsp
            exact ⟨_, _, _, S6.unsuite okX, r6, q6⟩
          | next =>
            obtain ⟨σ6, H6, S6, q6⟩ := hsp
            exact ⟨_, _, S6.unsuite okX, q6⟩
          | brk =>
            obtain ⟨σ6, H6, S6, q6⟩ := hsp
            exact ⟨_, _, S6.unsuite okX, q6⟩
          | cont =>
            obtain ⟨σ6, H6, S6, q6⟩ := hsp
            exact ⟨_, _, S6.unsuite okX, q6⟩
        | false => exact ih (no rfl)
      | @named x n i c ts b₀ su np q hs3 l3 hc hi hln hsu r ih =>
        intro w
        obtain ⟨b, hb1, yes, no⟩ := w
        refine wpAny_handleBy_cons (codeAny_handlers_test ?_) (by intro q; cases q)
        refine named_ hc ((PySem.W.exm_one (M := model X.prog X.w) J3.kIn tyL hb1).here ?_)
        cases b with
        | true =>
          refine codeAny_handlers_suite_as ?_
          refine HandSPX.lands_againZ fl3 fun h4 fl4 up4 => ?_
          have J4 : Inv X pins σ1 H1 { s2 with heap := h4 } := J1.landed gnd fl4.1 ((up0.trans up3).trans up4) osq bareq
          obtain ⟨oe4, vs4, at4, zc4, dt4⟩ := fl4.there
          have S4 := J4.suite at4 dt4 free0 ea_loc ea_out
          refine store_ok (X := X.suite ea ((ea, oe4) :: (X.pn ++ pins))) (v := .ref ea) S4 hnd hi (.inl hln) rfl (fun s5 S5 => ?_) (.inr hln)
          refine wpAny_mono ((hsu ea oe4 cls dx (X.pn ++ pins) zc4 ⟨_, dt4⟩).run [] s5 _ H1 _ S5 (yes rfl ea free0)) (fun f s6 hsp => ?_) (fun _ _ z => False.elim z)
          have leave_ : ∀ {σ6 : L2.St} {H6 : Hp} {Q : Shared → Prop}, Inv (X.suite ea ((ea, oe4) :: (X.pn ++ pins))) [] σ6 H6 s6 → (∀ s7, Inv X pins (σ6.set i none) H6 s7 → Q s7) →
              wpAny (model X.prog X.w) X.A (do bindName X.env n .none; unbindBehindTheSuite X.env n q) (fun _ s7 => Q s7) X.xe s6 := fun {σ6 H6 Q} S6 hq => gone_ok (S6.unsuite okX) hnd hi hln hq
          cases f with
          | ret u =>
            obtain ⟨v6, σ6, H6, S6, r6, q6⟩ := hsp
            exact leave_ S6 fun s7 J7 => ⟨_, _, _, J7, r6, q6⟩
          | next =>
            obtain ⟨σ6, H6, S6, q6⟩ := hsp
            exact leave_ S6 fun s7 J7 => ⟨_, _, J7, q6⟩
          | brk =>
            obtain ⟨σ6, H6, S6, q6⟩ := hsp
            exact leave_ S6 fun s7 J7 => ⟨_, _, J7, q6⟩
          | cont =>
            obtain ⟨σ6, H6, S6, q6⟩ := hsp
            exact leave_ S6 fun s7 J7 => ⟨_, _, J7, q6⟩
        | false => exact ih (no rfl)
    exact go hall wish
  refine wpAny_mono ((hbody (wLen X.N.length (wMix X.K Wo D l)) (X.pn ++ pins) _ caught PassesOwn.looking).run [] s σ H D (I.toTry _) hq) (fun f s1 hsp => ?_) (fun e s1 he => he)
  cases f with
  | ret u =>
    obtain ⟨v1, σ1, H1, J, r, q⟩ := hsp
    exact ⟨v1, σ1, H1, J.ofTry okX, r, q⟩
  | next =>
    obtain ⟨σ1, H1, J, q⟩ := hsp
    exact wpAny_execs_nil ⟨σ1, H1, J.ofTry okX, q⟩
  | brk =>
    obtain ⟨σ1, H1, J, q⟩ := hsp
    exact ⟨σ1, H1, J.ofTry okX, q⟩
  | cont =>
    obtain ⟨σ1, H1, J, q⟩ := hsp
    exact ⟨σ1, H1, J.ofTry okX, q⟩
end
end Ev

set_option Elab.async false
set_option linter.all false
set_option maxRecDepth 100000
set_option maxHeartbeats 2000000
/-! raise, try: in the core. -/
namespace Ev
open PySem PySem.Spec PyProof.Rows L2
/-- how an exception's field lies -/
def FldAt (K : PySem.W.Frag) (H G : Hp) (ρ : List Addr) : Option (Str × D) → Option Addr → Prop
  | none, dx => dx = none
  | some (f, d), dx => ∃ a v, dx = some a ∧ H a = some (.xd [(f, v)]) ∧ Rep K G ρ d v
theorem XRep.fld {K : PySem.W.Frag} {ca : Nat → Value} {H G : Hp} {ρ : List Addr} {c : Nat} {f : Option (Str × D)} {cls : Value} {dx : Option Addr} (h : XRep K ca H G ρ (.mk c f) cls dx) : cls = ca c ∧ FldAt K H G ρ f dx := by
  cases f with
  | none => exact h
  | some p => exact h
/-- what is known within a clause: the error's field, its name's slot, its class -/
def HCtx (K : PySem.W.Frag) (nm : Option Nat) (cv : Value) (a : Addr) (cls : Value) (dx : Option Addr) (f : Option (Str × D)) (σ : L2.St) (H G : Hp) (ρ : List Addr) : Prop :=
  FldAt K H G ρ f dx ∧ ∀ i, nm = some i → σ[i]? = some (some (.ref a)) ∧ cls = cv
section
variable {X : Cx} {F : Fns} {nm : Option Nat} {cv : Value} {a : Addr} {cls : Value} {dx : Option Addr}
def tHA (K : PySem.W.Frag) (nm : Option Nat) (cv : Value) (a : Addr) (cls : Value) (dx : Option Addr) (x : HA) : TE := fun σ H Q => ∃ f G ρ r, HCtx K nm cv a cls dx f σ H G ρ ∧ x.val f = some r ∧ ∀ u, Rep K G ρ r u → Q u H
def tHAs (K : PySem.W.Frag) (nm : Option Nat) (cv : Value) (a : Addr) (cls : Value) (dx : Option Addr) (xs : List HA) : TA := fun σ H Q => ∃ f G ρ rs, HCtx K nm cv a cls dx f σ H G ρ ∧ HA.vals f xs = some rs ∧ ∀ us, Reps K G ρ rs us → Q us H
def tHV (K : PySem.W.Frag) (nm : Option Nat) (cv : Value) (a : Addr) (cls : Value) (dx : Option Addr) (x : HV) : TE := fun σ H Q => ∃ f S G ρ r, Hold K S H G ρ ∧ HCtx K nm cv a cls dx f σ H G ρ ∧ x.val f = some r ∧ ∀ u H' G', Ext H G ρ H' G' ρ → Hold K S H' G' ρ → Rep K G' ρ r u → Q u H'
theorem vals_len {f : Option (Str × D)} : ∀ {as : List HA} {rs : List D}, HA.vals f as = some rs → rs.length = as.length
  | [], _, h => by cases h; rfl
  | a :: as, rs, h => by
    unfold HA.vals at h
    cases e : a.val f with
    | none => rw [e] at h; cases h
    | some d =>
      rw [e] at h
      obtain ⟨r2, e2, rfl⟩ := Option.map_eq_some_iff.mp (show (HA.vals f as).map (d :: ·) = some rs from h)
      rw [List.length_cons, List.length_cons, vals_len e2]
def conA : Const → Option D
  | .none => some .non
  | .bool b => some (.bl b)
  | .int i => some (.int i)
  | .str s => some (.str s)
  | _ => none
theorem ha_con {c : Const} {d : D} {k : Nat} {p : Pos} (h : conA c = some d) : PE X (.Constant c k p) (tHA X.K nm cv a cls dx (.con d)) := by
  cases c <;> first | (cases h; exact PE.imp pe_non fun σ H Q ⟨f, G, ρ, r, _, e, q⟩ => by cases e; exact q _ rfl) | (cases h; exact PE.imp pe_bl fun σ H Q ⟨f, G, ρ, r, _, e, q⟩ => by cases e; exact q _ rfl) | (cases h; exact PE.imp pe_int fun σ H Q ⟨f, G, ρ, r, _, e, q⟩ => by cases e; exact q _ rfl) | (cases h; exact PE.imp pe_str fun σ H Q ⟨f, G, ρ, r, _, e, q⟩ => by cases e; exact q _ rfl) | cases h
theorem ha_fld {C : Addr} {oe : Obj} {pn : List (Addr × Obj)} {y x : Str} {i : Nat} {p p2 : Pos} (T : XfC X.K C) (hno : PySem.W.findIn X.K (.ref C) x = some none) (hcv : cv = .ref C) (hz : Zc cls dx oe) (hf : ∃ vs, oe.data = .fields vs) (hi : X.N[i]? = some y) (hv : Vis X.env.scope y) (h1 : (y == ("__debug__" : Str)) = false) (h2 : (y == ("__classdict__" : Str)) = false) :
    PE (X.suite a ((a, oe) :: pn)) (.Attribute (.Name y p) x p2) (tHA X.K (some i) cv a cls dx (.fld x)) := by
  refine PE.imp (pe_xf (X := X) (e := .Name y p) (te := tVar i) T hno hz hf (pe_var (X := X.suite a ((a, oe) :: pn)) hi hv h1 h2) rfl) fun σ H Q q => ?_
  obtain ⟨f, G, ρ, r, ⟨hfl, hs⟩, e, q⟩ := q
  obtain ⟨s1, s2⟩ := hs i rfl
  refine ⟨_, s1, rfl, s2.trans hcv, ?_⟩
  unfold HA.val at e
  cases f with
  | none => cases e
  | some gd =>
    obtain ⟨g, d⟩ := gd
    obtain ⟨b, v, e1, e2, e3⟩ := hfl
    dsimp only at e
    split at e
    · rename_i hg
      have eg := eq_of_beq hg
      subst eg
      cases e
      exact ⟨b, _, v, e1, e2, by simp [List.lookup], q v e3⟩
    · cases e
theorem has_nil : PA X [] (tHAs X.K nm cv a cls dx []) := ⟨fun pos pins s σ H Q I h => by
  obtain ⟨f, G, ρ, rs, _, e, q⟩ := h
  cases e
  exact pa_nil.run pos pins s σ H Q I (q [] .nil)⟩
theorem has_cons {e : Expr} {es : List Expr} {x : HA} {xs : List HA} (he : PE X e (tHA X.K nm cv a cls dx x)) (hes : PA X es (tHAs X.K nm cv a cls dx xs)) (hs : starEach (e :: es) X.env = (false, eval e X.env) :: starEach es X.env) : PA X (e :: es) (tHAs X.K nm cv a cls dx (x :: xs)) := by
  refine PA.imp (pa_cons he hes hs) fun σ H Q q => ?_
  obtain ⟨f, G, ρ, rs, hc, e, q⟩ := q
  unfold HA.vals at e
  cases ex : x.val f with
  | none => rw [ex] at e; cases e
  | some r =>
    rw [ex] at e
    obtain ⟨r2, e2, rfl⟩ := Option.map_eq_some_iff.mp (show (HA.vals f xs).map (r :: ·) = some rs from e)
    exact ⟨f, G, ρ, r, hc, ex, fun u ru => ⟨f, G, ρ, r2, hc, e2, fun us rus => q (u :: us) (.cons ru rus)⟩⟩
theorem hv_at {e : Expr} {x : HA} (he : PE X e (tHA X.K nm cv a cls dx x)) : PE X e (tHV X.K nm cv a cls dx (.at_ x)) := PE.imp he fun σ H Q q => by
  obtain ⟨f, S, G, ρ, r, hd, hc, e, q⟩ := q
  exact ⟨f, G, ρ, r, hc, e, fun u ru => q u H G .refl hd ru⟩
theorem hv_tup {es : List Expr} {xs : List HA} {k : Nat} {p : Pos} (he : PA X es (tHAs X.K nm cv a cls dx xs)) (hl : xs.length ≤ 1000) : PE X (.Tuple es k p) (tHV X.K nm cv a cls dx (.tup xs)) := PE.imp (pe_tup he) fun σ H Q q => by
  obtain ⟨f, S, G, ρ, r, hd, hc, e, q⟩ := q
  obtain ⟨rs, e2, rfl⟩ := Option.map_eq_some_iff.mp (show (HA.vals f xs).map D.tup = some r from e)
  have ln := vals_len e2
  have hz : rs.length ≤ LIM := by rw [ln]; exact Nat.le_trans hl (by decide)
  exact ⟨f, G, ρ, rs, hc, e2, fun us rus => ⟨by rw [rus.length, ← LIM_eq]; exact hz, newTup hd rus hz fun v H' G' y hd' r' => q v H' G' y hd' r'⟩⟩
theorem hv_lst {es : List Expr} {xs : List HA} {p : Pos} (he : PA X es (tHAs X.K nm cv a cls dx xs)) (hl : xs.length ≤ 1000) : PE X (.List es p) (tHV X.K nm cv a cls dx (.lst xs)) := PE.imp (pe_lst he) fun σ H Q q => by
  obtain ⟨f, S, G, ρ, r, hd, hc, e, q⟩ := q
  obtain ⟨rs, e2, rfl⟩ := Option.map_eq_some_iff.mp (show (HA.vals f xs).map D.lst = some r from e)
  have ln := vals_len e2
  have hz : rs.length ≤ LIM := by rw [ln]; exact Nat.le_trans hl (by decide)
  exact ⟨f, G, ρ, rs, hc, e2, fun us rus => ⟨by rw [rus.length, ← LIM_eq]; exact hz, newLst hd rus hz fun v H' G' y hd' r' => q v H' G' y hd' r'⟩⟩
end
/-! ### suites -/
theorem rls_no {K : PySem.W.Frag} {B : Bse} {S : Sto} {σ : L2.St} {H G : Hp} {ρ : List Addr} {n : Nat} (hd : Hold K S H G ρ) (x : Ext B.H0 B.G0 B.ρ0 H G ρ) (hl : σ.length = n) (hT : ∀ i, B.T i = true) : RlS K B (List.replicate n .no) S σ H G ρ :=
  have no : ∀ (i : Nat) (y : Sl), (List.replicate n Sl.no)[i]? = some y → y = .no := fun i y h => by
    rw [List.getElem?_replicate] at h
    split at h <;> first | (cases h; done) | (cases h; rfl)
  { toHold := hd
    sl := by rw [List.length_replicate]; exact hl
    val := fun i d h => by cases no i _ h
    own := fun i d h => by cases no i _ h
    sep := fun i j d e a h => by cases no i _ h
    x := x
    ab := fun i a d h => by cases no i _ h
    fr := fun j h => by rw [hT] at h; cases h }
theorem RlS.gone {K : PySem.W.Frag} {B : Bse} {env : Envi} {S : Sto} {σ : L2.St} {H G : Hp} {ρ : List Addr} {i : Nat} (r : RlS K B env S σ H G ρ) (hv : ∀ d, env[i]? ≠ some (.val d)) (ho : ∀ d, env[i]? ≠ some (.own d)) : RlS K B env S (σ.set i none) H G ρ :=
  have ne : ∀ {j : Nat} {u : Option V}, j ≠ i → (σ.set i none)[j]? = σ[j]? := fun {j u} h => List.getElem?_set_ne (Ne.symm h)
  have bk : ∀ {j : Nat} {d : D} {a : Addr}, env[j]? = some (.own d) → (σ.set i none)[j]? = some (some (.ref a)) → σ[j]? = some (some (.ref a)) := fun {j d a} e h => by
    by_cases q : j = i
    · subst q
      exact absurd e (ho d)
    · rw [← ne (u := none) q]
      exact h
  { toHold := r.toHold
    sl := by rw [List.length_set]; exact r.sl
    val := fun j d h => by
      obtain ⟨v, e, q⟩ := r.val j d h
      have : j ≠ i := fun z => by subst z; exact hv d h
      exact ⟨v, by rw [ne (u := none) this]; exact e, q⟩
    own := fun j d h => by
      obtain ⟨v, e, q⟩ := r.own j d h
      have : j ≠ i := fun z => by subst z; exact ho d h
      exact ⟨v, by rw [ne (u := none) this]; exact e, q⟩
    sep := fun j k d e a h1 h2 e1 e2 => r.sep j k d e a h1 h2 (bk h1 e1) (bk h2 e2)
    x := r.x
    ab := fun j a d h e => r.ab j a d h (bk h e)
    fr := r.fr }
def tSu (X : Cx) (B : Bse) (h : Hd) (cv : Value) : TSx := fun a cls dx E σ H => ∃ f S G ρ r, Hold X.K S H G ρ ∧ Ext B.H0 B.G0 B.ρ0 H G ρ ∧ HCtx X.K h.nm cv a cls dx f σ H G ρ ∧ h.v.val f = some r ∧
  ∀ σ' H' G' ρ', RlS X.K B ((List.replicate X.N.length .no).set h.i (.val r)) S σ' H' G' ρ' → LatG G ρ G' ρ' → E.nx σ' H'
section
variable {X : Cx} {ca : Nat → Value} {B : Bse} {W : WX} {F : Fns} {Wn : Nat} {h : Hd} {cv : Value} {e : Expr} {y : Str} {p spos rpos pos : Pos}
theorem su_ok (hT : ∀ i, B.T i = true) (hN : X.N.Nodup) (hi : X.N[h.i]? = some y) (hx : Loc X.env.scope y) (hf : X.env.scope.names.lookup y = some .local) (hs : swapsWith e (some (.Name y p)) spos.line X.env = pure false)
    (he : ∀ (a : Addr) (oe : Obj) (cls : Value) (d : Option Addr) (pn : List (Addr × Obj)), Zc cls d oe → (∃ vs, oe.data = .fields vs) → PE (X.suite a ((a, oe) :: pn)) e (tHV X.K h.nm cv a cls d h.v)) : SuiteOk X [.Assign [.Name y p] e spos] (tSu X B h cv) := fun a oe cls d pn hz hfv => by
  refine PSs.impL (pss_one (ps_set (X := X.suite a ((a, oe) :: pn)) hN hi hx (he a oe cls d pn hz hfv) hs (.inr hf))) fun E σ H hl q => ?_
  obtain ⟨f, S, G, ρ, r, hd, x, hc, ev, q⟩ := q
  refine ⟨f, S, G, ρ, r, hd, hc, ev, fun u H' G' x2 hd2 ru => ?_⟩
  have r0 : RlS X.K B (List.replicate X.N.length .no) S σ H' G' ρ := rls_no hd2 (x.trans x2) hl hT
  exact q _ _ _ _ (r0.set (hT _) ru) x2.lat
/-! ### raise -/
theorem s_rais {x m : Str} {j c : Nat} {C : Addr} {p2 p3 : Pos} (hc : X.calm = true) (tk : Takes X W) (q : PySem.W.excIn X.K C He.veBase "ValueError.__new__" = true) (gC : X.mg x = some (.ref C)) (kC : PySem.W.keepIn X.K (.ref C) = true) (r : Raises X (.ref C)) (hg : Gl X x) (hdb : (x == ("__debug__" : Str)) = false) (hca : ca c = .ref C) :
    PS X (.Raise (some (.Call (.Name x p) [.Constant (.str m) j p2] [] p3)) none rpos) (DSt X ca B W F Wn (.rais c)) := PS.imp (ps_raise hc tk (pmk_own PySem.F.excBase_ValueError q gC kC r hg hdb)) fun E σ H h => by
  obtain ⟨env, S, G, ρ, rl, q⟩ := h
  exact q env σ H G ρ rl .refl (.ref C) none ⟨hca.symm, rfl⟩
/-! ### try -/
inductive HdL (X : Cx) (ca : Nat → Value) (B : Bse) : List Hd → List (Value × Option Nat × TSx) → Prop
  | nil : HdL X ca B [] []
  | cons {h : Hd} {cv : Value} {hs : List Hd} {l : List (Value × Option Nat × TSx)} (hex : ∀ j, j < h.n → PySem.W.exmOne X.K (ca j) cv = some (h.cs.contains j)) (hcv : ∀ i, h.nm = some i → i ≠ h.i ∧ i < X.N.length ∧ ∀ j, h.cs.contains j = true → ca j = cv) (r : HdL X ca B hs l) :
      HdL X ca B (h :: hs) ((cv, h.nm, tSu X B h cv) :: l)
theorem wish_ok (hT : ∀ i, B.T i = true) {l : List (Value × Option Nat × TSx)} {hs : List Hd} (hl : HdL X ca B hs l) {env0 : Envi} {E : Ends} {G0 : Hp} {ρ0 : List Addr} {S : Sto} {c : Nat} {f : Option (Str × D)} (hlen : env0.length = X.N.length) (q : AftS X.K ca B W E G0 ρ0 (hdl hs (.mk c f) env0 S))
    {env : Envi} {σ : L2.St} {H G : Hp} {ρ : List Addr} (rl : RlS X.K B env S σ H G ρ) (lat : LatG G0 ρ0 G ρ) (hσ : σ.length = X.N.length) {cls : Value} {dx : Option Addr} (xr : XRep X.K ca H G ρ (.mk c f) cls dx) : wMix X.K W E l cls dx σ H := by
  induction hl with
  | nil => exact q env σ H G ρ rl lat cls dx xr
  | @cons h cv hs l hex hcv r ih =>
    obtain ⟨e1, fl⟩ := xr.fld
    have q : AftS X.K ca B W E G0 ρ0 ((if c < h.n then (if h.cs.contains c then M.bnd (M.lift (h.v.val f)) fun d => M.ret (.nx ((List.replicate env0.length .no).set h.i (.val d))) else hdl hs (.mk c f) env0) else M.bad : M Fl) S) := q
    split at q
    · rename_i hc
      have hx := hex c hc
      rw [← e1] at hx
      have no : h.cs.contains c = false → wMix X.K W E l cls dx σ H := fun z => by
        rw [if_neg (by rw [z]; simp)] at q
        exact ih q
      have yes : h.cs.contains c = true → ∃ r, h.v.val f = some r ∧ AftS X.K ca B W E G0 ρ0 (.ok (.nx ((List.replicate X.N.length .no).set h.i (.val r))) S) := fun z => by
        rw [if_pos z] at q
        obtain ⟨r, e, q⟩ := AftS.lift q
        rw [hlen] at q
        exact ⟨r, e, q⟩
      cases hn : h.nm with
      | none =>
        refine ⟨_, hx, fun z a na => ?_, no⟩
        obtain ⟨r, e, q⟩ := yes z
        refine ⟨f, S, G, ρ, r, rl.toHold, rl.x, ⟨fl, fun i hi => by rw [hn] at hi; cases hi⟩, e, fun σ' H' G' ρ' r' lt => q σ' H' G' ρ' r' (lat.trans lt)⟩
      | some i =>
        obtain ⟨n1, n2, n3⟩ := hcv i hn
        refine ⟨_, hx, fun z a na => ?_, no⟩
        obtain ⟨r, e, q⟩ := yes z
        refine ⟨f, S, G, ρ, r, rl.toHold, rl.x, ⟨fl, fun i' hi => ?_⟩, e, fun σ' H' G' ρ' r' lt => ?_⟩
        · rw [hn] at hi
          cases hi
          exact ⟨List.getElem?_set_self (by rw [hσ]; exact n2), e1.trans (n3 c z)⟩
        · have look : ∀ u, ((List.replicate X.N.length Sl.no).set h.i (.val r))[i]? = some u → u = .no := fun u z => by
            rw [List.getElem?_set_ne (Ne.symm n1), List.getElem?_replicate] at z
            split at z <;> first | (cases z; done) | (cases z; rfl)
          exact q _ H' G' ρ' (r'.gone (fun d z => by cases look _ z) (fun d z => by cases look _ z)) (lat.trans lt)
    · exact q.elim
theorem s_try {body : List Stmt} {b' : Sb} {h0 : ExceptHandler} {hds : List ExceptHandler} {hs : List Hd} {l : List (Value × Option Nat × TSx)} (hstk : X.stack = X.env :: X.outer) (hfrm : X.env.frame = some X.env.locals) (hN : X.N.Nodup) (tk : Takes X W) (hT : ∀ i, B.T i = true)
    (hb : ∀ (W' : WX) (pn : List (Addr × Obj)) (xe : Value → Shared → Prop), Takes (X.tr pn xe) W' → PassesOwn (model X.prog X.w) X.A X.env xe → PSs (X.tr pn xe) body (DSs X ca B W' F Wn b')) (hm : HdsM X (h0 :: hds) l) (hl : HdL X ca B hs l) :
    PS X (.Try body (h0 :: hds) [] [] pos) (DSt X ca B W F Wn (.try_ b' hs)) := PS.impL (ps_try_mix hstk hfrm hN tk hb hm) fun E σ H hσ q => by
  obtain ⟨env, S, G, ρ, rl, q⟩ := q
  refine ⟨env, S, G, ρ, rl, ?_⟩
  have q : AftS X.K ca B W E G ρ (tryM (exs F Wn b' env) (fun x => hdl hs x env) S) := q
  unfold tryM at q
  cases e : exs F Wn b' env S with
  | ok fl S' =>
    rw [e] at q
    cases fl with
    | nx env' => exact q
    | rt d => exact q
    | ct env' => exact q
  | bad =>
    rw [e] at q
    exact q
  | exc x S' =>
    rw [e] at q
    obtain ⟨c, f⟩ := x
    intro env' σ' H' G' ρ' rl' lat cls dx xr hσ'
    exact wish_ok hT hl (by rw [← rl.sl]; exact hσ) q rl' lat hσ' xr
end
end Ev

set_option Elab.async false
set_option linter.all false
set_option maxRecDepth 100000
set_option maxHeartbeats 2000000
/-! From the program's text to the core: expressions. -/
namespace Ev
open PySem PySem.Spec PyProof.Rows L2
/-! ### small looks at texts -/
def ns : Expr → Bool
  | .Starred .. => false
  | _ => true
theorem star1 {e : Expr} {es : List Expr} {env : Env} (h : ns e = true) : starEach (e :: es) env = (false, eval e env) :: starEach es env := by
  cases e <;> first | rfl | cases h
theorem starP {pos : Pos} {env : Env} : ∀ {es : List Expr}, es.all ns = true → (backTo pos (starEach es env)).any (·.1) = false
  | [], _ => rfl
  | e :: es, h => by
    rw [List.all_cons, Bool.and_eq_true] at h
    rw [star1 h.1]
    show (false || (backTo pos (starEach es env)).any (·.1)) = false
    rw [starP h.2]
    rfl
def noSet : Expr → Bool
  | .Set .. => false
  | _ => true
theorem noSet_it {e : Expr} {env : Env} (h : noSet e = true) : ∀ x, foldedSetIterable e env x = pure x := fun x => by
  cases e <;> first | rfl | cases h
theorem noSet_mark {e : Expr} {op : CmpOp} (h : noSet e = true) : behindInMarks op e = false := by
  cases e <;> first | rfl | cases h
def noSlice : Expr → Bool
  | .Slice .. => false
  | _ => true
theorem plainIx_of {b : Expr} (h : noSlice b = true) : PlainIx b := by
  intro o i
  cases b <;> first | rfl | cases h
def noSuper : Expr → Bool
  | .Call (.Name _ _) [] [] _ => false
  | _ => true
theorem base_of {o : Expr} {name : Str} {env : Env} {w : Sem Value} (h : noSuper o = true) : attributeBase o name env w = w := by
  unfold attributeBase
  split
  · cases h
  · rfl
def noComp : Expr → Bool
  | .ListComp .. => false
  | .SetComp .. => false
  | .DictComp .. => false
  | _ => true
theorem swaps_no {e : Expr} {t : Option Expr} {l : Nat} {env : Env} (h : noComp e = true) : swapsWith e t l env = pure false := by
  cases e <;> first | rfl | cases h
theorem plainVal_of {e : Expr} {env : Env} (h : (match e with | .UnaryOp .Not _ _ => false | .BoolOp .. => false | .IfExp .. => false | .Compare .. => false | _ => true) = true) : ∀ whole, isTrue e env whole = (do let v ← whole; standAt e.pos; holding [v] (truthy v)) := fun whole => by
  cases e with
  | UnaryOp op x p => cases op <;> first | rfl | cases h
  | _ => first | rfl | cases h
theorem mok_of {X : Cx} {o e : Expr} {name : Str} {apos cpos : Pos} (h1 : noSuper o = true) (h2 : ns e = true) (h3 : (apos.endLine == cpos.line) = true) : MOk X o e name apos cpos where
  base := base_of h1
  few := by
    rw [star1 h2]
    rfl
  line := h3
  star := star1 h2
  plain := rfl
/-! ### the setting -/
/-- a class of errors: its name, its field, which classes are caught by its name -/
structure XRec where
  name : Str
  fld : Option Str
  cs : List Nat
structure Cfg where
  N : List Str
  sc : Scope
  ff : Option Scope := none
  fns : List (Str × (Nat × Nat))
  kws : List (Str × (List Str × List Nat)) := []
  con : List (Str × D) := []
  blt : List Str
  rp : Bool := false
  ex : List XRec := []
def Cfg.fnB (C : Cfg) (x : Str) : Bool := match C.ff with
  | none => true
  | some s => s.names.lookup x == some .cell
def Cfg.blk (C : Cfg) (scope : Scope) : Cfg := { C with sc := relS scope C.sc, ff := some scope, rp := false }
/-- a def of the module that the setting names -/
structure FnAt (X : Cx) (ca : Nat → Value) (F : Fns) (kws : List (Str × (List Str × List Nat))) (x : Str) (f np : Nat) : Prop where
  ex : ∃ (k : Nat) (g : Addr) (fd : FuncData) (ps : List Str), X.mg x = some (.ref g) ∧ PySem.W.keepIn X.K (.ref g) = true ∧ Binds X.K fd ps [] ∧ ps.length = np ∧
    FnOk X.prog X.w X.K X.mg X.base (L2.CX X.prog X.w) k g fd ps (spF X.K ca np (F f)) ∧ Room k X.A ∧ ∀ ks pm, (x, ks, pm) ∈ kws → KW0 X.K fd ps ks pm
/-- what stands written of a class of errors -/
structure XcK (K : PySem.W.Frag) (mg : Str → Option Value) (ca : Nat → Value) (n i : Nat) (r : XRec) : Prop where
  ex : ∃ A : Addr, ca i = .ref A ∧ mg r.name = some (.ref A) ∧ (∀ j, j < n → PySem.W.exmOne K (ca j) (.ref A) = some (r.cs.contains j)) ∧ match r.fld with
    | none => PySem.W.excIn K A He.veBase "ValueError.__new__" = true ∧ PySem.W.keepIn K (.ref A) = true ∧ PySem.W.subIn K (.ref A) (.type "BaseException") = some true ∧ PySem.W.typeIn K (.ref A) = some (.type "type")
    | some f => XfC K A ∧ PySem.W.findIn K (.ref A) f = some none
structure Ok (X : Cx) (C : Cfg) (ca : Nat → Value) (F : Fns) (W : WX) : Prop where
  N : X.N = C.N
  nd : C.N.Nodup
  sc : X.env.scope = C.sc
  calm : X.calm = true
  fn : ∀ y, C.fnB y = true → X.fn y = true
  tk : Takes X W
  un : X.A.units + 64 < cLine
  con : ∀ x d, C.con.lookup x = some d → ∃ v u, X.mg x = some u ∧ RelV v u ∧ ∀ G ρ, Rep X.K G ρ d v
  blt : ∀ x ∈ C.blt, X.mg x = none
  fns : ∀ x f np, C.fns.lookup x = some (f, np) → FnAt X ca F C.kws x f np
  gd : C.rp = true → X.A.guards = some []
  rm : Room 3 X.A
  ex : ∀ i r, C.ex[i]? = some r → XcK X.K X.mg ca C.ex.length i r
theorem Ok.blk {X : Cx} {C : Cfg} {ca : Nat → Value} {F : Fns} {W : WX} (o : Ok X C ca F W) (scope : Scope) (s : Shared) (H : Hp) (Ca : Addr) (cl : List (Str × Addr)) (fp : List Addr) : Ok (X.blk s H scope (compEnvC scope cl Ca X.env) fp) (C.blk scope) ca F WF where
  N := o.N
  nd := o.nd
  sc := by
    show relS scope X.env.scope = relS scope C.sc
    rw [o.sc]
  calm := o.calm
  fn := fun y h => h
  tk := takes0
  un := o.un
  con := o.con
  blt := o.blt
  fns := fun x f np h => ⟨(o.fns x f np h).ex⟩
  gd := fun h => by cases h
  rm := o.rm
  ex := o.ex
theorem Ok.tr {X : Cx} {C : Cfg} {ca : Nat → Value} {F : Fns} {W W' : WX} (o : Ok X C ca F W) {pn : List (Addr × Obj)} {xe : Value → Shared → Prop} (tk : Takes (X.tr pn xe) W') : Ok (X.tr pn xe) C ca F W' where
  N := o.N
  nd := o.nd
  sc := o.sc
  calm := o.calm
  fn := o.fn
  tk := tk
  un := o.un
  con := o.con
  blt := o.blt
  fns := fun x f np h => ⟨(o.fns x f np h).ex⟩
  gd := o.gd
  rm := o.rm
  ex := o.ex
inductive Md where
  | keep | look | test | fresh
def Sem' (X : Cx) (ca : Nat → Value) (W : WX) (F : Fns) : Md → Expr → E → Prop
  | .keep, e, e' => PE X e (DE X ca W F false e')
  | .look, e, e' => PE X e (DE X ca W F true e')
  | .test, e, e' => PT X e (DT X ca W F e')
  | .fresh, e, e' => PE X e (DF X.K ca W (ev F e'))
abbrev TrF := Cfg → Md → Expr → Option E
def Snd (ca : Nat → Value) (F : Fns) (f : TrF) : Prop := ∀ C m e e', f C m e = some e' → ∀ X W, Ok X C ca F W → Sem' X ca W F m e e'
/-- a value of its own in the mode that is wanted -/
def up : Md → E → Option E
  | .fresh, _ => none
  | _, e => some e
def upF : Md → E → Option E
  | .test, _ => none
  | _, e => some e
def plainVal : Expr → Bool
  | .UnaryOp .Not _ _ => false
  | .BoolOp .. => false
  | .IfExp .. => false
  | .Compare .. => false
  | _ => true
section
variable {X : Cx} {C : Cfg} {ca : Nat → Value} {W : WX} {F : Fns} {m : Md} {e : Expr} {e0 e' : E}
theorem up_ok (h : up m e0 = some e') (hv : PE X e (DN X.K ca W (RV X.K) (ev F e0))) (ht : PT X e (DT X ca W F e0)) : Sem' X ca W F m e e' := by
  cases m with
  | fresh => cases h
  | keep => cases h; exact DE.up hv
  | look => cases h; exact DE.up hv
  | test => cases h; exact ht
theorem up_val (h : up m e0 = some e') (hp : plainVal e = true) (hv : PE X e (DN X.K ca W (RV X.K) (ev F e0))) : Sem' X ca W F m e e' := up_ok h hv (t_val hv (plainVal_of hp))
theorem upF_ok (h : upF m e0 = some e') (hv : PE X e (DF X.K ca W (ev F e0))) : Sem' X ca W F m e e' := by
  cases m with
  | fresh => cases h; exact hv
  | keep => cases h; exact DE.up (DF.up hv)
  | look => cases h; exact DE.up (DF.up hv)
  | test => cases h
def visB (sc : Scope) (x : Str) : Bool := match sc.names.lookup x with
  | some .local => true
  | some .cell => true
  | some .free => true
  | _ => false
theorem vis_of {sc : Scope} {x : Str} (h : visB sc x = true) : Vis sc x := by
  unfold visB at h
  split at h <;> first | exact .inl (by assumption) | exact .inr (.inl (by assumption)) | exact .inr (.inr (by assumption)) | cases h
def slot (C : Cfg) (x : Str) : Option Nat := if visB C.sc x && !(x == ("__debug__" : Str)) && !(x == ("__classdict__" : Str)) then C.N.findIdx? (fun y => y == x) else none
theorem slot_ok {x : Str} {i : Nat} (h : slot C x = some i) : C.N[i]? = some x ∧ Vis C.sc x ∧ (x == ("__debug__" : Str)) = false ∧ (x == ("__classdict__" : Str)) = false := by
  unfold slot at h
  split at h
  · rename_i hc
    simp only [Bool.and_eq_true, Bool.not_eq_true'] at hc
    rw [List.findIdx?_eq_some_iff_getElem] at h
    obtain ⟨hl, h1, _⟩ := h
    refine ⟨?_, vis_of hc.1.1, hc.1.2, hc.2⟩
    rw [List.getElem?_eq_getElem hl]
    have := eq_of_beq h1
    rw [this]
  · cases h
def glB (C : Cfg) (x : Str) : Bool := decide (C.sc.names.lookup x = some .globalImplicit) && !(x == ("__debug__" : Str))
theorem gl_of {x : Str} (o : Ok X C ca F W) (h : glB C x = true) : Gl X x ∧ (x == ("__debug__" : Str)) = false := by
  unfold glB at h
  simp only [Bool.and_eq_true, decide_eq_true_eq, Bool.not_eq_true'] at h
  refine ⟨?_, h.2⟩
  show X.env.scope.names.lookup x = _
  rw [o.sc]
  exact h.1
def bltB (C : Cfg) (x : Str) : Bool := glB C x && C.blt.contains x
theorem blt_of {x : Str} (o : Ok X C ca F W) (h : bltB C x = true) : Gl X x ∧ X.mg x = none := by
  unfold bltB at h
  rw [Bool.and_eq_true] at h
  exact ⟨(gl_of o h.1).1, o.blt x (by simpa using h.2)⟩
/-! ### names, constants -/
def trName (C : Cfg) (m : Md) (x : Str) : Option E := match slot C x with
  | some i => match m with
    | .keep => some (.take i)
    | .look => some (.var i)
    | .test => some (.take i)
    | .fresh => none
  | none => match C.con.lookup x with
    | some d => if glB C x then up m (.con d) else none
    | none => none
theorem trName_ok {x : Str} {p : Pos} (h : trName C m x = some e') (o : Ok X C ca F W) : Sem' X ca W F m (.Name x p) e' := by
  unfold trName at h
  split at h
  · rename_i i hs
    obtain ⟨h1, h2, h3, h4⟩ := slot_ok hs
    rw [← o.N] at h1
    rw [← o.sc] at h2
    cases m with
    | keep => cases h; exact e_take h1 h2 h3 h4
    | look => cases h; exact e_var h1 h2 h3 h4
    | test => cases h; exact t_val (e_take h1 h2 h3 h4) (fun _ => rfl)
    | fresh => cases h
  · split at h
    · rename_i d hd
      split at h
      · rename_i hg
        obtain ⟨v, u, h1, h2, h3⟩ := o.con _ _ hd
        obtain ⟨g1, g2⟩ := gl_of o hg
        exact up_val h rfl (e_con (pe_glob g1 h1 h2 g2) h3)
      · cases h
    · cases h
def trCon : Const → Option D
  | .none => some .non
  | .bool b => some (.bl b)
  | .int i => some (.int i)
  | .str s => some (.str s)
  | _ => none
theorem trCon_ok {c : Const} {d : D} {k : Nat} {p : Pos} (h : trCon c = some d) : PE X (.Constant c k p) (DN X.K ca W (RV X.K) (ev F (.con d))) := by
  cases c <;> first | (cases h; exact e_con pe_non fun _ _ => rfl) | (cases h; exact e_con pe_bl fun _ _ => rfl) | (cases h; exact e_con pe_int fun _ _ => rfl) | (cases h; exact e_con pe_str fun _ _ => rfl) | cases h
/-! ### lists of expressions -/
def trL (f : Expr → Option E) : List Expr → Option Es
  | [] => some .nil
  | e :: es => if ns e then (f e).bind fun a => (trL f es).bind fun r => some (.cons a r) else none
theorem trL_ok {f : Expr → Option E} {bo : Bool} (hf : ∀ e e', f e = some e' → PE X e (DE X ca W F bo e')) : ∀ {es : List Expr} {es' : Es}, trL f es = some es' → PA X es (DA X ca W F bo es') ∧ es'.len = es.length ∧ es.all ns = true
  | [], es', h => by
    cases h
    exact ⟨a_nil, rfl, rfl⟩
  | e :: es, es', h => by
    unfold trL at h
    split at h
    · rename_i hn
      cases ha : f e with
      | none => rw [ha] at h; cases h
      | some a =>
        rw [ha] at h
        cases hr : trL f es with
        | none =>
          rw [hr] at h
          cases h
        | some r =>
          rw [hr] at h
          cases h
          obtain ⟨h1, h2, h3⟩ := trL_ok hf hr
          exact ⟨a_cons (hf e a ha) h1 (star1 hn), by show r.len + 1 = _; rw [h2]; rfl, by rw [List.all_cons, hn, h3]; rfl⟩
    · cases h
def opOf : Operator → Option Bop
  | .Add => some .add
  | .Sub => some .sub
  | .Mult => some .mul
  | .FloorDiv => some .fdiv
  | .Mod => some .mod
  | .Pow => some .pow
  | _ => none
theorem opOf_ok {op : Operator} {o : Bop} (h : opOf op = some o) : op = o.op := by
  cases op <;> first | (cases h; rfl) | cases h
def copOf : CmpOp → Option Cop
  | .Eq => some .eq
  | .NotEq => some .ne
  | .Lt => some .lt
  | .LtE => some .le
  | .Gt => some .gt
  | .GtE => some .ge
  | .In => some .in_
  | .NotIn => some .nin
  | _ => none
theorem copOf_ok {op : CmpOp} {o : Cop} (h : copOf op = some o) : op = o.op := by
  cases op <;> first | (cases h; rfl) | cases h
end
end Ev

set_option Elab.async false
set_option linter.all false
set_option maxRecDepth 100000
set_option maxHeartbeats 2000000
/-! From the program's text to the core: expressions, case by case. -/
namespace Ev
open PySem PySem.Spec PyProof.Rows L2
section
variable {X : Cx} {C : Cfg} {ca : Nat → Value} {W : WX} {F : Fns} {m : Md} {e : Expr} {e0 e' : E} {f : TrF} {p pos : Pos}
theorem Snd.keep (hf : Snd ca F f) (o : Ok X C ca F W) : ∀ e e', f C .keep e = some e' → PE X e (DE X ca W F false e') := fun e e' h => hf C .keep e e' h X W o
theorem Snd.look (hf : Snd ca F f) (o : Ok X C ca F W) : ∀ e e', f C .look e = some e' → PE X e (DE X ca W F true e') := fun e e' h => hf C .look e e' h X W o
theorem Snd.test (hf : Snd ca F f) (o : Ok X C ca F W) : ∀ e e', f C .test e = some e' → PT X e (DT X ca W F e') := fun e e' h => hf C .test e e' h X W o
theorem Snd.fresh (hf : Snd ca F f) (o : Ok X C ca F W) : ∀ e e', f C .fresh e = some e' → PE X e (DF X.K ca W (ev F e')) := fun e e' h => hf C .fresh e e' h X W o
def trTup (f : TrF) (C : Cfg) (m : Md) (es : List Expr) : Option E := (trL (f C .keep) es).bind fun es' => if es.length ≤ 1000 then up m (.tup es') else none
theorem le_LIM {n : Nat} (h : n ≤ 1000) : n ≤ LIM := by
  have hL : LIM = 16777216 := rfl
  omega
theorem trTup_ok (hf : Snd ca F f) {es : List Expr} {k : Nat} (h : trTup f C m es = some e') (o : Ok X C ca F W) : Sem' X ca W F m (.Tuple es k p) e' := by
  unfold trTup at h
  cases hl : trL (f C .keep) es with
  | none => rw [hl] at h; cases h
  | some es' =>
    rw [hl] at h
    have h : (if es.length ≤ 1000 then up m (.tup es') else none) = some e' := h
    split at h
    · rename_i hz
      obtain ⟨h1, h2, h3⟩ := trL_ok (hf.keep o) hl
      exact up_val h rfl (e_tup (k := k) h1 (by rw [h2]; exact le_LIM hz))
    · cases h
def trLst (f : TrF) (C : Cfg) (m : Md) (es : List Expr) : Option E := (trL (f C .keep) es).bind fun es' => if es.length ≤ 1000 then upF m (.lst es') else none
theorem trLst_ok (hf : Snd ca F f) {es : List Expr} (h : trLst f C m es = some e') (o : Ok X C ca F W) : Sem' X ca W F m (.List es p) e' := by
  unfold trLst at h
  cases hl : trL (f C .keep) es with
  | none => rw [hl] at h; cases h
  | some es' =>
    rw [hl] at h
    have h : (if es.length ≤ 1000 then upF m (.lst es') else none) = some e' := h
    split at h
    · rename_i hz
      obtain ⟨h1, h2, h3⟩ := trL_ok (hf.keep o) hl
      exact upF_ok h (f_lst h1 (by rw [h2]; exact le_LIM hz))
    · cases h
def upBin (m : Md) (o : Bop) (a b : E) : Option E := match m, o with
  | .fresh, .add => some (.cat a b)
  | m, o => up m (.bin o a b)
def trBin (f : TrF) (C : Cfg) (m : Md) (a : Expr) (op : Operator) (b : Expr) : Option E := match op, a with
  | .Mult, .List es _ => (trL (f C .keep) es).bind fun es' => (f C .look b).bind fun b' => if es.length ≤ 1000 then upF m (.repl es' b') else none
  | op, a => (opOf op).bind fun o => (f C .look a).bind fun a' => (f C .look b).bind fun b' => upBin m o a' b'
theorem trBin_ok (hf : Snd ca F f) {a b : Expr} {op : Operator} (h : trBin f C m a op b = some e') (o : Ok X C ca F W) : Sem' X ca W F m (.BinOp a op b p) e' := by
  unfold trBin at h
  split at h
  · rename_i es p2
    cases hl : trL (f C .keep) es with
    | none => rw [hl] at h; cases h
    | some es' =>
      rw [hl] at h
      cases hb : f C .look b with
      | none => rw [hb] at h; cases h
      | some b' =>
        rw [hb] at h
        have h : (if es.length ≤ 1000 then upF m (.repl es' b') else none) = some e' := h
        split at h
        · rename_i hz
          obtain ⟨h1, h2, h3⟩ := trL_ok (hf.keep o) hl
          exact upF_ok h (f_repl h1 (by rw [h2]; exact le_LIM hz) (hf.look o _ _ hb))
        · cases h
  · cases hop : opOf op with
    | none => rw [hop] at h; cases h
    | some bo =>
      rw [hop] at h
      cases ha : f C .look a with
      | none => rw [ha] at h; cases h
      | some a' =>
        rw [ha] at h
        cases hb : f C .look b with
        | none => rw [hb] at h; cases h
        | some b' =>
          rw [hb] at h
          have eo := opOf_ok hop
          subst eo
          have h : upBin m bo a' b' = some e' := h
          unfold upBin at h
          split at h
          · cases h
            exact f_cat (hf.look o _ _ ha) (hf.look o _ _ hb)
          · exact up_val h rfl (e_bin (hf.look o _ _ ha) (hf.look o _ _ hb))
def trUn (f : TrF) (C : Cfg) (m : Md) (op : UnaryOp) (a : Expr) : Option E := match op with
  | .Not => match m with
    | .test => (f C .test a).map .not
    | .fresh => none
    | _ => (f C .keep a).map .not
  | .USub => (f C .look a).bind fun a' => up m (.neg a')
  | _ => none
theorem trUn_ok (hf : Snd ca F f) {a : Expr} {op : UnaryOp} (h : trUn f C m op a = some e') (o : Ok X C ca F W) : Sem' X ca W F m (.UnaryOp op a p) e' := by
  unfold trUn at h
  split at h
  · cases m with
    | fresh => cases h
    | test =>
      have h : (f C .test a).map E.not = some e' := h
      cases ha : f C .test a with
      | none => rw [ha] at h; cases h
      | some a' => rw [ha] at h; cases h; exact t_not (hf.test o _ _ ha)
    | keep =>
      have h : (f C .keep a).map E.not = some e' := h
      cases ha : f C .keep a with
      | none => rw [ha] at h; cases h
      | some a' => rw [ha] at h; cases h; exact DE.up (e_not (hf.keep o _ _ ha))
    | look =>
      have h : (f C .keep a).map E.not = some e' := h
      cases ha : f C .keep a with
      | none => rw [ha] at h; cases h
      | some a' => rw [ha] at h; cases h; exact DE.up (e_not (hf.keep o _ _ ha))
  · cases ha : f C .look a with
    | none => rw [ha] at h; cases h
    | some a' =>
      rw [ha] at h
      exact up_val h rfl (e_neg (hf.look o _ _ ha))
  · cases h
def trCmp (f : TrF) (C : Cfg) (m : Md) (a : Expr) (op : CmpOp) (b : Expr) : Option E := match op, b with
  | .Is, .Constant .none _ _ => (f C .look a).bind fun a' => up m (.isn a' true)
  | .IsNot, .Constant .none _ _ => (f C .look a).bind fun a' => up m (.isn a' false)
  | .Is, .Constant (.bool k) _ _ => (f C .look a).bind fun a' => up m (.isb a' k true)
  | .IsNot, .Constant (.bool k) _ _ => (f C .look a).bind fun a' => up m (.isb a' k false)
  | op, b => (copOf op).bind fun o => (f C .look a).bind fun a' => (f C .look b).bind fun b' => if noSet b then up m (.cmp o a' b') else none
theorem trCmp_ok (hf : Snd ca F f) {a b : Expr} {op : CmpOp} (h : trCmp f C m a op b = some e') (o : Ok X C ca F W) : Sem' X ca W F m (.Compare a [op] [b] p) e' := by
  unfold trCmp at h
  split at h
  · cases ha : f C .look a with
    | none => rw [ha] at h; cases h
    | some a' => rw [ha] at h; exact up_ok h (e_isn (hf.look o _ _ ha)) (t_isn (hf.look o _ _ ha))
  · cases ha : f C .look a with
    | none => rw [ha] at h; cases h
    | some a' => rw [ha] at h; exact up_ok h (e_notn (hf.look o _ _ ha)) (t_notn (hf.look o _ _ ha))
  · cases ha : f C .look a with
    | none => rw [ha] at h; cases h
    | some a' => rw [ha] at h; exact up_ok h (e_isb (hf.look o _ _ ha)) (t_isb (hf.look o _ _ ha))
  · cases ha : f C .look a with
    | none => rw [ha] at h; cases h
    | some a' => rw [ha] at h; exact up_ok h (e_notb (hf.look o _ _ ha)) (t_notb (hf.look o _ _ ha))
  · cases hop : copOf op with
    | none => rw [hop] at h; cases h
    | some co =>
      rw [hop] at h
      cases ha : f C .look a with
      | none => rw [ha] at h; cases h
      | some a' =>
        rw [ha] at h
        cases hb : f C .look b with
        | none => rw [hb] at h; cases h
        | some b' =>
          rw [hb] at h
          have h : (if noSet b then up m (.cmp co a' b') else none) = some e' := h
          split at h
          · rename_i hs
            have eo := copOf_ok hop
            subst eo
            exact up_ok h (e_cmp o.un (hf.look o _ _ ha) (hf.look o _ _ hb) (noSet_mark hs)) (t_cmp o.un (hf.look o _ _ ha) (hf.look o _ _ hb) (noSet_mark hs))
          · cases h
def trChain (f : TrF) (C : Cfg) (m : Md) (a : Expr) (o1 o2 : CmpOp) (b c : Expr) : Option E := (copOf o1).bind fun p1 => (copOf o2).bind fun p2 => (f C .look a).bind fun a' => (f C .look b).bind fun b' => (f C .look c).bind fun c' => if noSet c then up m (.chain p1 p2 a' b' c') else none
theorem trChain_ok (hf : Snd ca F f) {a b c : Expr} {o1 o2 : CmpOp} (h : trChain f C m a o1 o2 b c = some e') (o : Ok X C ca F W) : Sem' X ca W F m (.Compare a [o1, o2] [b, c] p) e' := by
  unfold trChain at h
  cases h1 : copOf o1 with
  | none => rw [h1] at h; cases h
  | some p1 =>
    rw [h1] at h
    cases h2 : copOf o2 with
    | none => rw [h2] at h; cases h
    | some p2 =>
      rw [h2] at h
      cases ha : f C .look a with
      | none => rw [ha] at h; cases h
      | some a' =>
        rw [ha] at h
        cases hb : f C .look b with
        | none => rw [hb] at h; cases h
        | some b' =>
          rw [hb] at h
          cases hc : f C .look c with
          | none => rw [hc] at h; cases h
          | some c' =>
            rw [hc] at h
            have h : (if noSet c then up m (.chain p1 p2 a' b' c') else none) = some e' := h
            split at h
            · rename_i hs
              have e1 := copOf_ok h1
              have e2 := copOf_ok h2
              subst e1
              subst e2
              have hm : lastMarks [p1.op, p2.op] [b, c] = false := noSet_mark hs
              exact up_ok h (e_chain o.un (hf.look o _ _ ha) (hf.look o _ _ hb) (hf.look o _ _ hc) hm) (t_chain o.un (hf.look o _ _ ha) (hf.look o _ _ hb) (hf.look o _ _ hc) hm)
            · cases h
def andor : BoolOp → E → E → E
  | .And, a, b => .and a b
  | .Or, a, b => .or a b
def trBool (g : Expr → Option E) (op : BoolOp) : List Expr → Option E
  | [] => none
  | [e] => g e
  | e :: es => (g e).bind fun a => (trBool g op es).bind fun b => some (andor op a b)
theorem trBool_t {g : Expr → Option E} (hg : ∀ e e', g e = some e' → PT X e (DT X ca W F e')) {op : BoolOp} : ∀ {es : List Expr} {e' : E}, trBool g op es = some e' → PW X (.BoolOp op es p) (DT X ca W F e')
  | [], _, h => by cases h
  | [e], e', h => by
    have h : g e = some e' := h
    cases op
    · exact pw_and1 (hg _ _ h)
    · exact pw_or1 (hg _ _ h)
  | e :: e2 :: es, e', h => by
    have h : ((g e).bind fun a => (trBool g op (e2 :: es)).bind fun b => some (andor op a b)) = some e' := h
    cases ha : g e with
    | none => rw [ha] at h; cases h
    | some a =>
      rw [ha] at h
      cases hb : trBool g op (e2 :: es) with
      | none => rw [hb] at h; cases h
      | some b =>
        rw [hb] at h
        cases op
        · cases h; exact t_and (hg _ _ ha) (trBool_t hg hb)
        · cases h; exact t_or (hg _ _ ha) (trBool_t hg hb)
theorem trBool_e {g : Expr → Option E} (hg : ∀ e e', g e = some e' → PE X e (DE X ca W F false e')) {op : BoolOp} : ∀ {es : List Expr} {e' : E}, trBool g op es = some e' → PE X (.BoolOp op es p) (DN X.K ca W (RV X.K) (ev F e'))
  | [], _, h => by cases h
  | [e], e', h => pe_one (hg _ _ h)
  | e :: e2 :: es, e', h => by
    have h : ((g e).bind fun a => (trBool g op (e2 :: es)).bind fun b => some (andor op a b)) = some e' := h
    cases ha : g e with
    | none => rw [ha] at h; cases h
    | some a =>
      rw [ha] at h
      cases hb : trBool g op (e2 :: es) with
      | none => rw [hb] at h; cases h
      | some b =>
        rw [hb] at h
        cases op
        · cases h; exact e_and (hg _ _ ha) (trBool_e hg hb)
        · cases h; exact e_or (hg _ _ ha) (trBool_e hg hb)
def trBoolM (f : TrF) (C : Cfg) (m : Md) (op : BoolOp) (es : List Expr) : Option E := match m with
  | .test => trBool (f C .test) op es
  | .fresh => none
  | _ => trBool (f C .keep) op es
theorem trBoolM_ok (hf : Snd ca F f) {op : BoolOp} {es : List Expr} (h : trBoolM f C m op es = some e') (o : Ok X C ca F W) : Sem' X ca W F m (.BoolOp op es p) e' := by
  unfold trBoolM at h
  cases m with
  | fresh => cases h
  | test => exact (trBool_t (hf.test o) h).pt
  | keep => exact DE.up (trBool_e (hf.keep o) h)
  | look => exact DE.up (trBool_e (hf.keep o) h)
def trIf (f : TrF) (C : Cfg) (m : Md) (c a b : Expr) : Option E := match m with
  | .test => none
  | m => (f C .test c).bind fun c' => (f C m a).bind fun a' => (f C m b).bind fun b' => some (.ite c' a' b')
theorem trIf_ok (hf : Snd ca F f) {a b c : Expr} (h : trIf f C m c a b = some e') (o : Ok X C ca F W) : Sem' X ca W F m (.IfExp c a b p) e' := by
  have go : ∀ m, ((f C .test c).bind fun c' => (f C m a).bind fun a' => (f C m b).bind fun b' => some (E.ite c' a' b')) = some e' → ∃ c' a' b', f C .test c = some c' ∧ f C m a = some a' ∧ f C m b = some b' ∧ e' = .ite c' a' b' := fun m h => by
    cases hc : f C .test c with
    | none => rw [hc] at h; cases h
    | some c' =>
      rw [hc] at h
      cases ha : f C m a with
      | none => rw [ha] at h; cases h
      | some a' =>
        rw [ha] at h
        cases hb : f C m b with
        | none => rw [hb] at h; cases h
        | some b' =>
          rw [hb] at h
          cases h
          exact ⟨c', a', b', rfl, rfl, rfl, rfl⟩
  cases m with
  | test => cases h
  | keep =>
    obtain ⟨c', a', b', h1, h2, h3, rfl⟩ := go .keep h
    exact e_ite (hf.test o _ _ h1) (hf.keep o _ _ h2) (hf.keep o _ _ h3)
  | look =>
    obtain ⟨c', a', b', h1, h2, h3, rfl⟩ := go .look h
    exact e_ite (hf.test o _ _ h1) (hf.look o _ _ h2) (hf.look o _ _ h3)
  | fresh =>
    obtain ⟨c', a', b', h1, h2, h3, rfl⟩ := go .fresh h
    exact f_ite (hf.test o _ _ h1) (hf.fresh o _ _ h2) (hf.fresh o _ _ h3)
def trO (g : Expr → Option E) : Option Expr → Option Oe
  | none => some .no
  | some e => (g e).map .yes
theorem trO_ok (hf : Snd ca F f) {lo : Option Expr} {lo' : Oe} (h : trO (f C .look) lo = some lo') (o : Ok X C ca F W) : PO X lo (DO X ca W F lo') := by
  cases lo with
  | none => cases h; exact o_no
  | some e =>
    have h : (f C .look e).map Oe.yes = some lo' := h
    cases ha : f C .look e with
    | none => rw [ha] at h; cases h
    | some a => rw [ha] at h; cases h; exact o_yes (hf.look o _ _ ha)
def trSub (f : TrF) (C : Cfg) (m : Md) (a s : Expr) : Option E := match s with
  | .Slice none none (some (.UnaryOp .USub (.Constant (.int 1) _ _) _)) _ => (f C .look a).bind fun a' => up m (.rev a')
  | .Slice lo hi none _ => (f C .look a).bind fun a' => (trO (f C .look) lo).bind fun l' => (trO (f C .look) hi).bind fun h' => up m (.sl a' l' h')
  | .Slice .. => none
  | s => (f C .look a).bind fun a' => (f C .look s).bind fun s' => if noSlice s then up m (.ix a' s') else none
theorem trSub_ok (hf : Snd ca F f) {a s : Expr} (h : trSub f C m a s = some e') (o : Ok X C ca F W) : Sem' X ca W F m (.Subscript a s p) e' := by
  unfold trSub at h
  split at h
  · cases ha : f C .look a with
    | none => rw [ha] at h; cases h
    | some a' => rw [ha] at h; exact up_val h rfl (e_rev (hf.look o _ _ ha))
  · rename_i lo hi p2
    cases ha : f C .look a with
    | none => rw [ha] at h; cases h
    | some a' =>
      rw [ha] at h
      cases hl : trO (f C .look) lo with
      | none => rw [hl] at h; cases h
      | some l' =>
        rw [hl] at h
        cases hh : trO (f C .look) hi with
        | none => rw [hh] at h; cases h
        | some h' =>
          rw [hh] at h
          exact up_val h rfl (e_sl (hf.look o _ _ ha) (trO_ok hf hl o) (trO_ok hf hh o))
  · cases h
  · cases ha : f C .look a with
    | none => rw [ha] at h; cases h
    | some a' =>
      rw [ha] at h
      cases hs : f C .look s with
      | none => rw [hs] at h; cases h
      | some s' =>
        rw [hs] at h
        have h : (if noSlice s then up m (.ix a' s') else none) = some e' := h
        split at h
        · rename_i hn
          exact up_val h rfl (e_ix o.un (hf.look o _ _ ha) (hf.look o _ _ hs) (plainIx_of hn))
        · cases h
end
end Ev

set_option Elab.async false
set_option linter.all false
set_option maxRecDepth 100000
set_option maxHeartbeats 2000000
/-! From the program's text to the core: targets, sources, comprehensions. -/
namespace Ev
open PySem PySem.Spec PyProof.Rows L2
section
variable {X : Cx} {C : Cfg} {ca : Nat → Value} {W : WX} {F : Fns} {m : Md} {e : Expr} {e0 e' : E} {f : TrF} {p pos : Pos}
def locB (C : Cfg) (x : Str) : Bool := match C.sc.names.lookup x with
  | some .local => true
  | some .cell => C.fnB x
  | _ => false
def slotT (C : Cfg) (x : Str) : Option Nat := if locB C x then C.N.findIdx? (fun y => y == x) else none
theorem slotT_ok {x : Str} {i : Nat} (h : slotT C x = some i) (o : Ok X C ca F W) : X.N[i]? = some x ∧ Loc X.env.scope x ∧ (X.fn x = true ∨ X.env.scope.names.lookup x = some .local) := by
  unfold slotT at h
  split at h
  · rename_i hc
    rw [List.findIdx?_eq_some_iff_getElem] at h
    obtain ⟨hl, h1, _⟩ := h
    have hx : C.N[i]? = some x := by
      rw [List.getElem?_eq_getElem hl]
      have := eq_of_beq h1
      rw [this]
    rw [o.N, o.sc]
    refine ⟨hx, ?_⟩
    unfold locB at hc
    split at hc
    · rename_i q
      exact ⟨.inl q, .inr q⟩
    · rename_i q
      exact ⟨.inr q, .inl (o.fn x hc)⟩
    · cases hc
  · cases h
def trNames (C : Cfg) : List Expr → Option (List Nat)
  | [] => some []
  | .Name x _ :: es => (slotT C x).bind fun i => (trNames C es).bind fun is => some (i :: is)
  | _ :: _ => none
theorem trNames_ok (o : Ok X C ca F W) : ∀ {es : List Expr} {is : List Nat}, trNames C es = some is → PGs X es (gNames is) ∧ (assignEach es X.env).length = is.length ∧ (assignEach es X.env).findIdx? (·.1) = none
  | [], is, h => by
    cases h
    exact ⟨pgs_nil, rfl, rfl⟩
  | e :: es, is, h => by
    cases e with
    | Name x p =>
      have h : ((slotT C x).bind fun i => (trNames C es).bind fun is => some (i :: is)) = some is := h
      cases hi : slotT C x with
      | none => rw [hi] at h; cases h
      | some i =>
        rw [hi] at h
        cases hr : trNames C es with
        | none => rw [hr] at h; cases h
        | some js =>
          rw [hr] at h
          cases h
          obtain ⟨h1, h2, h3⟩ := slotT_ok hi o
          obtain ⟨g1, g2, g3⟩ := trNames_ok o hr
          have hN : X.N.Nodup := by rw [o.N]; exact o.nd
          refine ⟨pgs_cons (pg_name hN h1 h2 h3) g1 rfl, ?_, ?_⟩
          · show (assignEach es X.env).length + 1 = js.length + 1
            rw [g2]
          · show ((false, assign (.Name x p) X.env) :: assignEach es X.env).findIdx? (·.1) = none
            rw [List.findIdx?_cons, g3]
            rfl
    | _ => cases h
def trTg (C : Cfg) : Expr → Option (List Nat × Bool)
  | .Name x _ => (slotT C x).map fun i => ([i], false)
  | .Tuple es _ _ => (trNames C es).map fun is => (is, true)
  | _ => none
theorem trTg_ok {tg : Expr} {t : List Nat} {u : Bool} (h : trTg C tg = some (t, u)) (o : Ok X C ca F W) : PG X tg (gT X.K t u) := by
  have hN : X.N.Nodup := by rw [o.N]; exact o.nd
  cases tg with
  | Name x p =>
    have h : ((slotT C x).map fun i => ([i], false)) = some (t, u) := h
    cases hi : slotT C x with
    | none => rw [hi] at h; cases h
    | some i =>
      rw [hi] at h
      cases h
      obtain ⟨h1, h2, h3⟩ := slotT_ok hi o
      exact g_name hN h1 h2 h3
  | Tuple es k p =>
    have h : ((trNames C es).map fun is => (is, true)) = some (t, u) := h
    cases hi : trNames C es with
    | none => rw [hi] at h; cases h
    | some is =>
      rw [hi] at h
      cases h
      obtain ⟨g1, g2, g3⟩ := trNames_ok o hi
      exact g_tup o.calm g1 g2 g3
  | _ => cases h
/-! ### sources -/
def isTupE : Expr → Bool
  | .Tuple .. => true
  | _ => false
def bm (bo : Bool) : Md := if bo then .look else .keep
theorem Snd.bm (hf : Snd ca F f) (o : Ok X C ca F W) (bo : Bool) : ∀ e e', f C (bm bo) e = some e' → PE X e (DE X ca W F bo e') := fun e e' h => by
  cases bo
  · exact hf.keep o e e' h
  · exact hf.look o e e' h
def trI (f : TrF) (C : Cfg) (bo : Bool) (tg : Expr) (iter : Expr) : Option Src := match iter with
  | .Call (.Name x _) [a] [] _ =>
    if x == ("range" : Str) && bltB C ("range" : Str) && ns a then (f C (bm bo) a).map .rng
    else if x == ("enumerate" : Str) && bltB C ("enumerate" : Str) && ns a && isTupE tg then (f C (bm bo) a).map .enum
    else (f C (bm bo) iter).map .seq
  | .Call (.Name x _) [a, b] [] _ =>
    if x == ("range" : Str) && bltB C ("range" : Str) && ns a && ns b then (f C (bm bo) a).bind fun a' => (f C (bm bo) b).bind fun b' => some (.rng2 a' b')
    else if x == ("zip" : Str) && bltB C ("zip" : Str) && ns a && ns b && isTupE tg then (f C (bm bo) a).bind fun a' => (f C (bm bo) b).bind fun b' => some (.zip a' b')
    else (f C (bm bo) iter).map .seq
  | _ => (f C (bm bo) iter).map .seq
theorem seq_case (hf : Snd ca F f) {bo : Bool} {tg iter : Expr} {i : Src} (h : (f C (Ev.bm bo) iter).map Src.seq = some i) (o : Ok X C ca F W) : PI X tg iter (DI X ca W F bo i) := by
  cases ha : f C (Ev.bm bo) iter with
  | none => rw [ha] at h; cases h
  | some a => rw [ha] at h; cases h; exact i_seq (hf.bm o bo _ _ ha)
theorem trI_ok (hf : Snd ca F f) {bo : Bool} {tg iter : Expr} {i : Src} (h : trI f C bo tg iter = some i) (o : Ok X C ca F W) : PI X tg iter (DI X ca W F bo i) := by
  unfold trI at h
  split at h
  · rename_i x p1 a p2
    split at h
    · rename_i hc
      simp only [Bool.and_eq_true] at hc
      obtain ⟨⟨hx, hb⟩, hn⟩ := hc
      have ex := eq_of_beq hx
      subst ex
      obtain ⟨g1, g2⟩ := blt_of o hb
      cases ha : f C (Ev.bm bo) a with
      | none => rw [ha] at h; cases h
      | some a' =>
        rw [ha] at h
        cases h
        exact i_rng (a_cons (hf.bm o bo _ _ ha) a_nil (star1 hn)) g1 g2 (star1 hn)
    · split at h
      · rename_i hc
        simp only [Bool.and_eq_true] at hc
        obtain ⟨⟨⟨hx, hb⟩, hn⟩, ht⟩ := hc
        have ex := eq_of_beq hx
        subst ex
        obtain ⟨g1, g2⟩ := blt_of o hb
        cases ha : f C (Ev.bm bo) a with
        | none => rw [ha] at h; cases h
        | some a' =>
          rw [ha] at h
          cases h
          cases tg with
          | Tuple elts kk tpos => exact i_enum (hf.bm o bo _ _ ha) g1 g2 (star1 hn)
          | _ => cases ht
      · exact seq_case hf h o
  · rename_i x p1 a b p2
    split at h
    · rename_i hc
      simp only [Bool.and_eq_true] at hc
      obtain ⟨⟨⟨hx, hb⟩, hn⟩, hn2⟩ := hc
      have ex := eq_of_beq hx
      subst ex
      obtain ⟨g1, g2⟩ := blt_of o hb
      cases ha : f C (Ev.bm bo) a with
      | none => rw [ha] at h; cases h
      | some a' =>
        rw [ha] at h
        cases hb' : f C (Ev.bm bo) b with
        | none => rw [hb'] at h; cases h
        | some b' =>
          rw [hb'] at h
          cases h
          refine i_rng2 (a_cons (hf.bm o bo _ _ ha) (a_cons (hf.bm o bo _ _ hb') a_nil (star1 hn2)) (star1 hn)) g1 g2 ?_ (star1 hn2)
          rw [star1 hn, star1 hn2]
          rfl
    · split at h
      · rename_i hc
        simp only [Bool.and_eq_true] at hc
        obtain ⟨⟨⟨⟨hx, hb⟩, hn⟩, hn2⟩, ht⟩ := hc
        have ex := eq_of_beq hx
        subst ex
        obtain ⟨g1, g2⟩ := blt_of o hb
        cases ha : f C (Ev.bm bo) a with
        | none => rw [ha] at h; cases h
        | some a' =>
          rw [ha] at h
          cases hb' : f C (Ev.bm bo) b with
          | none => rw [hb'] at h; cases h
          | some b' =>
            rw [hb'] at h
            cases h
            cases tg with
            | Tuple elts kk tpos => exact i_zip (a_cons (hf.bm o bo _ _ ha) (a_cons (hf.bm o bo _ _ hb') a_nil (star1 hn2)) (star1 hn)) g1 g2 (star1 hn) (starP (by rw [List.all_cons, hn2]; rfl))
            | _ => cases ht
      · exact seq_case hf h o
  · exact seq_case hf h o
/-! ### comprehensions -/
def ownOf (C : Cfg) (scope : Scope) : List (Str × Nat) := scope.names.filterMap fun y => match y.2 with
  | .local => (C.N.findIdx? (fun z => z == y.1)).map fun i => (y.1, i)
  | .cell => (C.N.findIdx? (fun z => z == y.1)).map fun i => (y.1, i)
  | _ => none
def trIfs (g : Expr → Option E) : List Expr → Option Oe
  | [] => some .no
  | [c] => (g c).map .yes
  | _ => none
structure Cp where
  t : List Nat
  u : Bool
  i : Src
  c : Oe
  own : List Nat
def trClause (f : TrF) (C : Cfg) (gens : List Comprehension) (scope : Scope) : Option Cp := match gens with
  | [⟨tg, iter, ifs, k⟩] =>
    if decide (k = 0) && blkC C.N C.sc scope (ownOf C scope) && noSet iter then
      (trTg (C.blk scope) tg).bind fun tu => (trI f C true tg iter).bind fun i => (trIfs (f (C.blk scope) .test) ifs).bind fun c =>
        if tu.1.all (fun j => ((ownOf C scope).map (·.2)).contains j) then some ⟨tu.1, tu.2, i, c, (ownOf C scope).map (·.2)⟩ else none
    else none
  | _ => none
/-- what a clause's translation gives -/
structure CpOk (X : Cx) (ca : Nat → Value) (W : WX) (F : Fns) (C : Cfg) (tg iter : Expr) (ifs : List Expr) (scope : Scope) (cp : Cp) : Prop where
  own : cp.own = (ownOf C scope).map (·.2)
  ok : BlkOk X.N X.env.scope scope (ownOf C scope)
  hi : PI X tg iter (DI X ca W F true cp.i)
  ht : ∀ j ∈ cp.t, j ∈ (ownOf C scope).map (·.2)
  hg : ∀ (s : Shared) (H : Hp) (Ca : Addr) (cl : List (Str × Addr)) (fp : List Addr), PG (X.blk s H scope (compEnvC scope cl Ca X.env) fp) tg (gT X.K cp.t cp.u)
  hts : ∀ (s : Shared) (H : Hp) (Ca : Addr) (cl : List (Str × Addr)) (fp : List Addr), PTs (X.blk s H scope (compEnvC scope cl Ca X.env) fp) ifs (DC X.K ca F cp.c)
  hs : ∀ x, foldedSetIterable iter X.env x = pure x
theorem trClause_ok (hf : Snd ca F f) {gens : List Comprehension} {scope : Scope} {cp : Cp} (h : trClause f C gens scope = some cp) (o : Ok X C ca F W) : ∃ tg iter ifs, gens = [⟨tg, iter, ifs, 0⟩] ∧ CpOk X ca W F C tg iter ifs scope cp := by
  unfold trClause at h
  split at h
  · rename_i tg iter ifs k
    split at h
    · rename_i hc
      simp only [Bool.and_eq_true, decide_eq_true_eq] at hc
      obtain ⟨⟨rfl, hb⟩, hns⟩ := hc
      refine ⟨tg, iter, ifs, rfl, ?_⟩
      cases h1 : trTg (C.blk scope) tg with
      | none => rw [h1] at h; cases h
      | some tu =>
        rw [h1] at h
        cases h2 : trI f C true tg iter with
        | none => rw [h2] at h; cases h
        | some i =>
          rw [h2] at h
          cases h3 : trIfs (f (C.blk scope) .test) ifs with
          | none => rw [h3] at h; cases h
          | some c =>
            rw [h3] at h
            have h : (if tu.1.all (fun j => ((ownOf C scope).map (·.2)).contains j) then some (⟨tu.1, tu.2, i, c, (ownOf C scope).map (·.2)⟩ : Cp) else none) = some cp := h
            split at h
            · rename_i hall
              cases h
              refine ⟨rfl, ?_, trI_ok hf h2 o, fun j hj => ?_, fun s H Ca cl fp => trTg_ok h1 (o.blk scope s H Ca cl fp), fun s H Ca cl fp => ?_, noSet_it hns⟩
              · rw [o.N, o.sc]
                exact blkOk_by hb
              · have := List.all_eq_true.mp hall j hj
                simpa using this
              · have ob := o.blk scope s H Ca cl fp
                cases ifs with
                | nil => cases h3; exact ts_nil
                | cons c0 rest =>
                  cases rest with
                  | nil =>
                    have h3 : (f (C.blk scope) .test c0).map Oe.yes = some c := h3
                    cases h4 : f (C.blk scope) .test c0 with
                    | none => rw [h4] at h3; cases h3
                    | some c' => rw [h4] at h3; cases h3; exact ts_one (hf.test ob _ _ h4)
                  | cons _ _ => cases h3
            · cases h
    · cases h
  · cases h
def trComp (f : TrF) (C : Cfg) (m : Md) (elt : Expr) (gens : List Comprehension) (scope : Scope) : Option E := (trClause f C gens scope).bind fun cp => (f (C.blk scope) .keep elt).bind fun e => upF m (.comp e cp.t cp.u cp.i cp.c cp.own)
theorem trComp_ok (hf : Snd ca F f) {elt : Expr} {gens : List Comprehension} {scope : Scope} (h : trComp f C m elt gens scope = some e') (o : Ok X C ca F W) : Sem' X ca W F m (.ListComp elt gens scope p) e' := by
  unfold trComp at h
  cases h1 : trClause f C gens scope with
  | none => rw [h1] at h; cases h
  | some cp =>
    rw [h1] at h
    cases h2 : f (C.blk scope) .keep elt with
    | none => rw [h2] at h; cases h
    | some e =>
      rw [h2] at h
      obtain ⟨tg, iter, ifs, rfl, k⟩ := trClause_ok hf h1 o
      have hN : X.N.Nodup := by rw [o.N]; exact o.nd
      refine upF_ok h ?_
      rw [k.own]
      exact f_comp o.calm hN k.hi k.ok k.ht k.hg k.hts (fun s H Ca cl fp => hf.keep (o.blk scope s H Ca cl fp) _ _ h2) k.hs
def trDComp (f : TrF) (C : Cfg) (m : Md) (kx vx : Expr) (gens : List Comprehension) (scope : Scope) : Option E := (trClause f C gens scope).bind fun cp => (f (C.blk scope) .keep kx).bind fun k => (f (C.blk scope) .keep vx).bind fun e => upF m (.dcomp k e cp.t cp.u cp.i cp.c cp.own)
theorem trDComp_ok (hf : Snd ca F f) {kx vx : Expr} {gens : List Comprehension} {scope : Scope} (h : trDComp f C m kx vx gens scope = some e') (o : Ok X C ca F W) : Sem' X ca W F m (.DictComp kx vx gens scope p) e' := by
  unfold trDComp at h
  cases h1 : trClause f C gens scope with
  | none => rw [h1] at h; cases h
  | some cp =>
    rw [h1] at h
    cases h3 : f (C.blk scope) .keep kx with
    | none => rw [h3] at h; cases h
    | some k0 =>
      rw [h3] at h
      cases h2 : f (C.blk scope) .keep vx with
      | none => rw [h2] at h; cases h
      | some e =>
        rw [h2] at h
        obtain ⟨tg, iter, ifs, rfl, k⟩ := trClause_ok hf h1 o
        have hN : X.N.Nodup := by rw [o.N]; exact o.nd
        refine upF_ok h ?_
        rw [k.own]
        exact f_dcomp o.calm hN k.hi k.ok k.ht k.hg k.hts (fun s H Ca cl fp => hf.keep (o.blk scope s H Ca cl fp) _ _ h3) (fun s H Ca cl fp => hf.keep (o.blk scope s H Ca cl fp) _ _ h2) k.hs
end
end Ev

set_option Elab.async false
set_option linter.all false
set_option maxRecDepth 100000
set_option maxHeartbeats 2000000
/-! From the program's text to the core: calls; all expressions. -/
namespace Ev
open PySem PySem.Spec PyProof.Rows L2
section
variable {X : Cx} {C : Cfg} {ca : Nat → Value} {W : WX} {F : Fns} {m : Md} {e : Expr} {e0 e' : E} {f : TrF} {p pos apos : Pos}
/-! ### built-ins -/
def biOf (x : Str) (k : Nat) : Option Bi :=
  if x == ("len" : Str) then some .len
  else if x == ("int" : Str) then some .int_
  else if x == ("abs" : Str) then some .abs
  else if x == ("min" : Str) then (if k = 1 then some .minl else some .min2)
  else if x == ("max" : Str) then (if k = 1 then some .maxl else some .max2)
  else if x == ("all" : Str) then some .all
  else if x == ("any" : Str) then some .any
  else if x == ("sum" : Str) then some .sum
  else if x == ("str" : Str) then some .strn
  else none
theorem biOf_ok {x : Str} {b : Bi} {k : Nat} {a : Expr} {es : List Expr} {es' : Es} (h : biOf x k = some b) (o : Ok X C ca F W) (hb : bltB C x = true) (ha : PA X (a :: es) (DA X ca W F true es')) (hn : (a :: es).all ns = true) : PE X (.Call (.Name x p) (a :: es) [] pos) (DN X.K ca W (RV X.K) (ev F (.bi b es'))) := by
  obtain ⟨g1, g2⟩ := blt_of o hb
  rw [List.all_cons, Bool.and_eq_true] at hn
  have s1 : starEach (a :: es) X.env = (false, eval a X.env) :: starEach es X.env := star1 hn.1
  have s2 : (backTo pos (starEach es X.env)).any (·.1) = false := starP hn.2
  unfold biOf at h
  split at h
  · rename_i hx
    cases h
    have ex := eq_of_beq hx
    subst ex
    exact e_bi bi_len g1 g2 (by decide +kernel) ha (by decide) (by decide) s1 s2
  split at h
  · rename_i hx
    cases h
    have ex := eq_of_beq hx
    subst ex
    exact e_bity bi_int g1 g2 (by decide +kernel) ha (by decide) (by decide) s1 s2
  split at h
  · rename_i hx
    cases h
    have ex := eq_of_beq hx
    subst ex
    exact e_bi bi_abs g1 g2 (by decide +kernel) ha (by decide) (by decide) s1 s2
  split at h
  · rename_i hx
    have ex := eq_of_beq hx
    subst ex
    split at h
    · cases h
      exact e_bi (bi_minl o.calm) g1 g2 (by decide +kernel) ha (by decide) (by decide) s1 s2
    · cases h
      exact e_bi (bi_min o.calm) g1 g2 (by decide +kernel) ha (by decide) (by decide) s1 s2
  split at h
  · rename_i hx
    have ex := eq_of_beq hx
    subst ex
    split at h
    · cases h
      exact e_bi (bi_maxl o.calm) g1 g2 (by decide +kernel) ha (by decide) (by decide) s1 s2
    · cases h
      exact e_bi (bi_max o.calm) g1 g2 (by decide +kernel) ha (by decide) (by decide) s1 s2
  split at h
  · rename_i hx
    cases h
    have ex := eq_of_beq hx
    subst ex
    exact e_bi (bi_all o.calm) g1 g2 (by decide +kernel) ha (by decide) (by decide) s1 s2
  split at h
  · rename_i hx
    cases h
    have ex := eq_of_beq hx
    subst ex
    exact e_bi (bi_any o.calm) g1 g2 (by decide +kernel) ha (by decide) (by decide) s1 s2
  split at h
  · rename_i hx
    cases h
    have ex := eq_of_beq hx
    subst ex
    exact e_bi (bi_sum o.calm) g1 g2 (by decide +kernel) ha (by decide) (by decide) s1 s2
  split at h
  · rename_i hx
    cases h
    have ex := eq_of_beq hx
    subst ex
    exact e_bity bi_strn g1 g2 (by decide +kernel) ha (by decide) (by decide) s1 s2
  · cases h
def tynOf (x : Str) : Option Tyn :=
  if x == ("int" : Str) then some .int
  else if x == ("bool" : Str) then some .bool
  else if x == ("str" : Str) then some .str
  else if x == ("tuple" : Str) then some .tup
  else if x == ("list" : Str) then some .lst
  else if x == ("dict" : Str) then some .dict
  else none
theorem tynOf_ok {x : Str} {t : Tyn} (h : tynOf x = some t) : x = (t.nm : Str) := by
  unfold tynOf at h
  repeat' (split at h)
  all_goals first | (rename_i hx; cases h; exact eq_of_beq hx) | cases h
def trIsi (f : TrF) (C : Cfg) (m : Md) (a b : Expr) : Option E := match b with
  | .Name t _ => (tynOf t).bind fun ty => (f C .look a).bind fun a' => if ns a && bltB C t then up m (.isi a' [ty]) else none
  | .Tuple [.Name t _, .Name t2 _] _ _ => (tynOf t).bind fun ty => (tynOf t2).bind fun ty2 => (f C .look a).bind fun a' => if ns a && bltB C t && bltB C t2 then up m (.isi a' [ty, ty2]) else none
  | _ => none
theorem trIsi_ok (hf : Snd ca F f) {a b : Expr} (h : trIsi f C m a b = some e') (o : Ok X C ca F W) (hb : bltB C ("isinstance" : Str) = true) : Sem' X ca W F m (.Call (.Name "isinstance" p) [a, b] [] pos) e' := by
  obtain ⟨g1, g2⟩ := blt_of o hb
  unfold trIsi at h
  split at h
  · rename_i t p2
    cases ht : tynOf t with
    | none => rw [ht] at h; cases h
    | some ty =>
      rw [ht] at h
      cases ha : f C .look a with
      | none => rw [ha] at h; cases h
      | some a' =>
        rw [ha] at h
        have h2 : (if ns a && bltB C t then up m (.isi a' [ty]) else none) = some e' := h
        clear h
        split at h2
        · rename_i hc
          rw [Bool.and_eq_true] at hc
          have et := tynOf_ok ht
          subst et
          obtain ⟨q1, q2⟩ := blt_of o hc.2
          exact up_val h2 rfl (e_isi (hf.look o _ _ ha) g1 g2 q1 q2 (star1 hc.1))
        · cases h2
  · rename_i t p2 t2 p3 k p4
    cases ht : tynOf t with
    | none => rw [ht] at h; cases h
    | some ty =>
      rw [ht] at h
      cases ht2 : tynOf t2 with
      | none => rw [ht2] at h; cases h
      | some ty2 =>
        rw [ht2] at h
        cases ha : f C .look a with
        | none => rw [ha] at h; cases h
        | some a' =>
          rw [ha] at h
          have h3 : (if ns a && bltB C t && bltB C t2 then up m (.isi a' [ty, ty2]) else none) = some e' := h
          clear h
          split at h3
          · rename_i hc
            simp only [Bool.and_eq_true] at hc
            have et := tynOf_ok ht
            subst et
            have et2 := tynOf_ok ht2
            subst et2
            obtain ⟨q1, q2⟩ := blt_of o hc.1.2
            obtain ⟨q3, q4⟩ := blt_of o hc.2
            exact up_val h3 rfl (e_isi2 (hf.look o _ _ ha) g1 g2 q1 q2 q3 q4 (star1 hc.1.1))
          · cases h3
  · cases h
/-! ### tuple(..), list(..), dict(..) -/
def rngArg : Expr → Option Expr
  | .Call (.Name x _) [a] [] _ => if x == ("range" : Str) then some a else none
  | _ => none
theorem rngArg_ok {e a : Expr} (h : rngArg e = some a) : ∃ p q, e = .Call (.Name "range" p) [a] [] q := by
  unfold rngArg at h
  split at h
  · split at h
    · rename_i hx
      cases h
      have ex := eq_of_beq hx
      subst ex
      exact ⟨_, _, rfl⟩
    · cases h
  · cases h
def rng2Arg : Expr → Option (Expr × Expr)
  | .Call (.Name x _) [a, b] [] _ => if x == ("range" : Str) then some (a, b) else none
  | _ => none
theorem rng2Arg_ok {e a b : Expr} (h : rng2Arg e = some (a, b)) : ∃ p q, e = .Call (.Name "range" p) [a, b] [] q := by
  unfold rng2Arg at h
  split at h
  · split at h
    · rename_i hx
      cases h
      have ex := eq_of_beq hx
      subst ex
      exact ⟨_, _, rfl⟩
    · cases h
  · cases h
def trTuple2 (f : TrF) (C : Cfg) (m : Md) (a : Expr) : Option E := match rng2Arg a with
  | some (r, q) => (f C .look r).bind fun r' => (f C .look q).bind fun q' => if ns r && ns q && bltB C ("range" : Str) then up m (.totup (.rng2 r' q')) else none
  | none => (f C .look a).bind fun a' => if ns a then up m (.totup (.seq a')) else none
theorem trTuple2_ok (hf : Snd ca F f) {a : Expr} (h : trTuple2 f C m a = some e') (o : Ok X C ca F W) (hb : bltB C ("tuple" : Str) = true) : Sem' X ca W F m (.Call (.Name "tuple" p) [a] [] pos) e' := by
  obtain ⟨g1, g2⟩ := blt_of o hb
  unfold trTuple2 at h
  split at h
  · rename_i r s hr
    obtain ⟨p2, q2, rfl⟩ := rng2Arg_ok hr
    cases ha : f C .look r with
    | none => rw [ha] at h; cases h
    | some a' =>
      rw [ha] at h
      cases hb' : f C .look s with
      | none =>
        have h : ((f C .look s).bind fun q' => if ns r && ns s && bltB C ("range" : Str) then up m (.totup (.rng2 a' q')) else none) = some e' := h
        rw [hb'] at h
        cases h
      | some b' =>
        have h : ((f C .look s).bind fun q' => if ns r && ns s && bltB C ("range" : Str) then up m (.totup (.rng2 a' q')) else none) = some e' := h
        rw [hb'] at h
        have h : (if ns r && ns s && bltB C ("range" : Str) then up m (.totup (.rng2 a' b')) else none) = some e' := h
        split at h
        · rename_i hc
          simp only [Bool.and_eq_true] at hc
          obtain ⟨q1, q2⟩ := blt_of o hc.2
          exact up_val h rfl (e_tupRg2 o.calm (hf.look o _ _ ha) (hf.look o _ _ hb') g1 g2 q1 q2 (star1 hc.1.1) (star1 hc.1.2) (star1 rfl) (starP (es := [s]) (by simp [hc.1.2])))
        · cases h
  · cases ha : f C .look a with
    | none => rw [ha] at h; cases h
    | some a' =>
      rw [ha] at h
      have h : (if ns a then up m (.totup (.seq a')) else none) = some e' := h
      split at h
      · rename_i hc
        exact up_val h rfl (e_totup (hf.look o _ _ ha) g1 g2 (star1 hc))
      · cases h
def trTuple (f : TrF) (C : Cfg) (m : Md) (a : Expr) : Option E := match rngArg a with
  | some r => (f C .look r).bind fun r' => if ns r && bltB C ("range" : Str) then up m (.totup (.rng r')) else none
  | none => trTuple2 f C m a
theorem trTuple_ok (hf : Snd ca F f) {a : Expr} (h : trTuple f C m a = some e') (o : Ok X C ca F W) (hb : bltB C ("tuple" : Str) = true) : Sem' X ca W F m (.Call (.Name "tuple" p) [a] [] pos) e' := by
  obtain ⟨g1, g2⟩ := blt_of o hb
  unfold trTuple at h
  split at h
  · rename_i r hr
    obtain ⟨p2, q2, rfl⟩ := rngArg_ok hr
    cases ha : f C .look r with
    | none => rw [ha] at h; cases h
    | some a' =>
      rw [ha] at h
      have h : (if ns r && bltB C ("range" : Str) then up m (.totup (.rng a')) else none) = some e' := h
      split at h
      · rename_i hc
        rw [Bool.and_eq_true] at hc
        obtain ⟨q1, q2⟩ := blt_of o hc.2
        exact up_val h rfl (e_tupRg o.calm (hf.look o _ _ ha) g1 g2 q1 q2 (star1 hc.1) (star1 rfl))
      · cases h
  · exact trTuple2_ok hf h o hb
def strB (C : Cfg) : Expr → Bool
  | .Constant (.str _) _ _ => true
  | .Name x _ => (slot C x).isNone && (match C.con.lookup x with
    | some (.str _) => true
    | _ => false)
  | _ => false
def trList (f : TrF) (C : Cfg) (m : Md) (a : Expr) : Option E := if strB C a then (f C .look a).bind fun a' => if ns a then upF m (.lstr a') else none else match rngArg a with
  | some r => (f C .look r).bind fun r' => if ns r && bltB C ("range" : Str) then upF m (.tolst (.rng r')) else none
  | none => (f C .look a).bind fun a' => if ns a then upF m (.tolst (.seq a')) else none
theorem trList_ok (hf : Snd ca F f) {a : Expr} (h : trList f C m a = some e') (o : Ok X C ca F W) (hb : bltB C ("list" : Str) = true) : Sem' X ca W F m (.Call (.Name "list" p) [a] [] pos) e' := by
  obtain ⟨g1, g2⟩ := blt_of o hb
  unfold trList at h
  split at h
  · cases ha : f C .look a with
    | none => rw [ha] at h; cases h
    | some a' =>
      rw [ha] at h
      have h : (if ns a then upF m (.lstr a') else none) = some e' := h
      split at h
      · rename_i hc
        exact upF_ok h (f_lstr o.calm (hf.look o _ _ ha) g1 g2 (star1 hc))
      · cases h
  split at h
  · rename_i r hr
    obtain ⟨p2, q2, rfl⟩ := rngArg_ok hr
    cases ha : f C .look r with
    | none => rw [ha] at h; cases h
    | some a' =>
      rw [ha] at h
      have h : (if ns r && bltB C ("range" : Str) then upF m (.tolst (.rng a')) else none) = some e' := h
      split at h
      · rename_i hc
        rw [Bool.and_eq_true] at hc
        obtain ⟨q1, q2⟩ := blt_of o hc.2
        exact upF_ok h (f_lstRg o.calm (hf.look o _ _ ha) g1 g2 q1 q2 (star1 hc.1) (star1 rfl))
      · cases h
  · cases ha : f C .look a with
    | none => rw [ha] at h; cases h
    | some a' =>
      rw [ha] at h
      have h : (if ns a then upF m (.tolst (.seq a')) else none) = some e' := h
      split at h
      · rename_i hc
        exact upF_ok h (f_tolst (hf.look o _ _ ha) g1 g2 (star1 hc))
      · cases h
def trDict (f : TrF) (C : Cfg) (m : Md) (a : Expr) : Option E := (f C .keep a).bind fun a' => if ns a then upF m (.dcopy a') else none
theorem trDict_ok (hf : Snd ca F f) {a : Expr} (h : trDict f C m a = some e') (o : Ok X C ca F W) (hb : bltB C ("dict" : Str) = true) : Sem' X ca W F m (.Call (.Name "dict" p) [a] [] pos) e' := by
  obtain ⟨g1, g2⟩ := blt_of o hb
  unfold trDict at h
  cases ha : f C .keep a with
  | none => rw [ha] at h; cases h
  | some a' =>
    rw [ha] at h
    have h : (if ns a then upF m (.dcopy a') else none) = some e' := h
    split at h
    · rename_i hc
      exact upF_ok h (f_dcopy o.calm (hf.keep o _ _ ha) g1 g2 (star1 hc))
    · cases h
/-! ### defs -/
def trDef (f : TrF) (C : Cfg) (m : Md) (x : Str) (args : List Expr) : Option E := (C.fns.lookup x).bind fun q => (trL (f C .keep) args).bind fun es' => if glB C x && decide (args.length = q.2) then (match args with
  | [] => up m (.call0 q.1)
  | _ => up m (.call q.1 es')) else none
theorem trDef_ok (hf : Snd ca F f) {x : Str} {args : List Expr} (h : trDef f C m x args = some e') (o : Ok X C ca F W) : Sem' X ca W F m (.Call (.Name x p) args [] pos) e' := by
  unfold trDef at h
  cases hq : C.fns.lookup x with
  | none => rw [hq] at h; cases h
  | some q =>
    rw [hq] at h
    obtain ⟨fi, np⟩ := q
    cases hl : trL (f C .keep) args with
    | none => rw [hl] at h; cases h
    | some es' =>
      rw [hl] at h
      have hh : (if glB C x && decide (args.length = np) then (match args with
        | [] => up m (.call0 fi)
        | _ => up m (.call fi es')) else none) = some e' := h
      clear h
      split at hh
      · rename_i hc
        simp only [Bool.and_eq_true, decide_eq_true_eq] at hc
        obtain ⟨g1, g2⟩ := gl_of o hc.1
        obtain ⟨k, g, fd, ps, h1, h2, h3, h4, h5, h6, h7⟩ := (o.fns x fi np hq).ex
        obtain ⟨l1, l2, l3⟩ := trL_ok (hf.keep o) hl
        cases args with
        | nil =>
          have hz : np = 0 := hc.2.symm
          subst hz
          exact up_val hh rfl (e_call0 h5 h6 o.tk g1 h1 h2 h3 g2)
        | cons a es =>
          rw [List.all_cons, Bool.and_eq_true] at l3
          exact up_val hh rfl (e_call h5 h6 o.tk g1 h1 h2 h3 (by rw [l2]; exact hc.2) l1 g2 (star1 l3.1) (starP l3.2))
      · cases hh
/-! ### methods -/
theorem m1_of {o e : Expr} {name : Str} {cpos : Pos} (h1 : noSuper o = true) (h2 : ns e = true) (h3 : (apos.endLine == cpos.line) = true) : M1 X o name apos e cpos where
  base := base_of h1
  few := by
    rw [star1 h2]
    rfl
  line := h3
  trees := by
    rw [star1 h2]
    rfl
theorem m2_of {o e g : Expr} {name : Str} {cpos : Pos} (h1 : noSuper o = true) (h2 : ns e = true) (h4 : ns g = true) (h3 : (apos.endLine == cpos.line) = true) : M2 X o name apos e g cpos where
  base := base_of h1
  few := by
    rw [star1 h2, star1 h4]
    rfl
  line := h3
  trees := by
    rw [star1 h2, star1 h4]
    rfl
def trMeth (f : TrF) (C : Cfg) (m : Md) (o : Expr) (name : Str) (apos : Pos) (args : List Expr) (cpos : Pos) : Option E :=
  if noSuper o && (apos.endLine == cpos.line) then (match args with
    | [a] => if ns a then (if name == ("get" : Str) then (f C .look o).bind fun o' => (f C .look a).bind fun a' => up m (.dget o' a' (.con .non))
        else if name == ("index" : Str) then (f C .look o).bind fun o' => (f C .look a).bind fun a' => up m (.idx o' a')
        else if name == ("join" : Str) then (f C .look o).bind fun o' => (f C .look a).bind fun a' => up m (.join o' a')
        else none) else none
    | [a, b] => if ns a && ns b && name == ("get" : Str) then (f C .look o).bind fun o' => (f C .look a).bind fun a' => (f C .keep b).bind fun b' => up m (.dget o' a' b') else none
    | _ => none) else none
theorem trMeth_ok (hf : Snd ca F f) {o : Expr} {name : Str} {cpos : Pos} {args : List Expr} (h : trMeth f C m o name apos args cpos = some e') (k : Ok X C ca F W) : Sem' X ca W F m (.Call (.Attribute o name apos) args [] cpos) e' := by
  unfold trMeth at h
  split at h
  · rename_i hc
    rw [Bool.and_eq_true] at hc
    split at h
    · rename_i a
      split at h
      · rename_i hn
        split at h
        · rename_i hx
          have ex := eq_of_beq hx
          subst ex
          cases ho : f C .look o with
          | none => rw [ho] at h; cases h
          | some o' =>
            rw [ho] at h
            cases ha : f C .look a with
            | none => rw [ha] at h; cases h
            | some a' =>
              rw [ha] at h
              exact up_val h rfl (e_dget1 k.un (hf.look k _ _ ho) (hf.look k _ _ ha) (m1_of hc.1 hn hc.2))
        · split at h
          · rename_i hx
            have ex := eq_of_beq hx
            subst ex
            cases ho : f C .look o with
            | none => rw [ho] at h; cases h
            | some o' =>
              rw [ho] at h
              cases ha : f C .look a with
              | none => rw [ha] at h; cases h
              | some a' =>
                rw [ha] at h
                exact up_val h rfl (e_idx (hf.look k _ _ ho) (hf.look k _ _ ha) (mok_of hc.1 hn hc.2))
          · split at h
            · rename_i hx
              have ex := eq_of_beq hx
              subst ex
              cases ho : f C .look o with
              | none => rw [ho] at h; cases h
              | some o' =>
                rw [ho] at h
                cases ha : f C .look a with
                | none => rw [ha] at h; cases h
                | some a' =>
                  rw [ha] at h
                  exact up_val h rfl (e_join (hf.look k _ _ ho) (hf.look k _ _ ha) (mok_of hc.1 hn hc.2))
            · cases h
      · cases h
    · rename_i a b
      split at h
      · rename_i hn
        simp only [Bool.and_eq_true] at hn
        have ex := eq_of_beq hn.2
        subst ex
        cases ho : f C .look o with
        | none => rw [ho] at h; cases h
        | some o' =>
          rw [ho] at h
          cases ha : f C .look a with
          | none => rw [ha] at h; cases h
          | some a' =>
            rw [ha] at h
            cases hb : f C .keep b with
            | none => rw [hb] at h; cases h
            | some b' =>
              rw [hb] at h
              exact up_val h rfl (e_dget k.un (hf.look k _ _ ho) (hf.look k _ _ ha) (hf.keep k _ _ hb) (m2_of hc.1 hn.1.1 hn.1.2 hc.2))
      · cases h
    · cases h
  · cases h
/-! ### calls by keywords -/
def trKw (g : Expr → Option E) : List Keyword → Option (List Str × Es)
  | [] => some ([], .nil)
  | ⟨some nm, e, _⟩ :: r => (g e).bind fun a => (trKw g r).bind fun q => some (nm :: q.1, .cons a q.2)
  | _ :: _ => none
theorem trKw_ok {g : Expr → Option E} (hg : ∀ e e', g e = some e' → PE X e (DE X ca W F false e')) : ∀ {kws : List Keyword} {q : List Str × Es}, trKw g kws = some q → PK X kws (DK X ca W F q.2) ∧ q.1.length = q.2.len ∧ (backToKw pos (keywordEach kws X.env)).all (·.1.isSome) = true ∧ (backToKw pos (keywordEach kws X.env)).filterMap (·.1) = q.1 ∧ (backToKw pos (keywordEach kws X.env)).any (·.1.isNone) = false
  | [], q, h => by
    cases h
    exact ⟨k_nil, rfl, rfl, rfl, rfl⟩
  | ⟨none, e, kp⟩ :: r, q, h => by cases h
  | ⟨some nm, e, kp⟩ :: r, q, h => by
    have h : ((g e).bind fun a => (trKw g r).bind fun q => some (nm :: q.1, Es.cons a q.2)) = some q := h
    cases ha : g e with
    | none => rw [ha] at h; cases h
    | some a =>
      rw [ha] at h
      cases hr : trKw g r with
      | none => rw [hr] at h; cases h
      | some q2 =>
        rw [hr] at h
        cases h
        obtain ⟨h1, h2, h3, h4, h5⟩ := trKw_ok hg hr
        refine ⟨k_cons (hg _ _ ha) h1, by show q2.1.length + 1 = q2.2.len + 1; rw [h2], ?_, ?_, ?_⟩
        · show (true && (backToKw pos (keywordEach r X.env)).all (·.1.isSome)) = true
          rw [h3]
          rfl
        · show nm :: (backToKw pos (keywordEach r X.env)).filterMap (·.1) = nm :: q2.1
          rw [h4]
        · show (false || (backToKw pos (keywordEach r X.env)).any (·.1.isNone)) = false
          rw [h5]
          rfl
def trKcall (f : TrF) (C : Cfg) (m : Md) (x : Str) (kws : List Keyword) : Option E := (C.fns.lookup x).bind fun q => (trKw (f C .keep) kws).bind fun r => (C.kws.find? fun y => y.1 == x && y.2.1 == r.1).bind fun y =>
  if glB C x && decide (y.2.2.length = q.2) && y.2.2.all (fun i => decide (i < r.2.len)) then up m (.kcall q.1 y.2.2 r.2) else none
theorem trKcall_ok (hf : Snd ca F f) {x : Str} {kws : List Keyword} (h : trKcall f C m x kws = some e') (o : Ok X C ca F W) : Sem' X ca W F m (.Call (.Name x p) [] kws pos) e' := by
  unfold trKcall at h
  cases hq : C.fns.lookup x with
  | none => rw [hq] at h; cases h
  | some q =>
    rw [hq] at h
    obtain ⟨fi, np⟩ := q
    cases hr : trKw (f C .keep) kws with
    | none => rw [hr] at h; cases h
    | some r =>
      rw [hr] at h
      cases hy : C.kws.find? (fun y => y.1 == x && y.2.1 == r.1) with
      | none => simp only [Option.bind] at h; rw [hy] at h; cases h
      | some y =>
        simp only [Option.bind] at h
        rw [hy] at h
        dsimp only at h
        split at h
        · rename_i hc
          simp only [Bool.and_eq_true, decide_eq_true_eq, List.all_eq_true] at hc
          obtain ⟨⟨hg, hp⟩, hall⟩ := hc
          obtain ⟨g1, g2⟩ := gl_of o hg
          obtain ⟨k, g, fd, ps, h1, h2, h3, h4, h5, h6, h7⟩ := (o.fns x fi np hq).ex
          have hm := List.mem_of_find?_eq_some hy
          have hs := List.find?_some hy
          simp only [Bool.and_eq_true, beq_iff_eq] at hs
          obtain ⟨y1, y2, y3⟩ := y
          obtain ⟨e1, e2⟩ := hs
          dsimp only at e1 e2 hm hp hall h
          subst e1
          obtain ⟨k1, k2, k3, k4, k5⟩ := trKw_ok (pos := pos) (hf.keep o) hr
          refine up_val h rfl (e_kcall h5 h6 o.tk g1 h1 h2 (h7 _ _ hm) h4 hp (by rw [e2]; exact k2) hall k1 k3 (by rw [e2]; exact k4) g2 ?_)
          rw [k5]
          rfl
        · cases h
/-! ### all together -/
def trSrt (f : TrF) (C : Cfg) (m : Md) (a : Expr) : Option E := (f C .look a).bind fun a' => if ns a then upF m (.bi .srt (.cons a' .nil)) else none
theorem trSrt_ok (hf : Snd ca F f) {a : Expr} (h : trSrt f C m a = some e') (o : Ok X C ca F W) (hb : bltB C ("sorted" : Str) = true) : Sem' X ca W F m (.Call (.Name "sorted" p) [a] [] pos) e' := by
  obtain ⟨g1, g2⟩ := blt_of o hb
  unfold trSrt at h
  cases ha : f C .look a with
  | none => rw [ha] at h; cases h
  | some a' =>
    rw [ha] at h
    have h : (if ns a then upF m (.bi .srt (.cons a' .nil)) else none) = some e' := h
    split at h
    · rename_i hc
      exact upF_ok h (f_srt o.un (hf.look o _ _ ha) g1 g2 (star1 hc))
    · cases h
def trCall0 (f : TrF) (C : Cfg) (m : Md) (fn : Expr) (args : List Expr) (kws : List Keyword) (pos : Pos) : Option E := match fn, kws with
  | .Name x _, [] =>
    if x == ("isinstance" : Str) && bltB C ("isinstance" : Str) then (match args with | [a, b] => trIsi f C m a b | _ => none)
    else if x == ("tuple" : Str) && bltB C ("tuple" : Str) then (match args with | [a] => trTuple f C m a | _ => none)
    else if x == ("list" : Str) && bltB C ("list" : Str) then (match args with | [a] => trList f C m a | _ => none)
    else if x == ("dict" : Str) && bltB C ("dict" : Str) then (match args with | [a] => trDict f C m a | _ => none)
    else if x == ("sorted" : Str) && bltB C ("sorted" : Str) then (match args with | [a] => trSrt f C m a | _ => none)
    else match biOf x args.length with
      | some b => if bltB C x then (match args with | a :: es => (trL (f C .look) (a :: es)).bind fun es' => up m (.bi b es') | [] => none) else none
      | none => trDef f C m x args
  | .Name x _, kws => (match args with | [] => trKcall f C m x kws | _ => none)
  | .Attribute o name apos, [] => trMeth f C m o name apos args pos
  | _, _ => none
theorem trCall0_ok (hf : Snd ca F f) {fn : Expr} {args : List Expr} {kws : List Keyword} (h : trCall0 f C m fn args kws pos = some e') (o : Ok X C ca F W) : Sem' X ca W F m (.Call fn args kws pos) e' := by
  unfold trCall0 at h
  split at h
  · rename_i x p
    split at h
    · rename_i hx
      rw [Bool.and_eq_true] at hx
      have ex := eq_of_beq hx.1
      subst ex
      split at h
      · exact trIsi_ok hf h o hx.2
      · cases h
    split at h
    · rename_i hx
      rw [Bool.and_eq_true] at hx
      have ex := eq_of_beq hx.1
      subst ex
      split at h
      · exact trTuple_ok hf h o hx.2
      · cases h
    split at h
    · rename_i hx
      rw [Bool.and_eq_true] at hx
      have ex := eq_of_beq hx.1
      subst ex
      split at h
      · exact trList_ok hf h o hx.2
      · cases h
    split at h
    · rename_i hx
      rw [Bool.and_eq_true] at hx
      have ex := eq_of_beq hx.1
      subst ex
      split at h
      · exact trDict_ok hf h o hx.2
      · cases h
    split at h
    · rename_i hx
      rw [Bool.and_eq_true] at hx
      have ex := eq_of_beq hx.1
      subst ex
      split at h
      · exact trSrt_ok hf h o hx.2
      · cases h
    split at h
    · rename_i b hb
      split at h
      · rename_i hbl
        split at h
        · rename_i a es
          cases hl : trL (f C .look) (a :: es) with
          | none => rw [hl] at h; cases h
          | some es' =>
            rw [hl] at h
            obtain ⟨l1, l2, l3⟩ := trL_ok (hf.look o) hl
            exact up_val h rfl (biOf_ok hb o hbl l1 l3)
        · cases h
      · cases h
    · exact trDef_ok hf h o
  · split at h
    · exact trKcall_ok hf h o
    · cases h
  · exact trMeth_ok hf h o
  · cases h
/-! ### len(set(..)) -/
def lenSetOf : Expr → List Expr → List Keyword → Option Expr
  | .Name x _, [.Call (.Name y _) [a] [] _], [] => if x == ("len" : Str) && y == ("set" : Str) then some a else none
  | _, _, _ => none
theorem lenSetOf_ok {fn : Expr} {args : List Expr} {kws : List Keyword} {a : Expr} (h : lenSetOf fn args kws = some a) : ∃ p p2 q, fn = .Name "len" p ∧ args = [.Call (.Name "set" p2) [a] [] q] ∧ kws = [] := by
  unfold lenSetOf at h
  split at h
  · split at h
    · rename_i hx
      rw [Bool.and_eq_true] at hx
      have e1 := eq_of_beq hx.1
      have e2 := eq_of_beq hx.2
      subst e1 e2
      cases h
      exact ⟨_, _, _, rfl, rfl, rfl⟩
    · cases h
  · cases h
/-- sorted(set(..)) -/
def srtSetOf : Expr → List Expr → List Keyword → Option Expr
  | .Name x _, [.Call (.Name y _) [a] [] _], [] => if x == ("sorted" : Str) && y == ("set" : Str) then some a else none
  | _, _, _ => none
theorem srtSetOf_ok {fn : Expr} {args : List Expr} {kws : List Keyword} {a : Expr} (h : srtSetOf fn args kws = some a) : ∃ p p2 q, fn = .Name "sorted" p ∧ args = [.Call (.Name "set" p2) [a] [] q] ∧ kws = [] := by
  unfold srtSetOf at h
  split at h
  · split at h
    · rename_i hx
      rw [Bool.and_eq_true] at hx
      have e1 := eq_of_beq hx.1
      have e2 := eq_of_beq hx.2
      subst e1 e2
      cases h
      exact ⟨_, _, _, rfl, rfl, rfl⟩
    · cases h
  · cases h
def trSrtSet (f : TrF) (C : Cfg) (m : Md) (a : Expr) : Option E := (f C .look a).bind fun a' => if ns a && bltB C ("sorted" : Str) && bltB C ("set" : Str) then upF m (.bi .srtset (.cons a' .nil)) else none
theorem trSrtSet_ok (hf : Snd ca F f) {a : Expr} {p2 q : Pos} (h : trSrtSet f C m a = some e') (o : Ok X C ca F W) : Sem' X ca W F m (.Call (.Name "sorted" p) [.Call (.Name "set" p2) [a] [] q] [] pos) e' := by
  unfold trSrtSet at h
  cases ha : f C .look a with
  | none => rw [ha] at h; cases h
  | some a' =>
    rw [ha] at h
    have h : (if ns a && bltB C ("sorted" : Str) && bltB C ("set" : Str) then upF m (.bi .srtset (.cons a' .nil)) else none) = some e' := h
    split at h
    · rename_i hc
      simp only [Bool.and_eq_true] at hc
      obtain ⟨g1, g2⟩ := blt_of o hc.1.2
      obtain ⟨g3, g4⟩ := blt_of o hc.2
      exact upF_ok h (f_srtset o.calm o.un g1 g2 g3 g4 (hf.look o _ _ ha) (star1 hc.1.1))
    · cases h
def reprOf : Expr → List Expr → List Keyword → Option Expr
  | .Name x _, [a], [] => if x == ("repr" : Str) then some a else none
  | _, _, _ => none
theorem reprOf_ok {fn : Expr} {args : List Expr} {kws : List Keyword} {a : Expr} (h : reprOf fn args kws = some a) : ∃ p, fn = .Name "repr" p ∧ args = [a] ∧ kws = [] := by
  unfold reprOf at h
  split at h
  · split at h
    · rename_i hx
      have e1 := eq_of_beq hx
      subst e1
      cases h
      exact ⟨_, rfl, rfl, rfl⟩
    · cases h
  · cases h
def trRepr (f : TrF) (C : Cfg) (m : Md) (a : Expr) : Option E := (f C .look a).bind fun a' => if C.rp && ns a && bltB C ("repr" : Str) then up m (.bi .repr (.cons a' .nil)) else none
theorem trRepr_ok (hf : Snd ca F f) {a : Expr} (h : trRepr f C m a = some e') (o : Ok X C ca F W) : Sem' X ca W F m (.Call (.Name "repr" p) [a] [] pos) e' := by
  unfold trRepr at h
  cases ha : f C .look a with
  | none => rw [ha] at h; cases h
  | some a' =>
    rw [ha] at h
    have h : (if C.rp && ns a && bltB C ("repr" : Str) then up m (.bi .repr (.cons a' .nil)) else none) = some e' := h
    split at h
    · rename_i hc
      simp only [Bool.and_eq_true] at hc
      obtain ⟨g1, g2⟩ := blt_of o hc.2
      exact up_val h rfl (e_bi (bi_repr (o.gd hc.1.1) o.un) g1 g2 (by decide +kernel) (a_cons (hf.look o _ _ ha) a_nil (star1 hc.1.2)) (by decide) (by decide) (star1 hc.1.2) rfl)
    · cases h
def trCall (f : TrF) (C : Cfg) (m : Md) (fn : Expr) (args : List Expr) (kws : List Keyword) (pos : Pos) : Option E := match lenSetOf fn args kws with
  | some a => (f C .look a).bind fun a' => if ns a && bltB C ("len" : Str) && bltB C ("set" : Str) then up m (.bi .lenset (.cons a' .nil)) else none
  | none => match reprOf fn args kws with
    | some a => trRepr f C m a
    | none => match srtSetOf fn args kws with
      | some a => trSrtSet f C m a
      | none => trCall0 f C m fn args kws pos
theorem trCall_ok (hf : Snd ca F f) {fn : Expr} {args : List Expr} {kws : List Keyword} (h : trCall f C m fn args kws pos = some e') (o : Ok X C ca F W) : Sem' X ca W F m (.Call fn args kws pos) e' := by
  unfold trCall at h
  split at h
  · rename_i a hl
    obtain ⟨p, p2, q, rfl, rfl, rfl⟩ := lenSetOf_ok hl
    cases ha : f C .look a with
    | none => rw [ha] at h; cases h
    | some a' =>
      rw [ha] at h
      have h : (if ns a && bltB C ("len" : Str) && bltB C ("set" : Str) then up m (.bi .lenset (.cons a' .nil)) else none) = some e' := h
      split at h
      · rename_i hc
        simp only [Bool.and_eq_true] at hc
        obtain ⟨g1, g2⟩ := blt_of o hc.1.2
        obtain ⟨g3, g4⟩ := blt_of o hc.2
        exact up_val h rfl (e_lenset o.calm g1 g2 g3 g4 (hf.look o _ _ ha) (star1 hc.1.1))
      · cases h
  · split at h
    · rename_i a hr
      obtain ⟨p, rfl, rfl, rfl⟩ := reprOf_ok hr
      exact trRepr_ok hf h o
    · split at h
      · rename_i a hr
        obtain ⟨p, p2, q, rfl, rfl, rfl⟩ := srtSetOf_ok hr
        exact trSrtSet_ok hf h o
      · exact trCall0_ok hf h o
def tr : Nat → TrF
  | 0 => fun _ _ _ => none
  | n + 1 => fun C m e => match e with
    | .Name x _ => trName C m x
    | .Constant c _ _ => (trCon c).bind fun d => up m (.con d)
    | .Tuple es _ _ => trTup (tr n) C m es
    | .List es _ => trLst (tr n) C m es
    | .BinOp a op b _ => trBin (tr n) C m a op b
    | .UnaryOp op a _ => trUn (tr n) C m op a
    | .Compare a [op] [b] _ => trCmp (tr n) C m a op b
    | .Compare a [o1, o2] [b, c] _ => trChain (tr n) C m a o1 o2 b c
    | .BoolOp op es _ => trBoolM (tr n) C m op es
    | .IfExp c a b _ => trIf (tr n) C m c a b
    | .Subscript a s _ => trSub (tr n) C m a s
    | .Call fn args kws pos => trCall (tr n) C m fn args kws pos
    | .ListComp elt gens scope _ => trComp (tr n) C m elt gens scope
    | .DictComp k v gens scope _ => trDComp (tr n) C m k v gens scope
    | .Dict [] [] _ => upF m .dnew
    | _ => none
theorem tr_ok : ∀ n, Snd ca F (tr n)
  | 0 => fun C m e e' h => by cases h
  | n + 1 => fun C m e e' h X W o => by
    have ih := tr_ok n
    unfold tr at h
    split at h
    · exact trName_ok h o
    · rename_i c k p
      cases hc : trCon c with
      | none => rw [hc] at h; cases h
      | some d => rw [hc] at h; exact up_val h rfl (trCon_ok hc)
    · exact trTup_ok ih h o
    · exact trLst_ok ih h o
    · exact trBin_ok ih h o
    · exact trUn_ok ih h o
    · exact trCmp_ok ih h o
    · exact trChain_ok ih h o
    · exact trBoolM_ok ih h o
    · exact trIf_ok ih h o
    · exact trSub_ok ih h o
    · exact trCall_ok ih h o
    · exact trComp_ok ih h o
    · exact trDComp_ok ih h o
    · exact upF_ok h f_dnew
    · cases h
end
end Ev

set_option Elab.async false
set_option linter.all false
set_option maxRecDepth 100000
set_option maxHeartbeats 2000000
/-! From the program's text to the core: statements. -/
namespace Ev
open PySem PySem.Spec PyProof.Rows L2
mutual
/-- the slots that are taken to be kept -/
def E.tk : E → List Nat
  | .take i => [i]
  | .tup es => es.tk
  | .lst es => es.tk
  | .bin _ a b => a.tk ++ b.tk
  | .cat a b => a.tk ++ b.tk
  | .neg a => a.tk
  | .repl es k => es.tk ++ k.tk
  | .cmp _ a b => a.tk ++ b.tk
  | .isn a _ => a.tk
  | .chain _ _ a b c => a.tk ++ b.tk ++ c.tk
  | .and a b => a.tk ++ b.tk
  | .or a b => a.tk ++ b.tk
  | .not a => a.tk
  | .ite c a b => c.tk ++ a.tk ++ b.tk
  | .ix a b => a.tk ++ b.tk
  | .sl a l h => a.tk ++ l.tk ++ h.tk
  | .rev a => a.tk
  | .call _ es => es.tk
  | .bi _ es => es.tk
  | .isi a _ => a.tk
  | .tolst i => i.tk
  | .totup i => i.tk
  | .comp e _ _ i c _ => e.tk ++ i.tk ++ c.tk
  | .newc a => a.tk
  | .dcopy a => a.tk
  | .dcomp k v _ _ i c _ => k.tk ++ v.tk ++ i.tk ++ c.tk
  | .dget a k d => a.tk ++ k.tk ++ d.tk
  | .isb a _ _ => a.tk
  | .idx a x => a.tk ++ x.tk
  | .join a b => a.tk ++ b.tk
  | .kcall _ _ es => es.tk
  | .lstr a => a.tk
  | _ => []
def Es.tk : Es → List Nat
  | .nil => []
  | .cons e es => e.tk ++ es.tk
def Oe.tk : Oe → List Nat
  | .no => []
  | .yes e => e.tk
def Src.tk : Src → List Nat
  | .seq e => e.tk
  | .rng e => e.tk
  | .rng2 a b => a.tk ++ b.tk
  | .enum e => e.tk
  | .zip a b => a.tk ++ b.tk
end
structure Sfg where
  ow : List Nat := []
  cel : List Nat := []
  rc : Bool := false
def fzS (S : Sfg) (is : List Nat) (s : Sm) : Sm := match is.filter (fun i => S.ow.contains i) with
  | [] => s
  | js => .fz js s
section
variable {X : Cx} {C : Cfg} {S : Sfg} {ca : Nat → Value} {B : Bse} {W : WX} {F : Fns} {Wn : Nat} {st : Stmt} {e : Expr} {e' : E} {f : TrF} {p pos spos apos cpos : Pos} {s s' : Sm}
theorem fzS_ok {is : List Nat} (hT : ∀ i, B.T i = true) (h : PS X st (DSt X ca B W F Wn s)) : PS X st (DSt X ca B W F Wn (fzS S is s)) := by
  unfold fzS
  split
  · exact h
  · exact s_fz (fun i _ => hT i) h
/-- readings of a new list that gets a name: kept; a cell -/
theorem asg_read {m : Envi → M D} {E : Ends} {σ : L2.St} {H : Hp} {i : Nat} (ht : B.T i = true) (q : DS X.K ca B W (fun env => M.bnd (m env) fun d => M.ret (.nx (env.set i (.val d)))) E σ H) : DF X.K ca W m σ H fun x H1 => gName i x σ H1 E.nx := by
  obtain ⟨env, S, G, ρ, rl, q⟩ := q
  refine ⟨env, S, G, ρ, rl.toRl, ?_⟩
  rcases AftS.split q with ⟨d, S1, e1, q⟩ | ⟨y, S1, e1, q⟩
  · rw [e1]
    rintro v H1 G1 ρ1 x hd ⟨a, rfl, h0, g0, n0, s⟩
    obtain ⟨o, ho, f⟩ := s.obj
    obtain ⟨hd', g'⟩ := hd.still ho g0 n0
    have x' : Ext H G ρ H1 (upd G1 a o) ρ1 := ⟨fun b u e => g' b u (x.g b u e), x.p, x.h, fun b u e => by
      by_cases z : b = a
      · subst z
        exact .inr h0
      · rw [upd_ne z] at e
        exact x.gn b u e, x.pn, x.d⟩
    exact q _ H1 _ ρ1 ((rl.ext x' hd').set ht (f _ upd_same g')) x'.lat
  · rw [e1]
    exact fun H1 G1 ρ1 x hd cls dx xr => q env σ H1 G1 ρ1 (rl.ext x hd) x.lat cls dx xr
theorem cel_read {m : Envi → M D} {E : Ends} {σ : L2.St} {H : Hp} {i : Nat} (ht : B.T i = true) (q : DS X.K ca B W (fun env => M.bnd (M.bnd (m env) fun x => match x with
    | D.lst ds => fun s => .ok (.cell s.length) (s ++ [.lst ds])
    | _ => M.bad) fun d => M.ret (.nx (env.set i (.val d)))) E σ H) : DF X.K ca W m σ H fun x H1 => gName i x σ H1 E.nx := by
  obtain ⟨env, S, G, ρ, rl, q⟩ := q
  refine ⟨env, S, G, ρ, rl.toRl, ?_⟩
  have q : AftS X.K ca B W E G ρ (M.bnd (m env) (fun x => M.bnd (match x with
    | D.lst ds => fun s => .ok (.cell s.length) (s ++ [.lst ds])
    | _ => M.bad : M D) fun d => M.ret (.nx (env.set i (.val d)))) S) := by
    have e : M.bnd (m env) (fun x => M.bnd (match x with
      | D.lst ds => fun s => .ok (D.cell s.length) (s ++ [.lst ds])
      | _ => M.bad : M D) fun d => M.ret (Fl.nx (env.set i (.val d)))) S = M.bnd (M.bnd (m env) fun x => (match x with
      | D.lst ds => fun s => .ok (D.cell s.length) (s ++ [.lst ds])
      | _ => M.bad : M D)) (fun d => M.ret (Fl.nx (env.set i (.val d)))) S := by
      unfold M.bnd
      cases m env S <;> rfl
    rw [e]
    exact q
  rcases AftS.split q with ⟨d, S1, e1, q⟩ | ⟨y, S1, e1, q⟩
  · rw [e1]
    rintro v H1 G1 ρ1 x hd ⟨a, rfl, h0, o⟩
    cases d with
    | lst ds =>
      obtain ⟨hd', x', r'⟩ := hd.cell x h0 o
      exact q _ H1 _ _ ((rl.ext x' hd').set ht r') x'.lat
    | _ => exact q.elim
  · rw [e1]
    exact fun H1 G1 ρ1 x hd cls dx xr => q env σ H1 G1 ρ1 (rl.ext x hd) x.lat cls dx xr
/-- how a new list is kept -/
inductive Kp where
  | val | own | cel
def Kp.sm (k : Kp) (i : Nat) (e : E) : Sm := match k with
  | .val => .asg i e
  | .own => .own i e
  | .cel => .asg i (.newc e)
theorem kp_read {k : Kp} {i : Nat} {e : E} {Ed : Ends} {σ : L2.St} {H : Hp} (ht : B.T i = true) (q : DSt X ca B W F Wn (k.sm i e) Ed σ H) : DF X.K ca W (ev F e) σ H fun x H1 => gName i x σ H1 Ed.nx := by
  cases k with
  | val => exact asg_read (m := ev F e) ht q
  | own => exact own_read (m := ev F e) ht q
  | cel => exact cel_read (m := ev F e) ht q
theorem s_fresh {k : Kp} {i : Nat} {y : Str} (ht : B.T i = true) (hN : X.N.Nodup) (hi : X.N[i]? = some y) (hx : Loc X.env.scope y) (hf : X.fn y = true ∨ X.env.scope.names.lookup y = some .local) (he : PE X e (DF X.K ca W (ev F e'))) (hs : swapsWith e (some (.Name y p)) spos.line X.env = pure false) :
    PS X (.Assign [.Name y p] e spos) (DSt X ca B W F Wn (k.sm i e')) :=
  PS.imp (ps_set hN hi hx he hs hf) fun E σ H q => kp_read ht q
/-- y = [..] that swaps -/
theorem s_freshLc {k : Kp} {i : Nat} {y : Str} {elt tg iter : Expr} {ifs : List Expr} {scope : Scope} {e : E} {cp : Cp} (ht : B.T i = true) (o : Ok X C ca F W) (hi : X.N[i]? = some y) (hyl : X.env.scope.names.lookup y = some .local) (ck : CpOk X ca W F C tg iter ifs scope cp)
    (he : ∀ (s : Shared) (H : Hp) (Ca : Addr) (cl : List (Str × Addr)) (fp : List Addr), PE (X.blk s H scope (compEnvC scope cl Ca X.env) fp) elt (DE (X.blk s H scope (compEnvC scope cl Ca X.env) fp) ca WF F false e))
    (hsw : swapsWith (.ListComp elt [⟨tg, iter, ifs, 0⟩] scope pos) (some (.Name y p)) spos.line X.env = pure true) :
    PS X (.Assign [.Name y p] (.ListComp elt [⟨tg, iter, ifs, 0⟩] scope pos) spos) (DSt X ca B W F Wn (k.sm i (.comp e cp.t cp.u cp.i cp.c cp.own))) := by
  have hN : X.N.Nodup := by rw [o.N]; exact o.nd
  refine PS.imp (ps_setLc (te := DN X.K ca WF (RE X.K false) (ev F e)) o.calm hN hi hyl hsw ck.hi ck.ok ck.hg ck.hts he ck.hs) fun E σ H q => ?_
  have q2 := kp_read (k := k) (i := i) (e := .comp e cp.t cp.u cp.i cp.c cp.own) ht q
  rw [ck.own] at q2
  exact lc_read ck.ht q2
/-! ### name = value -/
def swapB (C : Cfg) (y : Str) (p : Pos) (vpos : Pos) (scope : Scope) : Bool := (C.sc.kind == .function) && (C.sc.names.lookup y == some .local) && (p.line == vpos.line) && !(scope.names.any fun (n, k) => n == y && (k == .local || k == .cell))
theorem swap_is (o : Ok X C ca F W) (hk : C.sc.kind = .function) {y : Str} {elt : Expr} {gs : List Comprehension} {scope : Scope} {l : Nat} : swapsWith (.ListComp elt gs scope pos) (some (.Name y p)) l X.env = pure (swapB C y p pos scope) := by
  have hb : X.env.blockKind = .function := by
    unfold Env.blockKind
    rw [o.sc, hk]
    rfl
  have ky : X.env.kindOf y = C.sc.names.lookup y := by
    unfold Env.kindOf
    rw [o.sc]
  unfold swapsWith swapB
  simp only [hb, ky, hk, Expr.pos]
def kpOf (S : Sfg) (i : Nat) : Kp := if S.cel.contains i then .cel else if S.ow.contains i then .own else .val
theorem bsome {α β : Type} {a : α} {g : α → Option β} : (some a).bind g = g a := rfl
def trSet (f : TrF) (S : Sfg) (C : Cfg) (y : Str) (p : Pos) (v : Expr) : Option Sm := (slotT C y).bind fun i => match v with
  | .ListComp elt gens scope pos => if swapB C y p pos scope then
      (if C.sc.names.lookup y == some .local then (trClause f C gens scope).bind fun cp => (f (C.blk scope) .keep elt).bind fun e => some (fzS S ((E.comp e cp.t cp.u cp.i cp.c cp.own).tk) ((kpOf S i).sm i (.comp e cp.t cp.u cp.i cp.c cp.own))) else none)
      else (f C .fresh v).bind fun e => some (fzS S e.tk ((kpOf S i).sm i e))
  | v => if noComp v then (match kpOf S i with
      | .val => (f C .keep v).bind fun e => some (fzS S e.tk (.asg i e))
      | k => match f C .fresh v with
        | some e => some (fzS S e.tk (k.sm i e))
        | none => (f C .keep v).bind fun e => some (fzS S e.tk (.asg i e))) else none
theorem trSet_ok (hf : Snd ca F f) {y : Str} {v : Expr} (hT : ∀ i, B.T i = true) (hk : C.sc.kind = .function) (h : trSet f S C y p v = some s) (o : Ok X C ca F W) : PS X (.Assign [.Name y p] v spos) (DSt X ca B W F Wn s) := by
  have hN : X.N.Nodup := by rw [o.N]; exact o.nd
  unfold trSet at h
  cases hi : slotT C y with
  | none => rw [hi] at h; cases h
  | some i =>
    rw [hi] at h
    obtain ⟨h1, h2, h3⟩ := slotT_ok hi o
    have gen : noComp v = true → (match kpOf S i with
      | .val => (f C .keep v).bind fun e => some (fzS S e.tk (.asg i e))
      | k => match f C .fresh v with
        | some e => some (fzS S e.tk (k.sm i e))
        | none => (f C .keep v).bind fun e => some (fzS S e.tk (.asg i e))) = some s → PS X (.Assign [.Name y p] v spos) (DSt X ca B W F Wn s) := fun hn h => by
      have keep : (f C .keep v).bind (fun e => some (fzS S e.tk (.asg i e))) = some s → PS X (.Assign [.Name y p] v spos) (DSt X ca B W F Wn s) := fun h => by
        cases hv : f C .keep v with
        | none => rw [hv] at h; cases h
        | some e =>
          rw [hv] at h
          cases h
          exact fzS_ok hT (s_asg (hT i) hN h1 h2 h3 (hf.keep o _ _ hv) (swaps_no hn))
      have fr : ∀ k : Kp, (match f C .fresh v with
        | some e => some (fzS S e.tk (k.sm i e))
        | none => (f C .keep v).bind fun e => some (fzS S e.tk (.asg i e))) = some s → PS X (.Assign [.Name y p] v spos) (DSt X ca B W F Wn s) := fun k h => by
        cases hv : f C .fresh v with
        | none =>
          rw [hv] at h
          exact keep h
        | some e =>
          rw [hv] at h
          cases h
          exact fzS_ok hT (s_fresh (hT i) hN h1 h2 h3 (hf.fresh o _ _ hv) (swaps_no hn))
      cases hk2 : kpOf S i with
      | val => rw [hk2] at h; exact keep h
      | own => rw [hk2] at h; exact fr .own h
      | cel => rw [hk2] at h; exact fr .cel h
    rw [bsome] at h
    split at h
    · rename_i elt gens scope pos2
      split at h
      · rename_i hsw
        split at h
        · rename_i hl
          have hl := eq_of_beq hl
          cases h4 : trClause f C gens scope with
          | none => rw [h4] at h; cases h
          | some cp =>
            rw [h4] at h
            cases h5 : f (C.blk scope) .keep elt with
            | none => rw [h5] at h; cases h
            | some e =>
              rw [h5] at h
              cases h
              obtain ⟨tg, iter, ifs, rfl, ck⟩ := trClause_ok hf h4 o
              refine fzS_ok hT (s_freshLc (hT i) o h1 (by rw [o.sc]; exact hl) ck (fun s H Ca cl fp => hf.keep (o.blk scope s H Ca cl fp) _ _ h5) ?_)
              rw [swap_is o hk, hsw]
        · cases h
      · rename_i hsw
        cases hv : f C .fresh (.ListComp elt gens scope pos2) with
        | none => rw [hv] at h; cases h
        | some e =>
          rw [hv] at h
          cases h
          refine fzS_ok hT (s_fresh (hT i) hN h1 h2 h3 (hf.fresh o _ _ hv) ?_)
          rw [swap_is o hk]
          simp only [Bool.not_eq_true] at hsw
          rw [hsw]
    · split at h
      · rename_i hn
        exact gen hn h
      · cases h
end
end Ev

set_option Elab.async false
set_option linter.all false
set_option maxRecDepth 100000
set_option maxHeartbeats 2000000
/-! From the program's text to the core: all statements. -/
namespace Ev
open PySem PySem.Spec PyProof.Rows L2
section
variable {X : Cx} {C : Cfg} {S : Sfg} {ca : Nat → Value} {B : Bse} {W : WX} {F : Fns} {Wn : Nat} {st : Stmt} {e : Expr} {e' : E} {f : TrF} {p pos spos apos cpos : Pos} {s s' : Sm}
/-! ### x[k] = v -/
def noTup : Expr → Bool
  | .Tuple .. => false
  | _ => true
theorem assignSub {y : Str} {p p2 : Pos} {c : Expr} {env : Env} (h : noSlice c = true) : ∀ v, assign (.Subscript (.Name y p) c p2) env v = (do
      let ov ← holding [v] (eval (.Name y p) env)
      let iv ← holding [v, ov] (eval c env)
      standAt p2
      holding [v, ov, iv] (setItem ov iv v)
      release [v, ov, iv] []) := fun v => by
  cases c <;> first | rfl | cases h
/-! ### a, b = x, y -/
def trPar (f : TrF) (S : Sfg) (C : Cfg) : List Nat → List Expr → Option (List Bool × Es)
  | [], [] => some ([], .nil)
  | i :: is, e :: es => if ns e then (match kpOf S i with
      | .val => (f C .keep e).bind fun a => (trPar f S C is es).bind fun r => some (false :: r.1, .cons a r.2)
      | .own => match f C .fresh e with
        | some a => (trPar f S C is es).bind fun r => some (true :: r.1, .cons a r.2)
        | none => (f C .keep e).bind fun a => (trPar f S C is es).bind fun r => some (false :: r.1, .cons a r.2)
      | .cel => match f C .fresh e with
        | some a => (trPar f S C is es).bind fun r => some (false :: r.1, .cons (.newc a) r.2)
        | none => (f C .keep e).bind fun a => (trPar f S C is es).bind fun r => some (false :: r.1, .cons a r.2)) else none
  | _, _ => none
theorem trPar_ok (hf : Snd ca F f) (o : Ok X C ca F W) : ∀ {is : List Nat} {es : List Expr} {r : List Bool × Es}, trPar f S C is es = some r → PA X es (DPs X ca W F r.1 r.2) ∧ r.1.length = is.length ∧ es.length = is.length
  | [], [], r, h => by
    cases h
    exact ⟨p_nil, rfl, rfl⟩
  | [], _ :: _, r, h => by cases h
  | _ :: _, [], r, h => by cases h
  | i :: is, e :: es, r, h => by
    unfold trPar at h
    split at h
    · rename_i hn
      have keep : ((f C .keep e).bind fun a => (trPar f S C is es).bind fun r => some (false :: r.1, Es.cons a r.2)) = some r → PA X (e :: es) (DPs X ca W F r.1 r.2) ∧ r.1.length = (i :: is).length ∧ (e :: es).length = (i :: is).length := fun h => by
        cases ha : f C .keep e with
        | none => rw [ha] at h; cases h
        | some a =>
          rw [ha, bsome] at h
          cases hr : trPar f S C is es with
          | none => rw [hr] at h; cases h
          | some r2 =>
            rw [hr] at h
            cases h
            obtain ⟨h1, h2, h3⟩ := trPar_ok hf o hr
            exact ⟨p_val (hf.keep o _ _ ha) h1 (star1 hn), by rw [List.length_cons, List.length_cons, h2], by rw [List.length_cons, List.length_cons, h3]⟩
      split at h
      · exact keep h
      · split at h
        · rename_i a ha
          cases hr : trPar f S C is es with
          | none => rw [hr] at h; cases h
          | some r2 =>
            rw [hr] at h
            cases h
            obtain ⟨h1, h2, h3⟩ := trPar_ok hf o hr
            exact ⟨p_own (hf.fresh o _ _ ha) h1 (star1 hn), by rw [List.length_cons, List.length_cons, h2], by rw [List.length_cons, List.length_cons, h3]⟩
        · exact keep h
      · split at h
        · rename_i a ha
          cases hr : trPar f S C is es with
          | none => rw [hr] at h; cases h
          | some r2 =>
            rw [hr] at h
            cases h
            obtain ⟨h1, h2, h3⟩ := trPar_ok hf o hr
            exact ⟨p_val (DE.up (e_newc (hf.fresh o _ _ ha))) h1 (star1 hn), by rw [List.length_cons, List.length_cons, h2], by rw [List.length_cons, List.length_cons, h3]⟩
        · exact keep h
    · cases h
/-- the names that the interpreter would store from the right -/
def plainNames (C : Cfg) (line : Nat) (ts : List Expr) : List Str := ts.filterMap fun
    | .Name id pos => if C.sc.names.lookup id == some .local && pos.line == line then some id else none
    | _ => none
def starr (vs : List Expr) : Bool := vs.any fun | .Starred .. => true | _ => false
/-- whether they are swapped: none: not known -/
def swp (C : Cfg) (ts vs : List Expr) : Option (Option (List Str)) :=
  if !(ts.length == 2 || ts.length == 3) || vs.length != ts.length || C.sc.kind != .function then some none
  else if starr vs then some none
  else if (plainNames C ((ts.head?.map (·.pos.line)).getD 0) ts).length != ts.length || (plainNames C ((ts.head?.map (·.pos.line)).getD 0) ts).eraseDups.length != (plainNames C ((ts.head?.map (·.pos.line)).getD 0) ts).length then some none
  else if vs.all (foldedForSure 8) then some none
  else if vs.all (constantsAlone 8) then none
  else some (some (plainNames C ((ts.head?.map (·.pos.line)).getD 0) ts))
theorem swp_ok (o : Ok X C ca F W) (hk : C.sc.kind = .function) {ts vs : List Expr} {kt k2 : Nat} {pt pt2 : Pos} {r : Option (List Str)} (h : swp C ts vs = some r) : swappedStores [.Tuple ts kt pt] (.Tuple vs k2 pt2) X.env = pure r := by
  have hb : X.env.blockKind = C.sc.kind := by
    unfold Env.blockKind
    rw [o.sc, hk]
    rfl
  have kk : ∀ id, X.env.kindOf id = C.sc.names.lookup id := fun id => by
    unfold Env.kindOf
    rw [o.sc]
  have en : (ts.filterMap fun
    | .Name id pos => if X.env.kindOf id == some .local && pos.line == (ts.head?.map (·.pos.line)).getD 0 then some id else none
    | _ => none) = plainNames C ((ts.head?.map (·.pos.line)).getD 0) ts := by
    unfold plainNames
    simp only [kk]
  unfold swp at h
  unfold swappedStores
  dsimp only
  rw [hb]
  simp only [kk]
  split at h
  · rename_i c1
    cases h
    exact (if_pos (by exact c1)).trans rfl
  rename_i c1
  refine (if_neg (by exact c1)).trans ?_
  split at h
  · rename_i c2
    cases h
    exact (if_pos (by exact c2)).trans rfl
  rename_i c2
  refine (if_neg (by exact c2)).trans ?_
  split at h
  · rename_i c3
    cases h
    exact (if_pos (by exact c3)).trans rfl
  rename_i c3
  refine (if_neg (by exact c3)).trans ?_
  split at h
  · rename_i c4
    cases h
    exact (if_pos (by exact c4)).trans rfl
  rename_i c4
  refine (if_neg (by exact c4)).trans ?_
  split at h
  · cases h
  rename_i c5
  cases h
  exact (if_neg (by exact c5)).trans rfl
theorem sole_no {t v : Expr} {l : Nat} {env : Env} (h : noComp v = true) : swapsWithSole [t] v l env = pure false := by
  unfold swapsWithSole
  exact swaps_no h
def trSetIx (f : TrF) (S : Sfg) (C : Cfg) (y : Str) (c v : Expr) : Option Sm := (slot C y).bind fun i => (f C .keep v).bind fun v' => (f C .look c).bind fun c' => if noComp v && noSlice c then some (fzS S (v'.tk ++ c'.tk) (.setix i c' v')) else none
theorem trSetIx_ok (hf : Snd ca F f) {y : Str} {c v : Expr} (hT : ∀ i, B.T i = true) (h : trSetIx f S C y c v = some s) (o : Ok X C ca F W) : PS X (.Assign [.Subscript (.Name y p) c pos] v spos) (DSt X ca B W F Wn s) := by
  unfold trSetIx at h
  cases hi : slot C y with
  | none => rw [hi] at h; cases h
  | some i =>
    rw [hi, bsome] at h
    obtain ⟨h1, h2, h3, h4⟩ := slot_ok hi
    rw [← o.N] at h1
    rw [← o.sc] at h2
    cases hv : f C .keep v with
    | none => rw [hv] at h; cases h
    | some v' =>
      rw [hv, bsome] at h
      cases hc : f C .look c with
      | none => rw [hc] at h; cases h
      | some c' =>
        rw [hc, bsome] at h
        split at h
        · rename_i hb
          rw [Bool.and_eq_true] at hb
          cases h
          exact fzS_ok hT (s_setix o.un (hT i) h1 h2 h3 h4 (hf.keep o _ _ hv) (hf.look o _ _ hc) (assignSub hb.2) (sole_no hb.1) rfl rfl)
        · cases h
theorem zip_fst {α β : Type} : ∀ {l : List α} {m : List β}, m.length = l.length → (l.zip m).map (·.1) = l ∧ (l.zip m).map (·.2) = m ∧ (l.zip m).length = l.length
  | [], [], _ => ⟨rfl, rfl, rfl⟩
  | a :: l, b :: m, h => by
    obtain ⟨h1, h2, h3⟩ := zip_fst (l := l) (m := m) (by simpa using h)
    refine ⟨?_, ?_, ?_⟩
    · rw [List.zip_cons_cons, List.map_cons, h1]
    · rw [List.zip_cons_cons, List.map_cons, h2]
    · rw [List.zip_cons_cons, List.length_cons, h3, List.length_cons]
  | [], _ :: _, h => by cases h
  | _ :: _, [], h => by cases h
def trTupS (f : TrF) (S : Sfg) (C : Cfg) (ts : List Expr) (v : Expr) : Option Sm := match v with
  | .Tuple es _ _ => (trNames C ts).bind fun is => (trPar f S C is es).bind fun r => match swp C ts es with
    | some none => if is.length ≤ 1000 then some (fzS S r.2.tk (.par (is.zip r.1) r.2)) else none
    | some (some q) => (match ts with
      | [.Name y _, .Name z _] => if q == [y, z] && C.sc.names.lookup y == some .local && C.sc.names.lookup z == some .local && decide (is.Nodup) then some (fzS S r.2.tk (.par (is.zip r.1) r.2)) else none
      | [.Name y _, .Name z _, .Name u _] => if q == [y, z, u] && C.sc.names.lookup y == some .local && C.sc.names.lookup z == some .local && C.sc.names.lookup u == some .local && decide (is.Nodup) then some (fzS S r.2.tk (.par (is.zip r.1) r.2)) else none
      | _ => none)
    | none => none
  | v => (trNames C ts).bind fun is => (f C .keep v).bind fun v' => if noComp v && noTup v then some (fzS S v'.tk (.unp is v')) else none
theorem noTup_sw {ts : List Expr} {v : Expr} {kt : Nat} {pt : Pos} {env : Env} (h : noTup v = true) : swappedStores [.Tuple ts kt pt] v env = pure none := by
  cases v <;> first | rfl | cases h
theorem trNames2 {y z : Str} {py pz : Pos} {is : List Nat} (h : trNames C [.Name y py, .Name z pz] = some is) : ∃ i j, is = [i, j] ∧ slotT C y = some i ∧ slotT C z = some j := by
  have h : ((slotT C y).bind fun i => (trNames C [.Name z pz]).bind fun is => some (i :: is)) = some is := h
  cases h1 : slotT C y with
  | none => rw [h1] at h; cases h
  | some i =>
    rw [h1, bsome] at h
    have h : (((slotT C z).bind fun i => (trNames C []).bind fun is => some (i :: is)).bind fun is => some (i :: is)) = some is := h
    cases h2 : slotT C z with
    | none => rw [h2] at h; cases h
    | some j => rw [h2] at h; cases h; exact ⟨i, j, rfl, rfl, rfl⟩
theorem trNames3 {y z u : Str} {py pz pu : Pos} {is : List Nat} (h : trNames C [.Name y py, .Name z pz, .Name u pu] = some is) : ∃ i j k, is = [i, j, k] ∧ slotT C y = some i ∧ slotT C z = some j ∧ slotT C u = some k := by
  have h : ((slotT C y).bind fun i => (trNames C [.Name z pz, .Name u pu]).bind fun is => some (i :: is)) = some is := h
  cases h1 : slotT C y with
  | none => rw [h1] at h; cases h
  | some i =>
    rw [h1, bsome] at h
    cases h2 : trNames C [.Name z pz, .Name u pu] with
    | none => rw [h2] at h; cases h
    | some js =>
      rw [h2] at h
      cases h
      obtain ⟨j, k, rfl, q1, q2⟩ := trNames2 h2
      exact ⟨i, j, k, rfl, rfl, q1, q2⟩
theorem trTupS_ok (hf : Snd ca F f) {ts : List Expr} {v : Expr} {kt : Nat} (hT : ∀ i, B.T i = true) (hk : C.sc.kind = .function) (h : trTupS f S C ts v = some s) (o : Ok X C ca F W) : PS X (.Assign [.Tuple ts kt pos] v spos) (DSt X ca B W F Wn s) := by
  have hN : X.N.Nodup := by rw [o.N]; exact o.nd
  unfold trTupS at h
  split at h
  · rename_i es k2 p2
    cases hi : trNames C ts with
    | none => rw [hi] at h; cases h
    | some is =>
      rw [hi, bsome] at h
      obtain ⟨g1, g2, g3⟩ := trNames_ok o hi
      cases hr : trPar f S C is es with
      | none => rw [hr] at h; cases h
      | some r =>
        rw [hr, bsome] at h
        obtain ⟨r1, r2, r3⟩ := trPar_ok hf o hr
        obtain ⟨z1, z2, z3⟩ := zip_fst r2
        split at h
        · rename_i hs
          split at h
          · rename_i hz
            cases h
            exact fzS_ok hT (s_parN (is := is.zip r.1) (fun k _ => hT k.1) o.calm (by rw [z3]; exact le_LIM hz) (by rw [z1]; exact g1) (by rw [g2, z3]) g3 (by rw [z2]; exact r1) (swp_ok o hk hs) rfl)
          · cases h
        · rename_i q hs
          split at h
          · rename_i y py z pz
            split at h
            · rename_i hc
              simp only [Bool.and_eq_true, decide_eq_true_eq] at hc
              obtain ⟨⟨⟨hq, hy⟩, hz⟩, hnd⟩ := hc
              have eq_ := eq_of_beq hq
              have ey := eq_of_beq hy
              have ez := eq_of_beq hz
              subst eq_
              cases h
              obtain ⟨i, j, rfl, s1, s2⟩ := trNames2 hi
              obtain ⟨a1, a2, a3⟩ := slotT_ok s1 o
              obtain ⟨b1, b2, b3⟩ := slotT_ok s2 o
              obtain ⟨bs, es'⟩ := r
              match bs, r2, es, r3, r1, hs with
              | [c1, c2], _, [e1, e2], _, r1, hs =>
                have hij : i ≠ j := fun q => by subst q; simp at hnd
                exact fzS_ok hT (s_par2 (fun k _ => hT k.1) o.calm hN a1 b1 hij (by rw [o.sc]; exact ey) (by rw [o.sc]; exact ez) r1 (swp_ok o hk hs))
            · cases h
          · rename_i y py z pz u pu
            split at h
            · rename_i hc
              simp only [Bool.and_eq_true, decide_eq_true_eq] at hc
              obtain ⟨⟨⟨⟨hq, hy⟩, hz⟩, hu⟩, hnd⟩ := hc
              have eq_ := eq_of_beq hq
              have ey := eq_of_beq hy
              have ez := eq_of_beq hz
              have eu := eq_of_beq hu
              subst eq_
              cases h
              obtain ⟨i, j, l, rfl, s1, s2, s3⟩ := trNames3 hi
              obtain ⟨a1, a2, a3⟩ := slotT_ok s1 o
              obtain ⟨b1, b2, b3⟩ := slotT_ok s2 o
              obtain ⟨d1, d2, d3⟩ := slotT_ok s3 o
              obtain ⟨bs, es'⟩ := r
              match bs, r2, es, r3, r1, hs with
              | [c1, c2, c3], _, [e1, e2, e3], _, r1, hs =>
                have hij : i ≠ j := fun q => by subst q; simp at hnd
                have hil : i ≠ l := fun q => by subst q; simp at hnd
                have hjl : j ≠ l := fun q => by subst q; simp at hnd
                exact fzS_ok hT (s_par3 (fun k _ => hT k.1) o.calm hN a1 b1 d1 hij hil hjl (by rw [o.sc]; exact ey) (by rw [o.sc]; exact ez) (by rw [o.sc]; exact eu) r1 (swp_ok o hk hs))
            · cases h
          · cases h
        · cases h
  · cases hi : trNames C ts with
    | none => rw [hi] at h; cases h
    | some is =>
      rw [hi, bsome] at h
      cases hv : f C .keep v with
      | none => rw [hv] at h; cases h
      | some v' =>
        rw [hv, bsome] at h
        split at h
        · rename_i hc
          rw [Bool.and_eq_true] at hc
          cases h
          obtain ⟨g1, g2, g3⟩ := trNames_ok o hi
          exact fzS_ok hT (s_unp (fun i _ => hT i) (g_tup o.calm g1 g2 g3) (hf.keep o _ _ hv) (sole_no hc.1) (noTup_sw hc.2) rfl)
        · cases h
/-! ### what is done for its effect -/
def popArg : Expr → Option (Str × Pos × Pos × Expr × Pos)
  | .Call (.Attribute (.Name z p2) nm ap2) [k] [] cp2 => if nm == ("pop" : Str) then some (z, p2, ap2, k, cp2) else none
  | _ => none
theorem popArg_ok {e : Expr} {z : Str} {p2 ap2 cp2 : Pos} {k : Expr} (h : popArg e = some (z, p2, ap2, k, cp2)) : e = .Call (.Attribute (.Name z p2) "pop" ap2) [k] [] cp2 := by
  unfold popArg at h
  split at h
  · split at h
    · rename_i hx
      cases h
      have ex := eq_of_beq hx
      subst ex
      rfl
    · cases h
  · cases h
def trEff (f : TrF) (S : Sfg) (C : Cfg) (y nm : Str) (apos : Pos) (a : Expr) (cpos : Pos) : Option Sm := (slot C y).bind fun i => if ns a && (apos.endLine == cpos.line) then
    (if nm == ("append" : Str) then (match popArg a with
      | some (z, _, ap2, k, cp2) => (slot C z).bind fun j => (f C .look k).bind fun k' => if decide (i ≠ j) && ns k && (ap2.endLine == cp2.line) then some (.apppop i j k') else none
      | none => (f C .keep a).bind fun a' => some (fzS S a'.tk (.app i a')))
    else if nm == ("pop" : Str) then (f C .look a).bind fun a' => some (.pop i a')
    else if nm == ("extend" : Str) then (f C .look a).bind fun a' => some (.ext i a')
    else none) else none
theorem trEff_ok (hf : Snd ca F f) {y nm : Str} {a : Expr} (hT : ∀ i, B.T i = true) (h : trEff f S C y nm apos a cpos = some s) (o : Ok X C ca F W) : PS X (.Expr (.Call (.Attribute (.Name y p) nm apos) [a] [] cpos) spos) (DSt X ca B W F Wn s) := by
  unfold trEff at h
  cases hi : slot C y with
  | none => rw [hi] at h; cases h
  | some i =>
    rw [hi, bsome] at h
    obtain ⟨h1, h2, h3, h4⟩ := slot_ok hi
    rw [← o.N] at h1
    rw [← o.sc] at h2
    split at h
    · rename_i hc
      rw [Bool.and_eq_true] at hc
      split at h
      · rename_i hx
        have ex := eq_of_beq hx
        subst ex
        split at h
        · rename_i z p2 ap2 k cp2 hp
          have ea := popArg_ok hp
          cases hj : slot C z with
          | none => rw [hj] at h; cases h
          | some j =>
            rw [hj, bsome] at h
            cases hk : f C .look k with
            | none => rw [hk] at h; cases h
            | some k' =>
              rw [hk, bsome] at h
              split at h
              · rename_i hd
                simp only [Bool.and_eq_true, decide_eq_true_eq] at hd
                cases h
                obtain ⟨g1, g2, g3, g4⟩ := slot_ok hj
                rw [← o.N] at g1
                rw [← o.sc] at g2
                subst ea
                exact s_apppop (hT i) (hT j) hd.1.1 h1 h2 h3 h4 g1 g2 g3 g4 (hf.look o _ _ hk) (mok_of rfl hd.1.2 hd.2) (mok_of rfl rfl hc.2)
              · cases h
        · cases ha : f C .keep a with
          | none => rw [ha] at h; cases h
          | some a' =>
            rw [ha] at h
            cases h
            exact fzS_ok hT (s_app (hT i) h1 h2 h3 h4 (hf.keep o _ _ ha) (mok_of rfl hc.1 hc.2))
      split at h
      · rename_i hx
        have ex := eq_of_beq hx
        subst ex
        cases ha : f C .look a with
        | none => rw [ha] at h; cases h
        | some a' =>
          rw [ha] at h
          cases h
          exact s_pop (hT i) h1 h2 h3 h4 (hf.look o _ _ ha) (mok_of rfl hc.1 hc.2)
      split at h
      · rename_i hx
        have ex := eq_of_beq hx
        subst ex
        cases ha : f C .look a with
        | none => rw [ha] at h; cases h
        | some a' =>
          rw [ha] at h
          cases h
          exact s_ext (hT i) h1 h2 h3 h4 (hf.look o _ _ ha) (mok_of rfl hc.1 hc.2)
      · cases h
    · cases h
def trExp (f : TrF) (S : Sfg) (C : Cfg) (e : Expr) : Option Sm := match e with
  | .Constant (.str _) _ _ => some .pass
  | .Call (.Attribute (.Name y _) nm apos) [a] [] cpos => trEff f S C y nm apos a cpos
  | e => (f C .look e).bind fun e' => if noComp e then some (fzS S e'.tk (.ex e')) else none
theorem trExp_ok (hf : Snd ca F f) {e : Expr} (hT : ∀ i, B.T i = true) (h : trExp f S C e = some s) (o : Ok X C ca F W) : PS X (.Expr e spos) (DSt X ca B W F Wn s) := by
  unfold trExp at h
  split at h
  · cases h
    exact s_doc
  · exact trEff_ok hf hT h o
  · cases he : f C .look e with
    | none => rw [he] at h; cases h
    | some e' =>
      rw [he, bsome] at h
      split at h
      · rename_i hn
        cases h
        exact fzS_ok hT (s_ex (hf.look o _ _ he) (swaps_no hn))
      · cases h
def trAug (f : TrF) (S : Sfg) (C : Cfg) (y : Str) (op : Operator) (v : Expr) : Option Sm := (slotT C y).bind fun i => (f C .look v).bind fun v' => if (S.cel.contains i || S.ow.contains i) && decide (op = .Add) then some (.ext i v') else (opOf op).bind fun o => some (.aug i o v')
theorem trAug_ok (hf : Snd ca F f) {y : Str} {op : Operator} {v : Expr} (hT : ∀ i, B.T i = true) (h : trAug f S C y op v = some s) (o : Ok X C ca F W) : PS X (.AugAssign (.Name y p) op v spos) (DSt X ca B W F Wn s) := by
  have hN : X.N.Nodup := by rw [o.N]; exact o.nd
  unfold trAug at h
  cases hi : slotT C y with
  | none => rw [hi] at h; cases h
  | some i =>
    rw [hi, bsome] at h
    obtain ⟨h1, h2, h3⟩ := slotT_ok hi o
    cases hv : f C .look v with
    | none => rw [hv] at h; cases h
    | some v' =>
      rw [hv, bsome] at h
      split at h
      · rename_i hc
        simp only [Bool.and_eq_true, decide_eq_true_eq] at hc
        have eo := hc.2
        subst eo
        cases h
        exact s_augL (hT i) hN h1 h2 h3 (hf.look o _ _ hv)
      · cases hop : opOf op with
        | none => rw [hop] at h; cases h
        | some b =>
          rw [hop] at h
          cases h
          have eo := opOf_ok hop
          subst eo
          exact s_aug (hT i) hN h1 h2 h3 (hf.look o _ _ hv)
def trRet (f : TrF) (S : Sfg) (C : Cfg) (v : Expr) : Option Sm := if S.rc then (match f C .fresh v with
    | some e => some (fzS S e.tk (.ret (.newc e)))
    | none => (f C .keep v).bind fun e => some (fzS S e.tk (.ret e))) else (f C .keep v).bind fun e => some (fzS S e.tk (.ret e))
theorem trRet_ok (hf : Snd ca F f) {v : Expr} (hT : ∀ i, B.T i = true) (h : trRet f S C v = some s) (o : Ok X C ca F W) : PS X (.Return (some v) spos) (DSt X ca B W F Wn s) := by
  have keep : (f C .keep v).bind (fun e => some (fzS S e.tk (.ret e))) = some s → PS X (.Return (some v) spos) (DSt X ca B W F Wn s) := fun h => by
    cases hv : f C .keep v with
    | none => rw [hv] at h; cases h
    | some e =>
      rw [hv] at h
      cases h
      exact fzS_ok hT (s_ret (hf.keep o _ _ hv))
  unfold trRet at h
  split at h
  · split at h
    · rename_i e he
      cases h
      exact fzS_ok hT (s_ret (DE.up (e_newc (hf.fresh o _ _ he))))
    · exact keep h
  · exact keep h
/-! ### all statements -/
def trB (g : Stmt → Option Sm) : List Stmt → Option Sb
  | [] => some .nil
  | s :: ss => (g s).bind fun a => (trB g ss).bind fun r => some (.cons a r)
theorem trB_ok {g : Stmt → Option Sm} (hg : ∀ st s, g st = some s → PS X st (DSt X ca B W F Wn s)) : ∀ {sts : List Stmt} {b : Sb}, trB g sts = some b → PSs X sts (DSs X ca B W F Wn b)
  | [], b, h => by
    cases h
    exact ss_nil
  | s :: ss, b, h => by
    have h : ((g s).bind fun a => (trB g ss).bind fun r => some (Sb.cons a r)) = some b := h
    cases ha : g s with
    | none => rw [ha] at h; cases h
    | some a =>
      rw [ha, bsome] at h
      cases hr : trB g ss with
      | none => rw [hr] at h; cases h
      | some r =>
        rw [hr] at h
        cases h
        exact ss_cons (hg _ _ ha) (trB_ok hg hr)
/-! ### raise, try -/
def findX : Nat → List XRec → Str → Option (Nat × XRec)
  | _, [], _ => none
  | k, r :: rs, x => if r.name == x then some (k, r) else findX (k + 1) rs x
theorem findX_ok : ∀ {l : List XRec} {k : Nat} {x : Str} {i : Nat} {r : XRec}, findX k l x = some (i, r) → ∃ j, i = k + j ∧ l[j]? = some r ∧ r.name = x
  | [], _, _, _, _, h => by cases h
  | r0 :: rs, k, x, i, r, h => by
    unfold findX at h
    split at h
    · rename_i hx
      cases h
      exact ⟨0, rfl, rfl, eq_of_beq hx⟩
    · obtain ⟨j, h1, h2, h3⟩ := findX_ok h
      exact ⟨j + 1, by omega, h2, h3⟩
theorem findX_at (o : Ok X C ca F W) {x : Str} {i : Nat} {r : XRec} (h : findX 0 C.ex x = some (i, r)) : C.ex[i]? = some r ∧ r.name = x ∧ XcK X.K X.mg ca C.ex.length i r := by
  obtain ⟨j, h1, h2, h3⟩ := findX_ok h
  rw [Nat.zero_add] at h1
  subst h1
  exact ⟨h2, h3, o.ex _ _ h2⟩
def trRaise (C : Cfg) : Expr → Option Sm
  | .Call (.Name x _) [.Constant (.str _) _ _] [] _ => match findX 0 C.ex x with
    | some (i, r) => if glB C x && r.fld.isNone then some (.rais i) else none
    | none => none
  | _ => none
theorem trRaise_ok {e : Expr} (h : trRaise C e = some s) (o : Ok X C ca F W) : PS X (.Raise (some e) none spos) (DSt X ca B W F Wn s) := by
  unfold trRaise at h
  split at h
  · split at h
    · rename_i i r hx
      split at h
      · rename_i hc
        rw [Bool.and_eq_true] at hc
        cases h
        obtain ⟨h1, h2, h3⟩ := findX_at o hx
        obtain ⟨A, e1, e2, e3, e4⟩ := h3.ex
        have hn : r.fld = none := by simpa using hc.2
        rw [hn] at e4
        obtain ⟨q1, q2, q3, q4⟩ := e4
        obtain ⟨g1, g2⟩ := gl_of o hc.1
        rw [h2] at e2
        exact s_rais o.calm o.tk q1 e2 q2 (raises_own q3 q4) g1 g2 e1
      · cases h
    · cases h
  · cases h
def trHA (nf : Option (Str × Str)) : Expr → Option HA
  | .Constant c _ _ => (conA c).map .con
  | .Attribute (.Name z _) x _ => match nf with
    | some (n, f) => if z == n && x == f then some (.fld x) else none
    | none => none
  | _ => none
def trHAs (nf : Option (Str × Str)) : List Expr → Option (List HA)
  | [] => some []
  | e :: es => (trHA nf e).bind fun a => (trHAs nf es).map (a :: ·)
def trHV (nf : Option (Str × Str)) : Expr → Option HV
  | .Tuple es _ _ => (trHAs nf es).bind fun as => if as.length ≤ 1000 then some (.tup as) else none
  | .List es _ => (trHAs nf es).bind fun as => if as.length ≤ 1000 then some (.lst as) else none
  | e => (trHA nf e).map .at_
/-- what a clause's expressions lean on -/
structure HOk' (X : Cx) (C : Cfg) (ca : Nat → Value) (nf : Option (Str × Str)) (nm : Option Nat) (cv : Value) : Prop where
  ex : ∀ n f, nf = some (n, f) → ∃ i A, nm = some i ∧ cv = .ref A ∧ XfC X.K A ∧ PySem.W.findIn X.K (.ref A) f = some none ∧ X.N[i]? = some n ∧ Vis X.env.scope n ∧ (n == ("__debug__" : Str)) = false ∧ (n == ("__classdict__" : Str)) = false
theorem trHA_ok {nf : Option (Str × Str)} {nm : Option Nat} {cv : Value} (k : HOk' X C ca nf nm cv) {e : Expr} {x : HA} (h : trHA nf e = some x) {a : Addr} {oe : Obj} {cls : Value} {dx : Option Addr} {pn : List (Addr × Obj)} (hz : Zc cls dx oe) (hv : ∃ vs, oe.data = .fields vs) :
    PE (X.suite a ((a, oe) :: pn)) e (tHA X.K nm cv a cls dx x) ∧ ns e = true := by
  unfold trHA at h
  split at h
  · obtain ⟨d, e1, rfl⟩ := Option.map_eq_some_iff.mp h
    exact ⟨ha_con (X := X.suite a ((a, oe) :: pn)) e1, rfl⟩
  · split at h
    · rename_i n f
      split at h
      · rename_i hc
        rw [Bool.and_eq_true] at hc
        have e1 := eq_of_beq hc.1
        have e2 := eq_of_beq hc.2
        subst e1 e2
        cases h
        obtain ⟨i, A, rfl, hcv, T, hno, h1, h2, h3, h4⟩ := k.ex _ _ rfl
        exact ⟨ha_fld T hno hcv hz hv h1 h2 h3 h4, rfl⟩
      · cases h
    · cases h
  · cases h
theorem trHAs_ok {nf : Option (Str × Str)} {nm : Option Nat} {cv : Value} (k : HOk' X C ca nf nm cv) {a : Addr} {oe : Obj} {cls : Value} {dx : Option Addr} {pn : List (Addr × Obj)} (hz : Zc cls dx oe) (hv : ∃ vs, oe.data = .fields vs) : ∀ {es : List Expr} {xs : List HA}, trHAs nf es = some xs →
    PA (X.suite a ((a, oe) :: pn)) es (tHAs X.K nm cv a cls dx xs)
  | [], xs, h => by
    cases h
    exact has_nil (X := X.suite a ((a, oe) :: pn))
  | e :: es, xs, h => by
    unfold trHAs at h
    cases h1 : trHA nf e with
    | none => rw [h1] at h; cases h
    | some x =>
      rw [h1, bsome] at h
      obtain ⟨ys, h2, rfl⟩ := Option.map_eq_some_iff.mp h
      obtain ⟨q1, q2⟩ := trHA_ok k h1 (pn := pn) hz hv
      exact has_cons (X := X.suite a ((a, oe) :: pn)) q1 (trHAs_ok k hz hv h2) (star1 q2)
theorem trHV_ok {nf : Option (Str × Str)} {nm : Option Nat} {cv : Value} (k : HOk' X C ca nf nm cv) {e : Expr} {x : HV} (h : trHV nf e = some x) {a : Addr} {oe : Obj} {cls : Value} {dx : Option Addr} {pn : List (Addr × Obj)} (hz : Zc cls dx oe) (hv : ∃ vs, oe.data = .fields vs) :
    PE (X.suite a ((a, oe) :: pn)) e (tHV X.K nm cv a cls dx x) := by
  unfold trHV at h
  split at h
  · rename_i es _ _
    cases h1 : trHAs nf es with
    | none => rw [h1] at h; cases h
    | some xs =>
      rw [h1, bsome] at h
      split at h
      · rename_i hl
        cases h
        exact hv_tup (X := X.suite a ((a, oe) :: pn)) (trHAs_ok k hz hv h1) hl
      · cases h
  · rename_i es _
    cases h1 : trHAs nf es with
    | none => rw [h1] at h; cases h
    | some xs =>
      rw [h1, bsome] at h
      split at h
      · rename_i hl
        cases h
        exact hv_lst (X := X.suite a ((a, oe) :: pn)) (trHAs_ok k hz hv h1) hl
      · cases h
  · obtain ⟨y, h1, rfl⟩ := Option.map_eq_some_iff.mp h
    exact hv_at (X := X.suite a ((a, oe) :: pn)) (trHA_ok k h1 hz hv).1
def trHd (C : Cfg) : ExceptHandler → Option Hd
  | .ExceptHandler (some (.Name x _)) nm [.Assign [.Name y _] v _] _ => match findX 0 C.ex x, slotT C y with
    | some (i, r), some j => if glB C x && C.sc.names.lookup y == some .local && noComp v then (match nm with
      | none => (trHV none v).map fun hv => ⟨C.ex.length, r.cs, none, j, hv⟩
      | some n => (match slot C n, r.fld with
        | some k, some f => if C.sc.names.lookup n == some .local && decide (k ≠ j) && decide (r.cs = [i]) then (trHV (some (n, f)) v).map fun hv => ⟨C.ex.length, r.cs, some k, j, hv⟩ else none
        | _, _ => none)) else none
    | _, _ => none
  | _ => none
def trHds (C : Cfg) : List ExceptHandler → Option (List Hd)
  | [] => some []
  | h :: hs => (trHd C h).bind fun a => (trHds C hs).map (a :: ·)
theorem trHd_ok (hT : ∀ i, B.T i = true) (o : Ok X C ca F W) {hd : ExceptHandler} {h : Hd} (e : trHd C hd = some h) {hds : List ExceptHandler} {hs : List Hd} {l : List (Value × Option Nat × TSx)} (m : HdsM X hds l) (m2 : HdL X ca B hs l) : ∃ x, HdsM X (hd :: hds) (x :: l) ∧ HdL X ca B (h :: hs) (x :: l) := by
  have hN : X.N.Nodup := by rw [o.N]; exact o.nd
  have kk : ∀ id, X.env.kindOf id = C.sc.names.lookup id := fun id => by
    unfold Env.kindOf
    rw [o.sc]
  unfold trHd at e
  split at e
  · rename_i x p nm y p2 v sp q
    split at e
    · rename_i i r j hx hy
      split at e
      · rename_i hc
        simp only [Bool.and_eq_true] at hc
        obtain ⟨h1, h2, h3⟩ := findX_at o hx
        obtain ⟨A, e1, e2, e3, e4⟩ := h3.ex
        rw [h2] at e2
        obtain ⟨g1, g2⟩ := gl_of o hc.1.1
        have names : Names X x (.ref A) := ⟨g1, g2, .inl e2⟩
        obtain ⟨t1, t2, _⟩ := slotT_ok hy o
        have ly : X.env.scope.names.lookup y = some .local := by
          rw [o.sc]
          exact eq_of_beq hc.1.2
        split at e
        · obtain ⟨hv, ev, rfl⟩ := Option.map_eq_some_iff.mp e
          refine ⟨_, .bare names (su_ok (h := ⟨C.ex.length, r.cs, none, j, hv⟩) (cv := .ref A) hT hN t1 t2 ly (swaps_no hc.2) fun a oe cls d pn hz hf => ?_) m, .cons e3 (fun i hi => by cases hi) m2⟩
          exact trHV_ok (C := C) (ca := ca) ⟨fun n f z => by cases z⟩ ev hz hf
        · rename_i n
          split at e
          · rename_i k f hk hfl
            split at e
            · rename_i hc2
              simp only [Bool.and_eq_true, decide_eq_true_eq] at hc2
              obtain ⟨hv, ev, rfl⟩ := Option.map_eq_some_iff.mp e
              obtain ⟨s1, s2, s3, s4⟩ := slot_ok hk
              rw [← o.N] at s1
              rw [← o.sc] at s2
              rw [hfl] at e4
              refine ⟨_, .named (i := k) names s1 (by rw [kk]; exact eq_of_beq hc2.1.1) (su_ok (h := ⟨C.ex.length, r.cs, some k, j, hv⟩) (cv := .ref A) hT hN t1 t2 ly (swaps_no hc.2) fun a oe cls d pn hz hf => ?_) m,
                .cons e3 (fun i' hi => by cases hi; exact ⟨hc2.1.2, (List.getElem?_eq_some_iff.mp s1).1, fun j' hj => by
                  have hj : r.cs.contains j' = true := hj
                  rw [hc2.2] at hj
                  have : j' = i := by simpa using hj
                  rw [this]
                  exact e1⟩) m2⟩
              exact trHV_ok (C := C) (ca := ca) ⟨fun n' f' z => by cases z; exact ⟨k, A, rfl, rfl, e4.1, e4.2, s1, s2, s3, s4⟩⟩ ev hz hf
            · cases e
          · cases e
      · cases e
    · cases e
  · cases e
theorem trHds_ok (hT : ∀ i, B.T i = true) (o : Ok X C ca F W) : ∀ {hds : List ExceptHandler} {hs : List Hd}, trHds C hds = some hs → ∃ l, HdsM X hds l ∧ HdL X ca B hs l
  | [], hs, h => by
    cases h
    exact ⟨[], .nil, .nil⟩
  | hd :: hds, hs, h => by
    unfold trHds at h
    cases h1 : trHd C hd with
    | none => rw [h1] at h; cases h
    | some a =>
      rw [h1, bsome] at h
      obtain ⟨hs2, h2, rfl⟩ := Option.map_eq_some_iff.mp h
      obtain ⟨l, m1, m2⟩ := trHds_ok hT o h2
      obtain ⟨x, k1, k2⟩ := trHd_ok hT o h1 m1 m2
      exact ⟨x :: l, k1, k2⟩
def trS (f : TrF) (S : Sfg) (C : Cfg) : Nat → Stmt → Option Sm
  | 0 => fun _ => none
  | n + 1 => fun st => match st with
    | .Assign [.Name y p] v _ => trSet f S C y p v
    | .Assign [.Subscript (.Name y _) c _] v _ => trSetIx f S C y c v
    | .Assign [.Tuple ts _ _] v _ => trTupS f S C ts v
    | .AugAssign (.Name y _) op v _ => trAug f S C y op v
    | .Expr e _ => trExp f S C e
    | .Return (some v) _ => trRet f S C v
    | .Return none _ => some (.ret (.con .non))
    | .If c t u _ => (f C .test c).bind fun c' => (trB (trS f S C n) t).bind fun t' => (trB (trS f S C n) u).bind fun u' => some (fzS S c'.tk (.ife c' t' u'))
    | .While c t [] _ => (f C .test c).bind fun c' => (trB (trS f S C n) t).bind fun t' => some (fzS S c'.tk (.whl c' t'))
    | .For tg iter t [] _ => (trTg C tg).bind fun tu => (trI f C false tg iter).bind fun i => (trB (trS f S C n) t).bind fun t' => if noSet iter then some (fzS S i.tk (.for_ tu.1 tu.2 i t')) else none
    | .Pass _ => some .pass
    | .Continue _ => some .cont
    | .Raise (some e) none _ => some ((trRaise C e).getD .never)
    | .Raise .. => some .never
    | .Try b (h :: hs) [] [] _ => (trB (trS f S C n) b).bind fun b' => (trHds C (h :: hs)).bind fun hs' => some (.try_ b' hs')
    | _ => none
theorem trS_ok (hf : Snd ca F f) (hT : ∀ i, B.T i = true) (hk : C.sc.kind = .function) : ∀ (n : Nat) {X : Cx} {W : WX} (o : Ok X C ca F W) (hp : PassesOwn (model X.prog X.w) X.A X.env X.xe) (hstk : X.stack = X.env :: X.outer) (hfrm : X.env.frame = some X.env.locals) (st : Stmt) (s : Sm), trS f S C n st = some s → PS X st (DSt X ca B W F Wn s)
  | 0, _, _, _, _, _, _, st, s, h => by cases h
  | n + 1, X, W, o, hp, hstk, hfrm, st, s, h => by
    have ih := trS_ok hf hT hk n o hp hstk hfrm
    unfold trS at h
    split at h
    · exact trSet_ok hf hT hk h o
    · exact trSetIx_ok hf hT h o
    · exact trTupS_ok hf hT hk h o
    · exact trAug_ok hf hT h o
    · exact trExp_ok hf hT h o
    · exact trRet_ok hf hT h o
    · cases h
      exact s_retN
    · rename_i c t u q
      cases hc : f C .test c with
      | none => rw [hc] at h; cases h
      | some c' =>
        rw [hc, bsome] at h
        cases ht : trB (trS f S C n) t with
        | none => rw [ht] at h; cases h
        | some t' =>
          rw [ht, bsome] at h
          cases hu : trB (trS f S C n) u with
          | none => rw [hu] at h; cases h
          | some u' =>
            rw [hu] at h
            cases h
            exact fzS_ok hT (s_if (hf.test o _ _ hc) (trB_ok ih ht) (trB_ok ih hu))
    · rename_i c t q
      cases hc : f C .test c with
      | none => rw [hc] at h; cases h
      | some c' =>
        rw [hc, bsome] at h
        cases ht : trB (trS f S C n) t with
        | none => rw [ht] at h; cases h
        | some t' =>
          rw [ht] at h
          cases h
          exact fzS_ok hT (s_whl hp (hf.test o _ _ hc) (trB_ok ih ht))
    · rename_i tg iter t q
      cases hg : trTg C tg with
      | none => rw [hg] at h; cases h
      | some tu =>
        rw [hg, bsome] at h
        cases hi : trI f C false tg iter with
        | none => rw [hi] at h; cases h
        | some i =>
          rw [hi, bsome] at h
          cases ht : trB (trS f S C n) t with
          | none => rw [ht] at h; cases h
          | some t' =>
            rw [ht, bsome] at h
            split at h
            · rename_i hs
              cases h
              exact fzS_ok hT (s_for hp o.calm (fun i _ => hT i) (trI_ok hf hi o) (trTg_ok hg o) (trB_ok ih ht) (noSet_it hs))
            · cases h
    · cases h; exact s_pass
    · cases h; exact s_cont
    · rename_i e q
      cases h
      cases hr : trRaise C e with
      | none => exact s_never
      | some s' => exact trRaise_ok hr o
    · cases h; exact s_never
    · rename_i b hd hs q
      cases hb : trB (trS f S C n) b with
      | none => rw [hb] at h; cases h
      | some b' =>
        rw [hb, bsome] at h
        cases hh : trHds C (hd :: hs) with
        | none => rw [hh] at h; cases h
        | some hs' =>
          rw [hh] at h
          cases h
          obtain ⟨l, m1, m2⟩ := trHds_ok hT o hh
          exact s_try hstk hfrm (by rw [o.N]; exact o.nd) o.tk hT (fun W' pn xe tk hp' => trB_ok (X := X.tr pn xe) (trS_ok hf hT hk n (o.tr tk) hp' hstk hfrm) hb) m1 m2
    · cases h
end
end Ev

set_option Elab.async false
set_option linter.all false
set_option maxRecDepth 100000
set_option maxHeartbeats 2000000
/-! All defs keep their promises. -/
namespace Ev
open PySem PySem.Spec PyProof.Rows L2
/-- a def: its name, its text, its names, its parameters, how its lists are kept, its core -/
structure FRec where
  name : Str
  st : Stmt
  N : List Str
  ps : List Str
  S : Sfg
  body : Sb
structure Prg where
  fs : List FRec
  kws : List (Str × (List Str × List Nat))
  con : List (Str × D)
  blt : List Str
  fuel : Nat
  ex : List XRec := []
def Prg.T (P : Prg) : List Fn := P.fs.map fun r => ⟨r.ps.length, r.N.length, r.body⟩
def tabOf : Nat → List FRec → List (Str × (Nat × Nat))
  | _, [] => []
  | k, r :: fs => (r.name, (k, r.ps.length)) :: tabOf (k + 1) fs
theorem tabOf_mem : ∀ {fs : List FRec} {k : Nat} {x : Str} {f np : Nat}, (x, (f, np)) ∈ tabOf k fs → ∃ i r, f = k + i ∧ fs[i]? = some r ∧ r.name = x ∧ np = r.ps.length
  | [], _, _, _, _, h => by cases h
  | r :: fs, k, x, f, np, h => by
    rcases List.mem_cons.mp h with e | h
    · cases e
      exact ⟨0, r, rfl, rfl, rfl, rfl⟩
    · obtain ⟨i, r', h1, h2, h3, h4⟩ := tabOf_mem h
      exact ⟨i + 1, r', by omega, h2, h3, h4⟩
def Prg.cfg (P : Prg) (r : FRec) : Cfg := { N := r.N, sc := defScope r.st, fns := tabOf 0 P.fs, kws := P.kws, con := P.con, blt := P.blt, ex := P.ex }
def Prg.core (P : Prg) (r : FRec) : Option Sb := trB (trS (tr P.fuel) r.S (P.cfg r) P.fuel) (defBody r.st)
/-- what stands written of the defs -/
structure Tab (Pg : Prg) (K : PySem.W.Frag) (mg : Str → Option Value) (ca : Nat → Value) : Prop where
  fn : ∀ (i : Nat) (r : FRec), Pg.fs[i]? = some r → ∃ g fd, mg r.name = some (.ref g) ∧ L2.Fun K r.name r.name r.st g fd ∧ Binds K fd r.ps [] ∧ ∀ ks pm, (r.name, ks, pm) ∈ Pg.kws → KW0 K fd r.ps ks pm
  con : ∀ x d, Pg.con.lookup x = some d → ∃ v u, mg x = some u ∧ RelV v u ∧ ∀ G ρ, Rep K G ρ d v
  blt : ∀ x ∈ Pg.blt, mg x = none
  ex : ∀ i r, Pg.ex[i]? = some r → XcK K mg ca Pg.ex.length i r
/-- the texts' own checks -/
def Prg.Good (P : Prg) : Prop := ∀ r ∈ P.fs, FnScope r.N r.ps (defScope r.st) ∧ P.core r = some r.body
theorem start_rl {K : PySem.W.Frag} {S : Sto} {H G : Hp} {ρ : List Addr} {ds : List D} {vs : List V} {N : List Str} {fn : Fn} (hn : fn.nl = N.length) (hp : fn.np = ds.length) (hle : ds.length ≤ N.length) (hd : Hold K S H G ρ) (r : Reps K G ρ ds vs) : RlS K ⟨H, G, ρ, startE fn ds, fun _ => true⟩ (startE fn ds) S (L2.start N vs) H G ρ := by
  have hl := r.length
  have look : ∀ (i : Nat) (x : Sl), (startE fn ds)[i]? = some x → x = .no ∨ ∃ d, x = .val d ∧ ds[i]? = some d := fun i x h => by
    unfold startE at h
    by_cases hi : i < ds.length
    · rw [List.getElem?_append_left (by simpa using hi), List.getElem?_map] at h
      cases e : ds[i]? with
      | none => rw [e] at h; cases h
      | some d => rw [e] at h; cases h; exact .inr ⟨d, rfl, rfl⟩
    · rw [List.getElem?_append_right (by simpa using hi), List.getElem?_replicate] at h
      split at h
      · cases h; exact .inl rfl
      · cases h
  exact
  { toHold := hd
    sl := by
      unfold L2.start startE
      simp only [List.length_append, List.length_map, List.length_replicate]
      omega
    val := fun i d h => by
      rcases look i _ h with e | ⟨d', e, hd'⟩
      · cases e
      · cases e
        obtain ⟨v, hv, rv⟩ := r.get hd'
        refine ⟨v, ?_, rv⟩
        have hi : i < vs.length := (List.getElem?_eq_some_iff.mp hv).1
        unfold L2.start
        rw [List.getElem?_append_left (by simpa using hi), List.getElem?_map, hv]
        rfl
    own := fun i d h => by
      rcases look i _ h with e | ⟨d', e, _⟩ <;> cases e
    sep := fun i j d e a h => by
      rcases look i _ h with e | ⟨d', e, _⟩ <;> cases e
    x := .refl
    ab := fun i a d h => by
      rcases look i _ h with e | ⟨d', e, _⟩ <;> cases e
    fr := fun j h => rfl }
section
variable {P : Program} {w : World} {K : PySem.W.Frag} {mg : Str → Option Value} {base : Heap}
theorem all_ok {Pg : Prg} {ca : Nat → Value} {Wn : Nat} (tb : Tab Pg K mg ca) (gd : Pg.Good) : ∀ (k i : Nat) (r : FRec) (g : Addr) (fd : FuncData), Pg.fs[i]? = some r → L2.Fun K r.name r.name r.st g fd → FnOk P w K mg base (L2.CX P w) (k + 4) g fd r.ps (spF K ca r.ps.length (runF Pg.T Wn k i))
  | 0, i, r, g, fd, hi, F => by
    have no : ∀ vs H Q E, ¬ spF K ca r.ps.length (runF Pg.T Wn 0 i) vs H Q E := fun vs H Q E h => by
      obtain ⟨ds, S, G, ρ, _, _, _, q⟩ := h
      exact q
    exact ⟨fun vs H Q E h => absurd h (no vs H Q E), fun A outer s H args us vs Q E _ _ _ _ h => absurd h (no vs H Q E)⟩
  | k + 1, i, r, g, fd, hi, F => by
    obtain ⟨sc, co⟩ := gd r (List.mem_of_getElem? hi)
    refine F.okX sc (fun vs H Q E h => ?_) (fun cdv A outer s H vs Q E hr h => ?_)
    · obtain ⟨ds, S, G, ρ, hl, _, rr, _⟩ := h
      rw [rr.length, hl]
    · generalize hX : cxOf (L2.CX P w) P w K mg base r.N r.name (defScope r.st) g cdv A outer s H E = X
      have o : Ok X (Pg.cfg r) ca (runF Pg.T Wn k) (fun cls d _ H => E cls d H) := by
        subst hX
        refine ⟨rfl, sc.nd, rfl, rfl, fun _ _ => rfl, takes_of rfl rfl rfl rfl, hr.units, tb.con, tb.blt, fun x f np hx => ?_, fun h => (by cases h), hr.mono (by omega), tb.ex⟩
        obtain ⟨j, r', hj, h1, h2, h3⟩ := tabOf_mem (PySem.mem_of_lookup hx)
        rw [Nat.zero_add] at hj
        subst hj h2 h3
        obtain ⟨g', fd', m1, m2, m3, m4⟩ := tb.fn f r' h1
        exact ⟨k + 4, g', fd', r'.ps, m1, m2.kp, m3, rfl, all_ok tb gd k f r' g' fd' h1 m2, hr, m4⟩
      have hp : PassesOwn (model X.prog X.w) X.A X.env X.xe := by
        subst hX
        exact passes_of rfl
      have hstk : X.stack = X.env :: X.outer := by subst hX; rfl
      have hfrm : X.env.frame = some X.env.locals := by subst hX; rfl
      obtain ⟨ds, S, G, ρ, hl, hd, rr, q⟩ := h
      have hle : r.ps.length ≤ r.N.length := by
        have := congrArg List.length sc.pre
        rw [List.length_take] at this
        omega
      have body := fun (B : Bse) (hT : ∀ i, B.T i = true) => trB_ok (B := B) (Wn := Wn) (trS_ok (tr_ok Pg.fuel) hT sc.kind Pg.fuel o hp hstk hfrm) co
      refine ⟨_, body ⟨H, G, ρ, startE ⟨r.ps.length, r.N.length, r.body⟩ ds, fun _ => true⟩ (fun _ => rfl), ?_⟩
      have hK : X.K = K := by subst hX; rfl
      have rl := start_rl (fn := ⟨r.ps.length, r.N.length, r.body⟩) (N := r.N) rfl hl.symm (by rw [hl]; exact hle) hd rr
      refine ⟨_, S, G, ρ, by rw [hK]; exact rl, ?_⟩
      rw [hK]
      have hT : Pg.T[i]? = some ⟨r.ps.length, r.N.length, r.body⟩ := by
        unfold Prg.T
        rw [List.getElem?_map, hi]
        rfl
      have q : Aft K (RV K) (WW K ca E) H G ρ ((match Pg.T[i]? with
        | some fn => if ds.length = fn.np then M.bnd (exs (runF Pg.T Wn k) Wn fn.body (startE fn ds)) (fun f => match f with
          | .rt d => M.ret d
          | .nx _ => M.ret .non
          | .ct _ => M.bad) else M.bad
        | none => M.bad : M D) S) Q := q
      rw [hT] at q
      dsimp only at q
      rw [if_pos hl] at q
      unfold M.bnd at q
      cases e : exs (runF Pg.T Wn k) Wn r.body (startE ⟨r.ps.length, r.N.length, r.body⟩ ds) S with
      | bad => rw [e] at q; exact q
      | exc x S' =>
        rw [e] at q
        exact fun env' σ' H' G' ρ' rl' _ cls dx xr => q H' G' ρ' rl'.x rl'.toHold cls dx xr
      | ok fl S' =>
        rw [e] at q
        cases fl with
        | rt d => exact fun v H' G' ρ' x hd' r' _ => q v H' G' ρ' x hd' r'
        | nx env' => exact fun σ' H' G' ρ' rl' _ => q .non H' G' ρ' rl'.x rl'.toHold rfl
        | ct env' => exact q.elim
end
end Ev

set_option Elab.async false
set_option linter.all false
set_option maxRecDepth 100000
set_option maxHeartbeats 2000000
/-! The law's own def: called where no guard stands. -/
namespace Ev
open PySem PySem.Spec PyProof.Rows L2
/-- a def's promise at calls ahead of which no guard stands -/
structure FnOkG (P : Program) (w : World) (K : PySem.W.Frag) (mg : Str → Option Value) (base : Heap) (CX : CXT) (k : Nat) (f : Addr) (fd : FuncData) (ps : List Str) (sp : Sp) : Prop where
  run : ∀ (A : Around) (outer : List Env) (s : Shared) (H : Hp) (args : Args) (us : List Value) (vs : List V) (Q : VK) (E : XK), A.guards = some [] → Room k A → Env0 P w K mg base A outer s H → BindsTo s fd args (ps.zip us) → Vals vs us → sp vs H Q E →
    codeAny (model P w) A (.call (.ref f) args) (CR CX outer P w H s Q E) s
theorem fnG_of {CX : CXT} {P : Program} {w : World} {K : PySem.W.Frag} {mg : Str → Option Value} {base : Heap} {k : Nat} {f : Addr} {fd : FuncData} {name qual : Str} {st : Stmt} {N ps : List Str} {sp : Sp} (F : L2.Fun K name qual st f fd) (S : FnScope N ps (defScope st))
    (len : ∀ vs H Q E, sp vs H Q E → vs.length = ps.length)
    (hb : ∀ (cdv : Value) (A : Around) (outer : List Env) (s : Shared) (H : Hp) (vs : List V) (Q : VK) (E : XK), A.guards = some [] → Room k (A.deeper (envOfC qual (defScope st) s.heap.objs.size f cdv)) → sp vs H Q E →
      ∃ t, PSs (cxOf CX P w K mg base N qual (defScope st) f cdv A outer s H E) (defBody st) t ∧ t { nx := fun _ H' => Q .non H', rt := Q } (start N vs) H) : FnOkG P w K mg base CX (k + 1) f fd ps sp := by
  obtain ⟨oc, od, kV, doc, pm, an, cdv, ct, osl, rfl, lk, hcd⟩ := F.ex
  refine ⟨fun A outer s H args us vs Q E hg hr e0 b r q => ?_⟩
  have inK : K.In s.heap := e0.mod.kin.keeps fun b o e => (e0.bs b o e).1
  have kinds : ∀ y ∈ ps.zip us, (defScope st).names.lookup y.1 = some .local ∨ ((defScope st).names.lookup y.1 = some .cell ∧ ((cellsFrom (s.heap.objs.size + 1) (defScope st).names []).lookup y.1).isSome = true) := by
    intro y hy
    rcases S.par y.1 (List.of_mem_zip hy).1 with z | z
    · exact .inl z
    · exact .inr ⟨z, PySem.W.cellsFrom_some _ _ _ (.inl z)⟩
  refine codeAny_call_function hr.depth (inK _ _ lk) rfl S.co S.gen rfl (PySem.W.codeRec_of inK hcd) (b _ _ _ _ ?_)
  refine wpAny_newFunctionEnv_cells S.kind kinds fun env he s1 x => ?_
  subst he
  refine ⟨(e0.mod.nolimit.keeps fun b o e => (e0.bs b o e).1).keeps x.toInCall.keep, codeAny_func ?_⟩
  obtain ⟨t, ht, hq⟩ := hb cdv A outer s H vs Q E hg (hr.deeper _) q
  have I : Inv (cxOf CX P w K mg base N qual (defScope st) f cdv A outer s H E) [] (start N vs) H s1 := inv_start S hr.hd e0 (len _ _ _ _ q) r x
  refine wpAny_mono (ht.run [] s1 (start N vs) H _ I hq) (fun fl s' hs => ?_) fun e s' hs => hs
  cases fl with
  | ret u =>
    obtain ⟨v, σ', H', J, rv, q⟩ := hs
    exact ⟨v, H', J.os, J.bare, J.base, J.hok, rv, q⟩
  | next =>
    obtain ⟨σ', H', J, q⟩ := hs
    exact ⟨V.non, H', J.os, J.bare, J.base, J.hok, rfl, q⟩
  | brk => exact hs.elim fun _ h => h.elim fun _ h => h.2.elim
  | cont => exact hs.elim fun _ h => h.elim fun _ h => h.2.elim
theorem lawG_call {P : Program} {w : World} {K : PySem.W.Frag} {mg mb : Str → Option Value} {CX : CXT} {k : Nat} {fa a : Addr} {fd : FuncData} {x : Str} {sp : Sp} {s₁ : Shared} {vs : List Value} {ns : List Int}
    (inK : K.In s₁.heap) (hns : s₁.heap.Ns mainGlobals mg) (hb : s₁.heap.Ns builtinsNs mb) (hbb : ∀ x : Str, x ≠ "__name__" → mb x = bootBuiltins x) (hlim : s₁.heap.NoLimit) (hg : s₁.gens = #[])
    (ha : s₁.heap.get? a = some { cls := .type "list", data := .seq vs.toArray }) (hi : IntsAre vs ns) (hl : ns.length ≤ sizeLine) (hr : Room k callerA)
    (F : ∀ base : Heap, K.In base → base.Ns mainGlobals mg → FnOkG P w K mg base CX k fa fd [x] sp) (hbind : ∀ (s : Shared) (u : Value), BindsTo s fd ⟨[u], []⟩ [(x, u)])
    (hsp : ∀ H : Hp, Only H → SqL K H a (ns.map V.int) → sp [.ref a] H (fun v _ => v = .bl true) fun _ _ _ => False)
    (hCX : ∀ H e s', CX [] H s₁ (fun _ _ _ => False) e s' → False) :
    codeAny (model P w) callerA (.call (.ref fa) ⟨[.ref a], []⟩) (fun r s' => r = .ok (.ret (.bool true)) ∧ OldK s₁.heap s'.heap ∧ s'.os = s₁.os ∧ AllBare s'.gens) s₁ := by
  have rv := vals_ints hi
  have lenV := hi.length
  -- at an abstract heap that tracks the script alone, or nothing
  have go : ∀ H : Hp, Only H → SqL K H a (ns.map V.int) → HOk P w H s₁.heap → (∀ b, H b ≠ none → b = a ∧ K.lookup a = none) →
      codeAny (model P w) callerA (.call (.ref fa) ⟨[.ref a], []⟩) (fun r s' => r = .ok (.ret (.bool true)) ∧ OldK s₁.heap s'.heap ∧ s'.os = s₁.os ∧ AllBare s'.gens) s₁ := fun H hO hS hok hA => by
    have dictFree : ∀ {b : Addr} {o : Obj} {es : Array DictEntry} {ep : Nat}, s₁.heap.get? b = some o → o.data = .dict es ep → H b = none := fun {b o es ep} e d => by
      cases q : H b with
      | none => rfl
      | some u =>
        obtain ⟨e', _⟩ := hA b (by rw [q]; simp)
        subst e'
        rw [ha] at e
        cases e
        exact nomatch (show Data.seq vs.toArray _ = Data.dict es ep from d)
    have ns' : ∀ {b : Addr} {m : Str → Option Value}, s₁.heap.Ns b m → (hidT s₁.heap H).Ns b m := fun {b m} ⟨o, es, ep, e, d, r⟩ => ⟨o, es, ep, hidT_get e (dictFree e d), d, r⟩
    have inB : K.In (hidT s₁.heap H) := fun b o e => hidT_get (inK b o e) (by
      cases q : H b with
      | none => rfl
      | some u =>
        obtain ⟨e', n⟩ := hA b (by rw [q]; simp)
        subst e'
        rw [n] at e
        cases e)
    obtain ⟨mc, c1, c2⟩ := hlim
    have e0 : Env0 P w K mg (hidT s₁.heap H) callerA [] s₁ H :=
      ⟨rfl, ⟨inB, ns' hns, ⟨mb, ns' hb, hbb⟩, ⟨mc, ns' c1, c2⟩⟩, fun b o e => of_hidT e, Nat.le_of_eq (hidT_size _ _), trivial, fun b hb => absurd (show b ∈ ([] : List Addr) from hb) (by simp), hok, .of_eq hg⟩
    refine codeAny_mono ((F _ inB (ns' hns)).run callerA [] s₁ H ⟨[.ref a], []⟩ [.ref a] [.ref a] _ _ rfl hr e0 (hbind s₁ (.ref a)) (.cons rfl .nil) (hsp H hO hS)) fun r s' h => ?_
    have h2 : ∃ u, r = .ok (.ret u) ∧ CE [] P w H s₁ (fun v _ => v = .bl true) u s' := by
      rcases r with e | fl
      · exact (hCX H e s' h).elim
      · rcases fl with _ | u | _ | _
        all_goals first | exact ⟨_, rfl, h⟩ | exact (show False from h).elim
    · obtain ⟨u, rfl, h⟩ := h2
      obtain ⟨v, H', os, bare, un, hok', r', q⟩ := h
      cases q
      cases r'
      refine ⟨rfl, OldK.of_keep fun b o e => ?_, os, bare⟩
      cases q : H b with
      | none => exact un.keep b o e q (fun z => nomatch z) (by simp)
      | some u =>
        rcases hO b with z | ⟨ob, xs, z⟩
        · rw [q] at z
          cases z
        · obtain ⟨e1, _⟩ := hok b _ z
          obtain ⟨e2, _⟩ := hok' b _ (un.frzs b ob _ z)
          rw [e] at e1
          cases e1
          exact e2
  cases hk : K.lookup a with
  | some o =>
    have e := inK a o hk
    rw [ha] at e
    cases e
    exact go (fun _ => none) (fun _ => .inl rfl) (.inr ⟨_, vs.toArray, _, hk, rfl, rfl, rfl, by rw [List.size_toArray, lenV]; exact hl, by simpa using rv⟩) (fun b u z => nomatch (show (none : Option HO) = some u from z)) fun b z => absurd rfl z
  | none =>
    refine go (fun b => if b = a then some (.frz { cls := .type "list", data := .seq vs.toArray } (.lst (ns.map V.int))) else none) (fun b => ?_) (.inl (.inr ⟨{ cls := .type "list", data := .seq vs.toArray }, if_pos rfl⟩)) (fun b u z => ?_) fun b z => ?_
    · by_cases e : b = a
      · exact .inr ⟨_, _, if_pos e⟩
      · exact .inl (if_neg e)
    · by_cases e : b = a
      · subst e
        have z : some (HO.frz { cls := .type "list", data := .seq vs.toArray } (.lst (ns.map V.int))) = some u := by rw [← z]; exact (if_pos rfl).symm
        cases z
        exact ⟨ha, by rw [List.length_map]; exact hl, vs, _, rv, ha⟩
      · have z2 := (if_neg e).symm.trans z
        cases z2
    · by_cases e : b = a
      · exact ⟨e, hk⟩
      · exact absurd (if_neg e) z
theorem cx_false {P : Program} {w : World} {H : Hp} {s : Shared} {e : Value} {s' : Shared} (h : L2.CX P w [] H s (fun _ _ _ => False) e s') : False := by
  obtain ⟨_, _, _, _, _, _, _, _, _, _, _, _, z⟩ := h
  exact z
theorem walk_ofG {l : PySem.W.OpenLaw} {n k : Nat} {q : Program} {loose : List Str} {XP : (Str → Option Value) → Heap → Prop} {YP : World → Heap → Prop} {d : DefRec} {CX : World → CXT} {x : Str}
    (hn : l.most = some n) (hn2 : n ≤ sizeLine) (hdf : d.params.defaults = []) (hr : Room k callerA)
    (F : ∀ (w : World) (mg : Str → Option Value) (fa : Addr) (h : Heap), YP w h → h.Ns mainGlobals mg → mg d.name = some (.ref fa) →
      ∃ (K : PySem.W.Frag) (fd : FuncData) (sp : Sp), K.In h ∧ (∀ (s : Shared) (u : Value), BindsTo s fd ⟨[u], []⟩ [(x, u)]) ∧
        (∀ (H : Hp) (a : Addr) (ns : List Int), ns.length ≤ n → Only H → SqL K H a (ns.map V.int) → sp [.ref a] H (fun v _ => v = .bl true) fun _ _ _ => False) ∧
        ∀ base : Heap, K.In base → base.Ns mainGlobals mg → FnOkG l.prog w K mg base (CX w) k fa fd [x] sp)
    (hCX : ∀ (w : World) (H : Hp) (s : Shared) (e : Value) (s' : Shared), CX w [] H s (fun _ _ _ => False) e s' → False) :
    PySem.W.WalkO q loose XP YP l.row.toRowW d [] (fun f vs => PySem.call f vs) := by
  refine Att.attach_call hn hdf fun w s₀ s₁ mg mb fa o pm cd doc a vs ns G Y ho hd hcd hmg hobj hints hlen hg => ?_
  obtain ⟨K, fd, sp, inK, hb, hsp, hF⟩ := F w mg fa _ Y G.T.g hmg
  exact lawG_call inK G.T.g G.T.b G.T.builtins G.T.nolimit hg hobj hints (Nat.le_trans hlen hn2) hr hF hb (fun H hO hS => hsp H a ns hlen hO hS) fun H e s' => hCX w H s₁ e s'
end Ev

set_option Elab.async false
set_option linter.all false
set_option maxRecDepth 100000
set_option maxHeartbeats 2000000
/-! The law's def by its core; the table by the head's facts. -/
namespace Ev
open PySem PySem.Spec PyProof.Rows L2
def Prg.cfgL (P : Prg) (r : FRec) : Cfg := { P.cfg r with rp := true }
def Prg.coreL (P : Prg) (r : FRec) : Option Sb := trB (trS (tr P.fuel) r.S (P.cfgL r) P.fuel) (defBody r.st)
def runL (P : Prg) (r : FRec) (Wn k : Nat) (ds : List D) : M D := M.bnd (exs (runF P.T Wn k) Wn r.body (startE ⟨r.ps.length, r.N.length, r.body⟩ ds)) fun f => match f with
  | .rt d => M.ret d
  | .nx _ => M.ret .non
  | .ct _ => M.bad
section
variable {P : Program} {w : World} {K : PySem.W.Frag} {mg : Str → Option Value} {base : Heap}
theorem law_okG {Pg : Prg} {ca : Nat → Value} {Wn : Nat} (tb : Tab Pg K mg ca) (gd : Pg.Good) (k : Nat) {r : FRec} {g : Addr} {fd : FuncData} (sc : FnScope r.N r.ps (defScope r.st)) (co : Pg.coreL r = some r.body) (F : L2.Fun K r.name r.name r.st g fd) :
    FnOkG P w K mg base (L2.CX P w) (k + 5) g fd r.ps (spF K ca r.ps.length (runL Pg r Wn k)) := by
  refine fnG_of F sc (fun vs H Q E h => ?_) (fun cdv A outer s H vs Q E hg hr h => ?_)
  · obtain ⟨ds, S, G, ρ, hl, _, rr, _⟩ := h
    rw [rr.length, hl]
  · generalize hX : cxOf (L2.CX P w) P w K mg base r.N r.name (defScope r.st) g cdv A outer s H E = X
    have o : Ok X (Pg.cfgL r) ca (runF Pg.T Wn k) (fun cls d _ H => E cls d H) := by
      subst hX
      refine ⟨rfl, sc.nd, rfl, rfl, fun _ _ => rfl, takes_of rfl rfl rfl rfl, hr.units, tb.con, tb.blt, fun x f np hx => ?_, fun _ => hg, hr.mono (by omega), tb.ex⟩
      obtain ⟨j, r', hj, h1, h2, h3⟩ := tabOf_mem (PySem.mem_of_lookup hx)
      rw [Nat.zero_add] at hj
      subst hj h2 h3
      obtain ⟨g', fd', m1, m2, m3, m4⟩ := tb.fn f r' h1
      exact ⟨k + 4, g', fd', r'.ps, m1, m2.kp, m3, rfl, all_ok tb gd k f r' g' fd' h1 m2, hr, m4⟩
    have hp : PassesOwn (model X.prog X.w) X.A X.env X.xe := by
      subst hX
      exact passes_of rfl
    have hstk : X.stack = X.env :: X.outer := by subst hX; rfl
    have hfrm : X.env.frame = some X.env.locals := by subst hX; rfl
    obtain ⟨ds, S, G, ρ, hl, hd, rr, q⟩ := h
    have hle : r.ps.length ≤ r.N.length := by
      have := congrArg List.length sc.pre
      rw [List.length_take] at this
      omega
    have body := fun (B : Bse) (hT : ∀ i, B.T i = true) => trB_ok (B := B) (Wn := Wn) (trS_ok (tr_ok Pg.fuel) hT sc.kind Pg.fuel o hp hstk hfrm) co
    refine ⟨_, body ⟨H, G, ρ, startE ⟨r.ps.length, r.N.length, r.body⟩ ds, fun _ => true⟩ (fun _ => rfl), ?_⟩
    have hK : X.K = K := by subst hX; rfl
    have rl := start_rl (fn := ⟨r.ps.length, r.N.length, r.body⟩) (N := r.N) rfl hl.symm (by rw [hl]; exact hle) hd rr
    refine ⟨_, S, G, ρ, by rw [hK]; exact rl, ?_⟩
    rw [hK]
    unfold runL M.bnd at q
    cases e : exs (runF Pg.T Wn k) Wn r.body (startE ⟨r.ps.length, r.N.length, r.body⟩ ds) S with
    | bad => rw [e] at q; exact q
    | exc x S' =>
      rw [e] at q
      exact fun env' σ' H' G' ρ' rl' _ cls dx xr => q H' G' ρ' rl'.x rl'.toHold cls dx xr
    | ok fl S' =>
      rw [e] at q
      cases fl with
      | rt d => exact fun v H' G' ρ' x hd' r' _ => q v H' G' ρ' x hd' r'
      | nx env' => exact fun σ' H' G' ρ' rl' _ => q .non H' G' ρ' rl'.x rl'.toHold rfl
      | ct env' => exact q.elim
theorem reps_ints {G : Hp} {ρ : List Addr} : ∀ ns : List Int, Reps K G ρ (ns.map D.int) (ns.map V.int)
  | [] => .nil
  | n :: ns => .cons rfl (reps_ints ns)
/-- the law, by its evaluator's run -/
theorem law_sp {Pg : Prg} {ca : Nat → Value} {Wn k n : Nat} {r : FRec} (hn : n ≤ LIM) (h : ∀ ns : List Int, ns.length ≤ n → ∃ S', runL Pg r Wn k [.lst (ns.map .int)] [] = .ok (.bl true) S') (H : Hp) (a : Addr) (ns : List Int) (hl : ns.length ≤ n) (hS : SqL K H a (ns.map V.int)) :
    spF K ca 1 (runL Pg r Wn k) [.ref a] H (fun v _ => v = .bl true) fun _ _ _ => False := by
  refine ⟨[.lst (ns.map .int)], [], H, [], rfl, ⟨fun _ _ e => e, rfl, List.nodup_nil, fun n c e => by simp at e⟩, .cons ⟨by rw [List.length_map]; omega, a, _, rfl, hS, reps_ints ns⟩ .nil, ?_⟩
  obtain ⟨S', e⟩ := h ns hl
  rw [e]
  exact fun v H' G' ρ' x hd r => r
/-! ### the table, by the head's facts -/
def FRec.dd (r : FRec) : He.DefD := ⟨(r.name, none), r.name, r.name, defArgs r.st, defBody r.st, defScope r.st, [], []⟩
/-- the facts of the classes of errors -/
def exmFa (L : List XRec) (r : XRec) : Nat → List XRec → List He.Fa
  | _, [] => []
  | j, q :: qs => .exm q.name r.name (r.cs.contains j) :: exmFa L r (j + 1) qs
def Prg.exFa (P : Prg) : List He.Fa := (P.ex.map fun r => He.Fa.glo r.name) ++ (P.ex.map fun r => He.Fa.exc r.name) ++ P.ex.flatMap fun r => exmFa P.ex r 0 P.ex
/-- where the class stands -/
def Prg.ca (P : Prg) (K : PySem.W.Frag) (i : Nat) : Value := match P.ex[i]? with
  | some r => .ref (He.ga K r.name)
  | none => .none
theorem exmFa_mem {L : List XRec} {r : XRec} : ∀ {l : List XRec} {k j : Nat} {q : XRec}, l[j]? = some q → He.Fa.exm q.name r.name (r.cs.contains (k + j)) ∈ exmFa L r k l
  | [], _, _, _, h => by cases h
  | x :: l, k, 0, q, h => by
    cases h
    exact List.mem_cons_self ..
  | x :: l, k, j + 1, q, h => by
    have := exmFa_mem (L := L) (r := r) (k := k + 1) (j := j) (l := l) (q := q) h
    rw [show k + 1 + j = k + (j + 1) by omega] at this
    exact List.mem_cons_of_mem _ this
theorem xcK_of {P : Prg} {K : PySem.W.Frag} {h : Heap} {mg : Str → Option Value} {fa : List He.Fa} {fn : List He.DefD} (inK : K.In h) (G : h.Ns mainGlobals mg) (c : He.SaysD fa fn K) (hf : ∀ f ∈ P.exFa, f ∈ fa) (hn : ∀ r ∈ P.ex, r.fld = none) (i : Nat) (r : XRec) (e : P.ex[i]? = some r) : XcK K mg (P.ca K) P.ex.length i r := by
  have says : ∀ {f : He.Fa}, f ∈ P.exFa → f.ok K = true := fun {f} m => by
    obtain ⟨i, hi⟩ := List.mem_iff_getElem?.mp (hf f m)
    exact c.fact i hi
  have hm := List.mem_of_getElem? e
  have ci : ∀ {j : Nat} {q : XRec}, P.ex[j]? = some q → P.ca K j = .ref (He.ga K q.name) := fun {j q} z => by
    unfold Prg.ca
    rw [z]
  refine ⟨He.ga K r.name, ci e, He.glo_ok inK G (says (List.mem_append_left _ (List.mem_append_left _ (List.mem_map_of_mem hm)))), fun j hj => ?_, ?_⟩
  · obtain ⟨q, hq⟩ : ∃ q, P.ex[j]? = some q := ⟨_, List.getElem?_eq_getElem hj⟩
    rw [ci hq]
    have m := exmFa_mem (L := P.ex) (r := r) (k := 0) hq
    rw [Nat.zero_add] at m
    exact He.exm_ok (says (List.mem_append_right _ (List.mem_flatMap.mpr ⟨r, hm, m⟩)))
  · rw [hn r hm]
    exact He.exc_ok (says (List.mem_append_left _ (List.mem_append_right _ (List.mem_map_of_mem hm))))
def Prg.fa (P : Prg) : List He.Fa := P.exFa ++ (P.fs.map fun r => He.Fa.glo r.name) ++ (P.con.filterMap fun y => match y.2 with
  | .int i => some (He.Fa.int y.1 i)
  | .str z => some (He.Fa.str y.1 z)
  | _ => none) ++ P.blt.map He.Fa.free
/-- how arguments are bound, def by def -/
def BdOk (P : Prg) (r : FRec) : Prop := ∀ (K : PySem.W.Frag) (g : Addr) (fd : FuncData), L2.FunD K r.name r.name (defArgs r.st) (defBody r.st) (defScope r.st) [] [] g fd → Binds K fd r.ps [] ∧ ∀ ks pm, (r.name, ks, pm) ∈ P.kws → KW0 K fd r.ps ks pm
theorem kwNone {K : PySem.W.Frag} {P : Prg} {x : Str} {fd : FuncData} {ps : List Str} (h : (P.kws.all fun y => !(y.1 == x)) = true) : ∀ ks pm, (x, ks, pm) ∈ P.kws → KW0 K fd ps ks pm := fun ks pm m => by
  have := List.all_eq_true.mp h _ m
  rw [show (x == x) = true from beq_self_eq_true x] at this
  cases this
theorem kwOf {x : Str} {ks : List Str} {pm : List Nat} {L : List (Str × (List Str × List Nat))} (h : (x, ks, pm) ∈ L) : (x, ks, pm) ∈ L := h
theorem kwBind {K : PySem.W.Frag} {x qual : Str} {params : Arguments} {body : List Stmt} {scope : Scope} {f : Addr} {fd : FuncData} {ps ks : List Str} {pm : List Nat} (F : L2.FunD K x qual params body scope [] [] f fd)
    (h : ∀ (kV doc pv : Value) (an : Option Addr) (cdv ct : Value) (ws : List Value), ws.length = ks.length → bindArgs (PySem.W.fnOf x qual params body scope .none kV doc pv an cdv ct) ⟨[], ks.zip ws⟩ = pure (ps.zip (pm.map fun i => ws.getD i .none))) : KW0 K fd ps ks pm := by
  obtain ⟨oc, od, dV, kV, doc, pv, an, cdv, ct, osl, rfl, lk, hcd, hD, hK⟩ := F.ex
  rcases hD with ⟨_, rfl⟩ | ⟨e, _⟩
  · exact fun s ws _ hl => .of_eq (h kV doc pv an cdv ct ws hl)
  · exact absurd rfl e
theorem saysF {fa : List He.Fa} {fn : List He.DefD} (c : He.SaysD fa fn K) {f : He.Fa} (h : f ∈ fa) : f.ok K = true := by
  obtain ⟨i, hi⟩ := List.mem_iff_getElem?.mp h
  exact c.fact i hi
theorem saysD {fa : List He.Fa} {fn : List He.DefD} (c : He.SaysD fa fn K) {r : FRec} (h : r.dd ∈ fn) : ∃ fd, L2.FunD K r.name r.name (defArgs r.st) (defBody r.st) (defScope r.st) [] [] (He.fAd K (r.name, none)) fd := by
  obtain ⟨i, hi⟩ := List.mem_iff_getElem?.mp h
  obtain ⟨fd, F⟩ := c.def_ i (d := r.dd) hi
  exact ⟨fd, F⟩
theorem tab_of {Pg : Prg} {h : Heap} {fa : List He.Fa} {fn : List He.DefD} (inK : K.In h) (G : h.Ns mainGlobals mg) (c : He.SaysD fa fn K) (h1 : ∀ f ∈ Pg.fa, f ∈ fa) (h2 : ∀ r ∈ Pg.fs, r.dd ∈ fn) (bd : ∀ r ∈ Pg.fs, BdOk Pg r)
    (hx : ∀ r ∈ Pg.ex, r.fld = none) (hc : ∀ y ∈ Pg.con, (match y.2 with | .int _ => true | .str _ => true | _ => false) = true) : Tab Pg K mg (Pg.ca K) where
  fn := fun i r hi => by
    have hm := List.mem_of_getElem? hi
    obtain ⟨fd, F⟩ := saysD c (h2 r hm)
    obtain ⟨b1, b2⟩ := bd r hm K _ fd F
    refine ⟨_, fd, ?_, He5.fun_of F, b1, b2⟩
    exact He.glo_ok inK G (saysF c (h1 _ (List.mem_append_left _ (List.mem_append_left _ (List.mem_append_right _ (List.mem_map_of_mem hm))))))
  con := fun x d hl => by
    have hm := PySem.mem_of_lookup hl
    have z := hc _ hm
    have inF : ∀ f, (match d with
      | .int i => some (He.Fa.int x i)
      | .str z => some (He.Fa.str x z)
      | _ => none) = some f → f ∈ fa := fun f e => h1 _ (List.mem_append_left _ (List.mem_append_right _ (List.mem_filterMap.mpr ⟨_, hm, e⟩)))
    cases d with
    | int i =>
      obtain ⟨t, e⟩ := He.int_ok inK G (saysF c (inF _ rfl))
      exact ⟨.int i, _, e, ⟨t, rfl⟩, fun _ _ => rfl⟩
    | str y =>
      obtain ⟨t, e⟩ := He.str_ok inK G (saysF c (inF _ rfl))
      exact ⟨.str y, _, e, ⟨t, rfl⟩, fun _ _ => rfl⟩
    | _ => cases z
  ex := xcK_of inK G c (fun f m => h1 f (List.mem_append_left _ (List.mem_append_left _ (List.mem_append_left _ m)))) hx
  blt := fun x hx => He.free_ok inK G (saysF c (h1 _ (List.mem_append_right _ (List.mem_map_of_mem hx))))
end
end Ev

set_option Elab.async false
set_option linter.all false
set_option maxRecDepth 100000
namespace Lw
open PySem Ev
def bd_is_integer : Sb := (.cons (.ret (.and (.isi (.var 0) [.int]) (.not (.isi (.var 0) [.bool])))) .nil)
def bd_is_between : Sb := (.cons (.ret (.and (.call 0 (.cons (.take 1) .nil)) (.chain .le .le (.var 0) (.var 1) (.var 2)))) .nil)
def bd_is_tuple_of : Sb := (.cons (.ret (.and (.isi (.var 1) [.tup]) (.cmp .eq (.bi .len (.cons (.var 1) .nil)) (.var 0)))) .nil)
def bd_is_word : Sb := (.cons (.ret (.and (.isi (.var 0) [.str]) (.and (.chain .le .le (.con (.int 1)) (.bi .len (.cons (.var 0) .nil)) (.con (.int 8))) (.bi .all (.cons (.comp (.cmp .in_ (.var 1) (.con (.str "abcdefghijklmnopqrstuvwxyz"))) [1] false (.seq (.var 0)) .no [1]) .nil))))) .nil)
def bd_are_kinds : Sb := (.cons (.ret (.and (.isi (.var 0) [.tup]) (.and (.cmp .le (.bi .len (.cons (.var 0) .nil)) (.con (.int 4))) (.bi .all (.cons (.comp (.call 3 (.cons (.take 1) .nil)) [1] false (.seq (.var 0)) .no [1]) .nil))))) .nil)
def lp_is_stock_0 : Sb := (.cons (.ife (.or (.not (.call 2 (.cons (.con (.int 3)) (.cons (.take 1) .nil)))) (.or (.not (.call 3 (.cons (.ix (.var 1) (.con (.int 0))) .nil))) (.or (.not (.call 4 (.cons (.ix (.var 1) (.con (.int 1))) .nil))) (.not (.call 4 (.cons (.ix (.var 1) (.con (.int 2))) .nil)))))) (.cons (.ret (.con (.bl false))) .nil) .nil) .nil)
def bd_is_stock : Sb := (.cons (.ife (.or (.not (.isi (.var 0) [.tup])) (.not (.chain .le .le (.con (.int 1)) (.bi .len (.cons (.var 0) .nil)) (.con (.int 12))))) (.cons (.ret (.con (.bl false))) .nil) .nil) (.cons (.for_ [1] false (.seq (.take 0)) lp_is_stock_0) (.cons (.ret (.cmp .eq (.bi .lenset (.cons (.comp (.take 2) [2, 3, 4] true (.seq (.var 0)) .no [2, 3, 4]) .nil)) (.bi .len (.cons (.var 0) .nil)))) .nil)))
def bd_check_stock : Sb := (.cons (.ife (.not (.call 5 (.cons (.take 0) .nil))) (.cons (.rais 1) .nil) .nil) .nil)
def bd_sorts_in : Sb := (.cons (.ret (.dcomp (.take 1) (.tup (.cons (.take 2) (.cons (.take 3) .nil))) [1, 2, 3] true (.seq (.var 0)) .no [1, 2, 3])) .nil)
def bd_are_wires : Sb := (.cons (.ret (.and (.isi (.var 1) [.tup]) (.bi .all (.cons (.comp (.call 1 (.cons (.con (.int 0)) (.cons (.take 2) (.cons (.bin .sub (.bi .len (.cons (.var 0) .nil)) (.con (.int 1))) .nil)))) [2] false (.seq (.var 1)) .no [2]) .nil)))) .nil)
def bd_kinds_at : Sb := (.cons (.ret (.totup (.seq (.comp (.ix (.var 0) (.var 2)) [2] false (.seq (.var 1)) .no [2])))) .nil)
def bd_has_form : Sb := (.cons (.ife (.or (.not (.call 2 (.cons (.con (.int 3)) (.cons (.take 1) .nil)))) (.or (.not (.call 3 (.cons (.ix (.var 1) (.con (.int 0))) .nil))) (.or (.not (.call 8 (.cons (.take 0) (.cons (.ix (.var 1) (.con (.int 1))) .nil)))) (.not (.call 8 (.cons (.take 0) (.cons (.ix (.var 1) (.con (.int 2))) .nil))))))) (.cons (.ret (.con (.bl false))) .nil) .nil) (.cons (.ret (.and (.cmp .le (.bi .len (.cons (.ix (.var 1) (.con (.int 1))) .nil)) (.con (.int 4))) (.cmp .le (.bi .len (.cons (.ix (.var 1) (.con (.int 2))) .nil)) (.con (.int 4))))) .nil))
def lp_boxes_fault_0 : Sb := (.cons (.ife (.not (.call 10 (.cons (.take 0) (.cons (.take 5) .nil)))) (.cons (.ret (.take 4)) .nil) .nil) (.cons (.asg 6 (.tup (.cons (.call 9 (.cons (.take 0) (.cons (.ix (.var 5) (.con (.int 1))) .nil))) (.cons (.call 9 (.cons (.take 0) (.cons (.ix (.var 5) (.con (.int 2))) .nil))) .nil)))) (.cons (.ife (.and (.isn (.var 2) true) (.and (.cmp .nin (.ix (.var 5) (.con (.int 0))) (.var 3)) (.cmp .lt (.bi .len (.cons (.var 3) .nil)) (.con (.int 12))))) (.cons (.setix 3 (.ix (.var 5) (.con (.int 0))) (.take 6)) .nil) .nil) (.cons (.ife (.or (.cmp .nin (.ix (.var 5) (.con (.int 0))) (.var 3)) (.cmp .ne (.ix (.var 3) (.ix (.var 5) (.con (.int 0)))) (.var 6))) (.cons (.ret (.take 4)) .nil) .nil) .nil))))
def bd_boxes_fault : Sb := (.cons (.own 3 (.ite (.isn (.var 2) true) .dnew (.dcopy (.take 2)))) (.cons (.for_ [4, 5] true (.enum (.take 1)) lp_boxes_fault_0) (.cons (.ret (.con .non)) .nil)))
def bd_wires_fault : Sb := (.cons (.ife (.not (.isi (.var 0) [.tup])) (.cons (.ret (.tup (.cons (.con (.int 0)) .nil))) .nil) .nil) (.cons (.asg 1 (.comp (.take 2) [2, 3] true (.enum (.var 0)) (.yes (.not (.call 3 (.cons (.take 3) .nil)))) [2, 3])) (.cons (.ret (.ite (.cmp .ne (.var 1) (.lst .nil)) (.tup (.cons (.con (.int 0)) (.cons (.ix (.var 1) (.con (.int 0))) .nil))) (.con .non))) .nil)))
def bd_ends_fault : Sb := (.cons (.ife (.not (.isi (.var 2) [.tup])) (.cons (.ret (.tup (.cons (.take 1) .nil))) .nil) .nil) (.cons (.asg 3 (.comp (.take 4) [4, 5] true (.enum (.var 2)) (.yes (.not (.call 1 (.cons (.con (.int 0)) (.cons (.take 5) (.cons (.bin .sub (.bi .len (.cons (.var 0) .nil)) (.con (.int 1))) .nil)))))) [4, 5])) (.cons (.ret (.ite (.cmp .ne (.var 3) (.lst .nil)) (.tup (.cons (.take 1) (.cons (.ix (.var 3) (.con (.int 0))) .nil))) (.con .non))) .nil)))
def bd_fault_by : Sb := (.cons (.ife (.not (.call 2 (.cons (.con (.int 4)) (.cons (.take 1) .nil)))) (.cons (.ret (.tup .nil)) .nil) .nil) (.cons (.unp [2, 3, 4, 5] (.take 1)) (.cons (.asg 6 (.call 12 (.cons (.take 2) .nil))) (.cons (.ife (.and (.isn (.var 6) true) (.not (.isi (.var 3) [.tup]))) (.cons (.asg 6 (.tup (.cons (.con (.int 1)) .nil))) .nil) .nil) (.cons (.ife (.isn (.var 6) true) (.cons (.asg 7 (.call 11 (.cons (.take 2) (.cons (.take 3) (.cons (.take 0) .nil))))) (.cons (.asg 6 (.ite (.isn (.var 7) true) (.con .non) (.tup (.cons (.con (.int 1)) (.cons (.take 7) .nil))))) .nil)) .nil) (.cons (.ife (.isn (.var 6) true) (.cons (.asg 6 (.call 13 (.cons (.take 2) (.cons (.con (.int 2)) (.cons (.take 4) .nil))))) .nil) .nil) (.cons (.ret (.ite (.isn (.var 6) true) (.call 13 (.cons (.take 2) (.cons (.con (.int 3)) (.cons (.take 5) .nil)))) (.take 6))) .nil)))))))
def bd_web_fault : Sb := (.cons (.ex (.call 6 (.cons (.take 0) .nil))) (.cons (.ret (.call 14 (.cons (.call 7 (.cons (.take 0) .nil)) (.cons (.take 1) .nil)))) .nil))
def bd_is_web : Sb := (.cons (.ret (.isn (.call 15 (.cons (.take 0) (.cons (.take 1) .nil))) true)) .nil)
def lp__law_spring_0 : Sb := (.cons (.asg 2 (.bin .mod (.bi .int_ (.cons (.bin .add (.bin .add (.bin .mul (.var 2) (.con (.int 982451653))) (.bin .mul (.var 3) (.con (.int 49979687)))) (.con (.int 32452843))) .nil)) (.con (.int 2305843009213693951)))) .nil)
def bd__law_spring : Sb := (.cons (.asg 1 (.newc (.comp (.bin .sub (.var 3) (.bin .pow (.con (.int 10)) (.con (.int 18)))) [3] false (.seq (.var 0)) (.yes (.cmp .ge (.var 3) (.bin .pow (.con (.int 10)) (.con (.int 18))))) [3]))) (.cons (.asg 2 (.bin .add (.con (.int 15485863)) (.bin .mul (.con (.int 2)) (.bi .len (.cons (.var 0) .nil))))) (.cons (.for_ [3] false (.seq (.take 0)) lp__law_spring_0) (.cons (.ret (.newc (.lst (.cons (.take 1) (.cons (.take 2) (.cons (.con (.int 0)) .nil)))))) .nil))))
def lp__law_drop_0 : Sb := (.cons (.pop 2 (.con (.int 0))) .nil)
def bd__law_drop : Sb := (.cons (.asg 2 (.ix (.var 0) (.con (.int 0)))) (.cons (.whl (.and (.cmp .ne (.var 2) (.lst .nil)) (.cmp .eq (.ix (.var 2) (.con (.int 0))) (.con (.int 0)))) lp__law_drop_0) (.cons (.ife (.cmp .ne (.var 2) (.lst .nil)) (.cons (.asg 3 (.bin .mod (.bi .int_ (.cons (.ix (.var 2) (.con (.int 0))) .nil)) (.var 1))) (.cons (.setix 2 (.con (.int 0)) (.bin .fdiv (.ix (.var 2) (.con (.int 0))) (.var 1))) (.cons (.ret (.take 3)) .nil))) .nil) (.cons (.setix 0 (.con (.int 2)) (.bin .add (.ix (.var 0) (.con (.int 2))) (.con (.int 1)))) (.cons (.setix 0 (.con (.int 1)) (.bin .mod (.bi .int_ (.cons (.bin .add (.bin .mul (.ix (.var 0) (.con (.int 1))) (.con (.int 6364136223846793005))) (.bin .mul (.ix (.var 0) (.con (.int 2))) (.con (.int 1442695040888963407)))) .nil)) (.con (.int 2305843009213693951)))) (.cons (.ret (.bin .mod (.bin .fdiv (.bin .mod (.bi .int_ (.cons (.bin .mul (.ix (.var 0) (.con (.int 1))) (.ix (.var 0) (.con (.int 1)))) .nil)) (.con (.int 2305843009213693921))) (.con (.int 1048576))) (.var 1))) .nil))))))
def bd__law_kinds : Sb := (.cons (.asg 1 (.lst (.cons (.isi (.var 0) [.bool]) (.cons (.isi (.var 0) [.int]) (.cons (.isi (.var 0) [.str]) .nil))))) (.cons (.ret (.bin .add (.var 1) (.lst (.cons (.isi (.var 0) [.tup]) (.cons (.isi (.var 0) [.lst]) (.cons (.isn (.var 0) true) .nil)))))) .nil))
def bd__law_alike : Sb := (.cons (.ife (.cmp .ne (.call 19 (.cons (.take 0) .nil)) (.call 19 (.cons (.take 1) .nil))) (.cons (.ret (.con (.bl false))) .nil) .nil) (.cons (.ife (.isi (.var 1) [.tup, .lst]) (.cons (.ret (.and (.cmp .eq (.bi .len (.cons (.var 0) .nil)) (.bi .len (.cons (.var 1) .nil))) (.bi .all (.cons (.comp (.call 20 (.cons (.ix (.var 0) (.var 2)) (.cons (.ix (.var 1) (.var 2)) .nil))) [2] false (.rng (.bi .len (.cons (.var 1) .nil))) .no [2]) .nil)))) .nil) .nil) (.cons (.ret (.cmp .eq (.var 0) (.var 1))) .nil)))
def lp__law_words_0 : Sb := (.cons (.asg 4 (.ix (.lst (.cons (.con (.int 1)) (.cons (.con (.int 1)) (.cons (.con (.int 2)) (.cons (.con (.int 8)) .nil))))) (.call 18 (.cons (.take 0) (.cons (.con (.int 4)) .nil))))) (.cons (.asg 5 (.join (.con (.str "")) (.comp (.ix (.con (.str "abcdefghijklmnopqrstuvwxyz")) (.call 18 (.cons (.take 0) (.cons (.ix (.lst (.cons (.con (.int 3)) (.cons (.con (.int 26)) .nil))) (.call 18 (.cons (.take 0) (.cons (.con (.int 2)) .nil)))) .nil)))) [6] false (.rng (.var 4)) .no [6]))) (.cons (.ife (.cmp .in_ (.var 5) (.var 2)) (.cons (.asg 5 (.bin .mul (.ix (.con (.str "xyzuvwrstopq")) (.var 3)) (.con (.int 5)))) .nil) .nil) (.cons (.app 2 (.take 5)) .nil))))
def bd__law_words : Sb := (.cons (.own 2 (.lst .nil)) (.cons (.for_ [3] false (.rng (.take 1)) lp__law_words_0) (.cons (.ret (.totup (.seq (.var 2)))) .nil)))
def lp__law_stock_0 : Sb := (.cons (.app 5 (.totup (.seq (.comp (.ix (.var 2) (.call 18 (.cons (.take 0) (.cons (.bi .len (.cons (.var 2) .nil)) .nil)))) [7] false (.rng (.ix (.lst (.cons (.con (.int 0)) (.cons (.con (.int 1)) (.cons (.con (.int 1)) (.cons (.con (.int 2)) (.cons (.con (.int 2)) (.cons (.con (.int 3)) (.cons (.con (.int 4)) .nil)))))))) (.call 18 (.cons (.take 0) (.cons (.con (.int 7)) .nil))))) .no [7])))) .nil)
def lp__law_stock_1 : Sb := (.cons (.own 5 (.lst .nil)) (.cons (.for_ [6] false (.rng (.con (.int 2))) lp__law_stock_0) (.cons (.app 3 (.tup (.cons (.take 4) (.cons (.ix (.var 5) (.con (.int 0))) (.cons (.ix (.var 5) (.con (.int 1))) .nil))))) .nil)))
def bd__law_stock : Sb := (.cons (.asg 2 (.call 21 (.cons (.take 0) (.cons (.bin .add (.con (.int 1)) (.call 18 (.cons (.take 0) (.cons (.con (.int 3)) .nil)))) .nil)))) (.cons (.own 3 (.lst .nil)) (.cons (.for_ [4] false (.seq (.call 21 (.cons (.take 0) (.cons (.bin .add (.con (.int 1)) (.call 18 (.cons (.take 0) (.cons (.take 1) .nil)))) .nil)))) lp__law_stock_1) (.cons (.ret (.totup (.seq (.var 3)))) .nil))))
def lp__law_pick_0 : Sb := (.cons (.asg 5 (.comp (.take 6) [6] false (.rng (.bi .len (.cons (.var 1) .nil))) (.yes (.cmp .eq (.ix (.var 1) (.var 6)) (.var 4))) [6])) (.cons (.ife (.cmp .eq (.var 5) (.lst .nil)) (.cons (.ret (.con .non)) .nil) .nil) (.cons (.app 3 (.ix (.var 5) (.call 18 (.cons (.take 0) (.cons (.bi .len (.cons (.var 5) .nil)) .nil))))) .nil)))
def bd__law_pick : Sb := (.cons (.own 3 (.lst .nil)) (.cons (.for_ [4] false (.seq (.take 2)) lp__law_pick_0) (.cons (.ret (.totup (.seq (.var 3)))) .nil)))
def lp__law_web_0 : Sb := (.cons (.unp [10, 11, 12] (.ix (.var 1) (.call 18 (.cons (.take 0) (.cons (.bi .len (.cons (.var 1) .nil)) .nil))))) (.cons (.par [(13, false), (14, false)] (.cons (.call 23 (.cons (.take 0) (.cons (.take 5) (.cons (.take 11) .nil)))) (.cons (.call 23 (.cons (.take 0) (.cons (.take 5) (.cons (.take 12) .nil)))) .nil))) (.cons (.ife (.and (.isn (.var 13) false) (.isn (.var 14) false)) (.cons (.app 6 (.tup (.cons (.take 10) (.cons (.take 13) (.cons (.take 14) .nil))))) .nil) .nil) .nil)))
def lp__law_web_1 : Sb := (.cons (.asg 15 (.ite (.cmp .ne (.var 5) (.tup .nil)) (.call 18 (.cons (.take 0) (.cons (.ix (.lst (.cons (.con (.int 3)) (.cons (.con (.int 7)) .nil))) (.call 18 (.cons (.take 0) (.cons (.con (.int 2)) .nil)))) .nil))) (.con (.int 0)))) (.cons (.app 8 (.totup (.seq (.comp (.call 18 (.cons (.take 0) (.cons (.bi .len (.cons (.var 5) .nil)) .nil))) [7] false (.rng (.var 15)) .no [7])))) .nil))
def bd__law_web : Sb := (.cons (.asg 4 (.bi .srtset (.cons (.call 25 (.cons (.take 1) .nil)) .nil))) (.cons (.asg 5 (.totup (.seq (.comp (.ix (.var 4) (.call 18 (.cons (.take 0) (.cons (.bi .len (.cons (.var 4) .nil)) .nil)))) [7] false (.rng (.call 18 (.cons (.take 0) (.cons (.bin .add (.var 2) (.con (.int 1))) .nil)))) .no [7])))) (.cons (.own 6 (.lst .nil)) (.cons (.for_ [7] false (.rng (.call 18 (.cons (.take 0) (.cons (.bin .add (.var 3) (.con (.int 1))) .nil)))) lp__law_web_0) (.cons (.own 8 (.lst .nil)) (.cons (.for_ [9] false (.rng (.con (.int 2))) lp__law_web_1) (.cons (.ret (.tup (.cons (.take 5) (.cons (.totup (.seq (.var 6))) (.cons (.ix (.var 8) (.con (.int 0))) (.cons (.ix (.var 8) (.con (.int 1))) .nil)))))) .nil)))))))
def lp__law_stock_kinds_0 : Sb := (.cons (.asg 1 (.bin .add (.var 1) (.tolst (.seq (.bin .add (.var 3) (.var 4)))))) .nil)
def bd__law_stock_kinds : Sb := (.cons (.asg 1 (.lst (.cons (.con (.str "n")) .nil))) (.cons (.for_ [2, 3, 4] true (.seq (.take 0)) lp__law_stock_kinds_0) (.cons (.ret (.take 1)) .nil)))
def bd__law_is_word : Sb := (.cons (.ife (.or (.not (.isi (.var 0) [.str])) (.or (.cmp .lt (.bi .len (.cons (.var 0) .nil)) (.con (.int 1))) (.cmp .gt (.bi .len (.cons (.var 0) .nil)) (.con (.int 8))))) (.cons (.ret (.con (.bl false))) .nil) .nil) (.cons (.ret (.cmp .eq (.comp (.take 1) [1] false (.seq (.var 0)) (.yes (.cmp .nin (.var 1) (.con (.str "abcdefghijklmnopqrstuvwxyz")))) [1]) (.lst .nil))) .nil))
def bd__law_are_indexes : Sb := (.cons (.ife (.not (.isi (.var 0) [.tup])) (.cons (.ret (.con (.bl false))) .nil) .nil) (.cons (.ret (.bi .all (.cons (.comp (.and (.isi (.var 2) [.int]) (.and (.not (.isi (.var 2) [.bool])) (.chain .le .lt (.con (.int 0)) (.var 2) (.var 1)))) [2] false (.seq (.var 0)) .no [2]) .nil))) .nil))
def bd__law_box_fits : Sb := (.cons (.ife (.or (.not (.isi (.var 2) [.tup])) (.or (.cmp .ne (.bi .len (.cons (.var 2) .nil)) (.con (.int 3))) (.not (.isi (.ix (.var 2) (.con (.int 0))) [.str])))) (.cons (.ret (.con (.bl false))) .nil) .nil) (.cons (.ife (.or (.not (.call 27 (.cons (.ix (.var 2) (.con (.int 1))) (.cons (.bi .len (.cons (.var 0) .nil)) .nil)))) (.not (.call 27 (.cons (.ix (.var 2) (.con (.int 2))) (.cons (.bi .len (.cons (.var 0) .nil)) .nil))))) (.cons (.ret (.con (.bl false))) .nil) .nil) (.cons (.asg 3 (.tup (.cons (.totup (.seq (.comp (.ix (.var 0) (.var 4)) [4] false (.seq (.ix (.var 2) (.con (.int 1)))) .no [4]))) (.cons (.totup (.seq (.comp (.ix (.var 0) (.var 4)) [4] false (.seq (.ix (.var 2) (.con (.int 2)))) .no [4]))) .nil)))) (.cons (.ret (.cmp .in_ (.bin .add (.tup (.cons (.ix (.var 2) (.con (.int 0))) .nil)) (.var 3)) (.var 1))) .nil))))
def bd__law_first : Sb := (.cons (.asg 2 (.comp (.take 3) [3] false (.rng (.bi .len (.cons (.var 0) .nil))) (.yes (.not (.ix (.var 0) (.var 3)))) [3])) (.cons (.ret (.ite (.cmp .ne (.var 2) (.lst .nil)) (.tup (.cons (.take 1) (.cons (.ix (.var 2) (.con (.int 0))) .nil))) (.con .non))) .nil))
def lp__law_place_0 : Sb := (.cons (.ife (.isn (.var 6) true) (.cons (.asg 6 (.tup (.cons (.take 7) .nil))) (.cons (.ife (.isi (.var 8) [.tup]) (.cons (.asg 6 (.call 29 (.cons (.comp (.call 27 (.cons (.tup (.cons (.take 11) .nil)) (.cons (.bi .len (.cons (.var 2) .nil)) .nil))) [11] false (.seq (.var 8)) .no [11]) (.cons (.take 7) .nil)))) .nil) .nil) .nil)) .nil) .nil)
def bd__law_place : Sb := (.cons (.ife (.or (.not (.isi (.var 1) [.tup])) (.cmp .ne (.bi .len (.cons (.var 1) .nil)) (.con (.int 4)))) (.cons (.ret (.tup .nil)) .nil) .nil) (.cons (.unp [2, 3, 4, 5] (.take 1)) (.cons (.ife (.not (.isi (.var 2) [.tup])) (.cons (.ret (.tup (.cons (.con (.int 0)) .nil))) .nil) .nil) (.cons (.asg 6 (.call 29 (.cons (.comp (.call 26 (.cons (.take 9) .nil)) [9] false (.seq (.var 2)) .no [9]) (.cons (.con (.int 0)) .nil)))) (.cons (.ife (.or (.isn (.var 6) false) (.not (.isi (.var 3) [.tup]))) (.cons (.ret (.ite (.isn (.var 6) false) (.take 6) (.tup (.cons (.con (.int 1)) .nil)))) .nil) .nil) (.cons (.asg 6 (.call 29 (.cons (.comp (.call 28 (.cons (.take 2) (.cons (.take 0) (.cons (.take 10) .nil)))) [10] false (.seq (.var 3)) .no [10]) (.cons (.con (.int 1)) .nil)))) (.cons (.for_ [7, 8] true (.seq (.lst (.cons (.tup (.cons (.con (.int 2)) (.cons (.take 4) .nil))) (.cons (.tup (.cons (.con (.int 3)) (.cons (.take 5) .nil))) .nil)))) lp__law_place_0) (.cons (.ret (.take 6)) .nil))))))))
def bd__law_bent : Sb := (.cons (.ife (.and (.isi (.var 1) [.tup]) (.and (.cmp .ne (.var 1) (.tup .nil)) (.cmp .gt (.call 18 (.cons (.take 0) (.cons (.con (.int 7)) .nil))) (.con (.int 0))))) (.cons (.par [(3, false), (4, false)] (.cons (.call 18 (.cons (.take 0) (.cons (.bi .len (.cons (.var 1) .nil)) .nil))) (.cons (.call 18 (.cons (.take 0) (.cons (.con (.int 12)) .nil))) .nil))) (.cons (.ife (.cmp .eq (.var 4) (.con (.int 0))) (.cons (.ret (.bin .add (.sl (.var 1) .no (.yes (.var 3))) (.sl (.var 1) (.yes (.bin .add (.var 3) (.con (.int 1)))) .no))) .nil) .nil) (.cons (.ife (.cmp .eq (.var 4) (.con (.int 1))) (.cons (.ret (.bin .add (.bin .add (.sl (.var 1) .no (.yes (.var 3))) (.sl (.var 1) (.yes (.var 3)) (.yes (.bin .add (.var 3) (.con (.int 1)))))) (.sl (.var 1) (.yes (.var 3)) .no))) .nil) .nil) (.cons (.ife (.cmp .eq (.var 4) (.con (.int 2))) (.cons (.ret (.tolst (.seq (.var 1)))) .nil) .nil) (.cons (.ife (.cmp .eq (.var 4) (.con (.int 3))) (.cons (.ret (.bin .add (.bin .add (.sl (.var 1) .no (.yes (.var 3))) (.sl (.var 1) (.yes (.bin .add (.var 3) (.con (.int 1)))) .no)) (.sl (.var 1) (.yes (.var 3)) (.yes (.bin .add (.var 3) (.con (.int 1))))))) .nil) .nil) (.cons (.ret (.bin .add (.bin .add (.sl (.var 1) .no (.yes (.var 3))) (.tup (.cons (.call 31 (.cons (.take 0) (.cons (.ix (.var 1) (.var 3)) .nil))) .nil))) (.sl (.var 1) (.yes (.bin .add (.var 3) (.con (.int 1)))) .no))) .nil)))))) .nil) (.cons (.ife (.and (.isi (.var 1) [.int]) (.not (.isi (.var 1) [.bool]))) (.cons (.ret (.ix (.lst (.cons (.bin .add (.var 1) (.con (.int 1))) (.cons (.bin .sub (.var 1) (.con (.int 1))) (.cons (.con (.int 0)) (.cons (.con (.int 1)) (.cons (.neg (.con (.int 1))) (.cons (.con (.int 12)) (.cons (.con (.bl true)) (.cons (.con .non) (.cons (.bi .strn (.cons (.var 1) .nil)) (.cons (.bin .pow (.con (.int 10)) (.con (.int 30))) (.cons (.con (.bl false)) .nil)))))))))))) (.call 18 (.cons (.take 0) (.cons (.con (.int 11)) .nil))))) .nil) .nil) (.cons (.asg 2 (.lst (.cons (.con (.str "")) (.cons (.con (.str "n")) (.cons (.con (.str "a")) (.cons (.con (.str "b")) (.cons (.con (.str "c")) (.cons (.con (.str "N")) (.cons (.con (.str "abcdefghi")) (.cons (.con .non) (.cons (.tup .nil) (.cons (.tup (.cons (.con (.int 0)) .nil)) (.cons (.tup (.cons (.con (.int 0)) (.cons (.con (.int 0)) .nil))) (.cons (.lst (.cons (.con (.int 0)) .nil)) (.cons (.tup (.cons (.tup (.cons (.con (.str "n")) .nil)) (.cons (.tup .nil) .nil))) (.cons (.tup (.cons (.con (.str "a")) (.cons (.tup .nil) (.cons (.tup .nil) .nil)))) (.cons (.con (.int 7)) (.cons (.con (.bl true)) .nil)))))))))))))))))) (.cons (.ret (.ix (.var 2) (.call 18 (.cons (.take 0) (.cons (.con (.int 16)) .nil))))) .nil))))
def tl_law_0 : Sb := (.cons (.ife (.not (.call 20 (.cons (.lst (.cons (.call 16 (.cons (.take 8) (.cons (.take 7) .nil))) (.cons (.kcall 16 [1, 0] (.cons (.take 7) (.cons (.take 8) .nil))) .nil))) (.cons (.lst (.cons (.isn (.var 9) true) (.cons (.isn (.var 9) true) .nil))) .nil)))) (.cons (.ret (.con (.bl false))) .nil) .nil) .nil)
def tl_law_1 : Sb := (.cons (.ife (.not (.call 20 (.cons (.lst (.cons (.call 15 (.cons (.take 8) (.cons (.take 7) .nil))) (.cons (.kcall 15 [1, 0] (.cons (.take 7) (.cons (.take 8) .nil))) .nil))) (.cons (.lst (.cons (.take 9) (.cons (.take 9) .nil))) .nil)))) (.cons (.ret (.con (.bl false))) .nil) .nil) tl_law_0)
def lp_law_0 : Sb := (.cons (.asg 9 (.call 30 (.cons (.take 8) (.cons (.take 7) .nil)))) tl_law_1)
def lp_law_1 : Sb := (.cons (.for_ [8] false (.seq (.lst (.cons (.take 3) (.cons (.call 22 (.cons (.take 1) (.cons (.con (.int 6)) .nil))) .nil)))) lp_law_0) .nil)
def tl_law_2 : Sb := (.cons (.ife (.cmp .ne (.bi .repr (.cons (.var 5) .nil)) (.var 6)) (.cons (.ret (.con (.bl false))) .nil) .nil) .nil)
def tl_law_3 : Sb := (.cons (.for_ [7] false (.seq (.take 5)) lp_law_1) tl_law_2)
def tl_law_4 : Sb := (.cons (.asg 6 (.bi .repr (.cons (.var 5) .nil))) tl_law_3)
def tl_law_5 : Sb := (.cons (.asg 5 (.bin .add (.var 5) (.lst (.cons (.call 31 (.cons (.take 1) (.cons (.ix (.var 5) (.con (.int 1))) .nil))) (.cons (.call 31 (.cons (.take 1) (.cons (.ix (.var 5) (.con (.int 2))) .nil))) .nil))))) tl_law_4)
def tl_law_6 : Sb := (.cons (.asg 5 (.lst (.cons (.take 4) (.cons (.call 31 (.cons (.take 1) (.cons (.take 4) .nil))) (.cons (.call 31 (.cons (.take 1) (.cons (.take 4) .nil))) (.cons (.call 31 (.cons (.take 1) (.cons (.take 4) .nil))) (.cons (.tolst (.seq (.var 4))) (.cons (.sl (.var 4) .no (.yes (.con (.int 3)))) (.cons (.con .non) (.cons (.tup (.cons (.tup .nil) (.cons (.tup .nil) (.cons (.tup .nil) (.cons (.tup .nil) .nil))))) .nil)))))))))) tl_law_5)
def tl_law_7 : Sb := (.cons (.asg 4 (.call 24 (.cons (.take 1) (.cons (.take 3) (.cons (.con (.int 12)) (.cons (.con (.int 10)) .nil)))))) tl_law_6)
def lp_law_2 : Sb := (.cons (.asg 3 (.call 22 (.cons (.take 1) (.cons (.con (.int 6)) .nil)))) tl_law_7)
def tl_law_8 : Sb := (.cons (.ret (.con (.bl true))) .nil)
def tl_law_9 : Sb := (.cons (.for_ [2] false (.rng (.con (.int 5))) lp_law_2) tl_law_8)
def bd_law : Sb := (.cons (.asg 1 (.call 17 (.cons (.take 0) .nil))) tl_law_9)
def T : List Fn := [⟨1, 1, bd_is_integer⟩, ⟨3, 3, bd_is_between⟩, ⟨2, 2, bd_is_tuple_of⟩, ⟨1, 2, bd_is_word⟩, ⟨1, 2, bd_are_kinds⟩, ⟨1, 5, bd_is_stock⟩, ⟨1, 1, bd_check_stock⟩, ⟨1, 4, bd_sorts_in⟩, ⟨2, 3, bd_are_wires⟩, ⟨2, 3, bd_kinds_at⟩, ⟨2, 2, bd_has_form⟩, ⟨3, 7, bd_boxes_fault⟩, ⟨1, 4, bd_wires_fault⟩, ⟨3, 6, bd_ends_fault⟩, ⟨2, 8, bd_fault_by⟩, ⟨2, 2, bd_web_fault⟩, ⟨2, 2, bd_is_web⟩, ⟨1, 4, bd__law_spring⟩, ⟨2, 4, bd__law_drop⟩, ⟨1, 2, bd__law_kinds⟩, ⟨2, 3, bd__law_alike⟩, ⟨2, 7, bd__law_words⟩, ⟨2, 8, bd__law_stock⟩, ⟨3, 7, bd__law_pick⟩, ⟨4, 16, bd__law_web⟩, ⟨1, 5, bd__law_stock_kinds⟩, ⟨1, 2, bd__law_is_word⟩, ⟨2, 3, bd__law_are_indexes⟩, ⟨3, 5, bd__law_box_fits⟩, ⟨2, 4, bd__law_first⟩, ⟨2, 12, bd__law_place⟩, ⟨2, 5, bd__law_bent⟩]
theorem T_is_integer : T[0]? = some ⟨1, 1, bd_is_integer⟩ := rfl
theorem T_is_between : T[1]? = some ⟨3, 3, bd_is_between⟩ := rfl
theorem T_is_tuple_of : T[2]? = some ⟨2, 2, bd_is_tuple_of⟩ := rfl
theorem T_is_word : T[3]? = some ⟨1, 2, bd_is_word⟩ := rfl
theorem T_are_kinds : T[4]? = some ⟨1, 2, bd_are_kinds⟩ := rfl
theorem T_is_stock : T[5]? = some ⟨1, 5, bd_is_stock⟩ := rfl
theorem T_check_stock : T[6]? = some ⟨1, 1, bd_check_stock⟩ := rfl
theorem T_sorts_in : T[7]? = some ⟨1, 4, bd_sorts_in⟩ := rfl
theorem T_are_wires : T[8]? = some ⟨2, 3, bd_are_wires⟩ := rfl
theorem T_kinds_at : T[9]? = some ⟨2, 3, bd_kinds_at⟩ := rfl
theorem T_has_form : T[10]? = some ⟨2, 2, bd_has_form⟩ := rfl
theorem T_boxes_fault : T[11]? = some ⟨3, 7, bd_boxes_fault⟩ := rfl
theorem T_wires_fault : T[12]? = some ⟨1, 4, bd_wires_fault⟩ := rfl
theorem T_ends_fault : T[13]? = some ⟨3, 6, bd_ends_fault⟩ := rfl
theorem T_fault_by : T[14]? = some ⟨2, 8, bd_fault_by⟩ := rfl
theorem T_web_fault : T[15]? = some ⟨2, 2, bd_web_fault⟩ := rfl
theorem T_is_web : T[16]? = some ⟨2, 2, bd_is_web⟩ := rfl
theorem T__law_spring : T[17]? = some ⟨1, 4, bd__law_spring⟩ := rfl
theorem T__law_drop : T[18]? = some ⟨2, 4, bd__law_drop⟩ := rfl
theorem T__law_kinds : T[19]? = some ⟨1, 2, bd__law_kinds⟩ := rfl
theorem T__law_alike : T[20]? = some ⟨2, 3, bd__law_alike⟩ := rfl
theorem T__law_words : T[21]? = some ⟨2, 7, bd__law_words⟩ := rfl
theorem T__law_stock : T[22]? = some ⟨2, 8, bd__law_stock⟩ := rfl
theorem T__law_pick : T[23]? = some ⟨3, 7, bd__law_pick⟩ := rfl
theorem T__law_web : T[24]? = some ⟨4, 16, bd__law_web⟩ := rfl
theorem T__law_stock_kinds : T[25]? = some ⟨1, 5, bd__law_stock_kinds⟩ := rfl
theorem T__law_is_word : T[26]? = some ⟨1, 2, bd__law_is_word⟩ := rfl
theorem T__law_are_indexes : T[27]? = some ⟨2, 3, bd__law_are_indexes⟩ := rfl
theorem T__law_box_fits : T[28]? = some ⟨3, 5, bd__law_box_fits⟩ := rfl
theorem T__law_first : T[29]? = some ⟨2, 4, bd__law_first⟩ := rfl
theorem T__law_place : T[30]? = some ⟨2, 12, bd__law_place⟩ := rfl
theorem T__law_bent : T[31]? = some ⟨2, 5, bd__law_bent⟩ := rfl
def nl_law : Nat := 10
end Lw

set_option Elab.async false
set_option linter.all false
set_option maxRecDepth 100000
set_option maxHeartbeats 2000000
/-! What a run of the core comes to. -/
namespace Ev
open PySem
/-- the run ends well, and so -/
def wp {α : Type} (m : M α) (s : Sto) (Q : α → Sto → Prop) : Prop := ∃ a s', m s = .ok a s' ∧ Q a s'
def ov {α : Type} (o : Option α) (P : α → Prop) : Prop := match o with
  | some a => P a
  | none => False
@[simp] theorem ov_some {α : Type} {a : α} {P : α → Prop} : ov (some a) P = P a := rfl
@[simp] theorem ov_none {α : Type} {P : α → Prop} : ov (none : Option α) P = False := rfl
theorem ov_iff {α : Type} {o : Option α} {P : α → Prop} : ov o P ↔ ∃ a, o = some a ∧ P a := by
  cases o <;> simp
theorem ov_mono {α : Type} {o : Option α} {P P' : α → Prop} (h : ov o P) (f : ∀ a, P a → P' a) : ov o P' := by
  cases o
  · exact h
  · exact f _ h
section
variable {α β : Type} {s : Sto} {Q : α → Sto → Prop} {R : β → Sto → Prop}
theorem wp_ok {m : M α} {a : α} {s' : Sto} (e : m s = .ok a s') (h : Q a s') : wp m s Q := ⟨a, s', e, h⟩
theorem wp_eq {m : M α} {a : α} {s' : Sto} (e : m s = .ok a s') : wp m s Q = Q a s' := propext ⟨fun ⟨_, _, e', h⟩ => by
  rw [e] at e'
  cases e'
  exact h, fun h => ⟨_, _, e, h⟩⟩
theorem wp_out {m : M α} (h : wp m s Q) : ∃ a s', m s = .ok a s' ∧ Q a s' := h
theorem wp_mono {Q' : α → Sto → Prop} {m : M α} (h : wp m s Q) (f : ∀ a s', Q a s' → Q' a s') : wp m s Q' := by
  obtain ⟨a, s', e, h⟩ := h
  exact ⟨a, s', e, f _ _ h⟩
theorem wp_and {Q' : α → Sto → Prop} {m : M α} (h : wp m s Q) (h' : wp m s Q') : wp m s (fun a s' => Q a s' ∧ Q' a s') := by
  obtain ⟨a, s', e, h⟩ := h
  rw [wp_eq e] at h'
  exact ⟨a, s', e, h, h'⟩
@[simp] theorem wp_ret {a : α} : wp (M.ret a) s Q = Q a s := wp_eq rfl
@[simp] theorem wp_pure {a : α} : wp (pure a : M α) s Q = Q a s := wp_eq rfl
@[simp] theorem wp_bad : wp (M.bad : M α) s Q = False := propext ⟨fun ⟨_, _, e, _⟩ => (by cases e), False.elim⟩
@[simp] theorem wp_bnd {m : M β} {f : β → M α} : wp (M.bnd m f) s Q = wp m s (fun a s' => wp (f a) s' Q) := by
  cases e : m s with
  | ok a s' =>
    rw [wp_eq e]
    show (∃ b s2, (match m s with | .ok a s' => f a s' | .exc x s' => .exc x s' | .bad => .bad) = .ok b s2 ∧ Q b s2) = _
    rw [e]
    rfl
  | exc x s' =>
    refine propext ⟨fun ⟨_, _, e', _⟩ => ?_, fun ⟨_, _, e', _⟩ => ?_⟩
    · unfold M.bnd at e'
      rw [e] at e'
      cases e'
    · rw [e] at e'
      cases e'
  | bad =>
    refine propext ⟨fun ⟨_, _, e', _⟩ => ?_, fun ⟨_, _, e', _⟩ => ?_⟩
    · unfold M.bnd at e'
      rw [e] at e'
      cases e'
    · rw [e] at e'
      cases e'
@[simp] theorem wp_bind {m : M β} {f : β → M α} : wp (m >>= f) s Q = wp m s (fun a s' => wp (f a) s' Q) := wp_bnd
@[simp] theorem wp_lift {o : Option α} : wp (M.lift o) s Q = ov o fun a => Q a s := by
  cases o
  · exact wp_bad
  · exact wp_ret
@[simp] theorem wp_nox {m : M α} : wp (M.nox m) s Q = wp m s Q := by
  cases e : m s with
  | ok a s' =>
    rw [wp_eq e]
    refine wp_eq ?_
    unfold M.nox
    rw [e]
  | exc x s' =>
    refine propext ⟨fun ⟨_, _, e', _⟩ => ?_, fun ⟨_, _, e', _⟩ => ?_⟩
    · unfold M.nox at e'
      rw [e] at e'
      cases e'
    · rw [e] at e'
      cases e'
  | bad =>
    refine propext ⟨fun ⟨_, _, e', _⟩ => ?_, fun ⟨_, _, e', _⟩ => ?_⟩
    · unfold M.nox at e'
      rw [e] at e'
      cases e'
    · rw [e] at e'
      cases e'
@[simp] theorem wp_ite {c : Prop} [Decidable c] {m n : M α} : wp (if c then m else n) s Q = if c then wp m s Q else wp n s Q := by
  split <;> rfl
end
section
variable {s : Sto}
/-- a truth -/
def tru (d : D) (P : Bool → Prop) : Prop := match d with
  | .bl b => P b
  | _ => False
@[simp] theorem tru_bl {b : Bool} {P : Bool → Prop} : tru (.bl b) P = P b := rfl
@[simp] theorem wp_tst {m : M D} {Q : Bool → Sto → Prop} : wp (tst m) s Q = wp m s fun d s' => tru d fun b => Q b s' := by
  unfold tst
  rw [wp_bind]
  congr 1
  funext d s'
  cases d <;> first | exact wp_eq rfl | exact wp_bad | rfl
@[simp] theorem wp_see {ds : D} {Q : D → Sto → Prop} (h : ∀ n, ds ≠ .cell n) : wp (seeD ds) s Q = Q ds s := by
  cases ds <;> first | exact wp_eq rfl | exact (h _ rfl).elim
@[simp] theorem wp_see_non {Q : D → Sto → Prop} : wp (seeD .non) s Q = Q .non s := wp_eq rfl
@[simp] theorem wp_see_bl {b : Bool} {Q : D → Sto → Prop} : wp (seeD (.bl b)) s Q = Q (.bl b) s := wp_eq rfl
@[simp] theorem wp_see_int {b : Int} {Q : D → Sto → Prop} : wp (seeD (.int b)) s Q = Q (.int b) s := wp_eq rfl
@[simp] theorem wp_see_str {b : Str} {Q : D → Sto → Prop} : wp (seeD (.str b)) s Q = Q (.str b) s := wp_eq rfl
@[simp] theorem wp_see_tup {b : List D} {Q : D → Sto → Prop} : wp (seeD (.tup b)) s Q = Q (.tup b) s := wp_eq rfl
@[simp] theorem wp_see_lst {b : List D} {Q : D → Sto → Prop} : wp (seeD (.lst b)) s Q = Q (.lst b) s := wp_eq rfl
@[simp] theorem wp_see_dic {b c : List D} {Q : D → Sto → Prop} : wp (seeD (.dic b c)) s Q = Q (.dic b c) s := wp_eq rfl
theorem wp_see_cell {n : Nat} {ds : List D} {Q : D → Sto → Prop} (h : s[n]? = some (.lst ds)) : wp (seeD (.cell n)) s Q = Q (.lst ds) s := by
  refine wp_eq ?_
  unfold seeD
  simp [h]
@[simp] theorem wp_seeL_lst {b : List D} {Q : Unit → Sto → Prop} : wp (seeL (.lst b)) s Q = Q () s := wp_eq rfl
theorem wp_seeL_cell {n : Nat} {ds : List D} {Q : Unit → Sto → Prop} (h : s[n]? = some (.lst ds)) : wp (seeL (.cell n)) s Q = Q () s := by
  refine wp_eq ?_
  unfold seeL
  simp [h]
/-- the value is a list, and so -/
def isl (d : D) (P : List D → Prop) : Prop := match d with
  | .lst ds => P ds
  | _ => False
@[simp] theorem isl_lst {ds : List D} {P : List D → Prop} : isl (.lst ds) P = P ds := rfl
def isn (d : D) (P : Int → Prop) : Prop := match d with
  | .int ds => P ds
  | _ => False
@[simp] theorem isn_int {ds : Int} {P : Int → Prop} : isn (.int ds) P = P ds := rfl
def iss (d : D) (P : Str → Prop) : Prop := match d with
  | .str ds => P ds
  | _ => False
@[simp] theorem iss_str {ds : Str} {P : Str → Prop} : iss (.str ds) P = P ds := rfl
def isdic (d : D) (P : List D → List D → Prop) : Prop := match d with
  | .dic a b => P a b
  | _ => False
@[simp] theorem isdic_dic {a b : List D} {P : List D → List D → Prop} : isdic (.dic a b) P = P a b := rfl
def isNon : D → Bool
  | .non => true
  | _ => false
@[simp] theorem isNon_non : isNon .non = true := rfl
@[simp] theorem isNon_bl {b : Bool} : isNon (.bl b) = false := rfl
@[simp] theorem isNon_int {b : Int} : isNon (.int b) = false := rfl
@[simp] theorem isNon_str {b : Str} : isNon (.str b) = false := rfl
@[simp] theorem isNon_tup {b : List D} : isNon (.tup b) = false := rfl
@[simp] theorem isNon_lst {b : List D} : isNon (.lst b) = false := rfl
@[simp] theorem isNon_dic {b c : List D} : isNon (.dic b c) = false := rfl
@[simp] theorem isNon_cell {b : Nat} : isNon (.cell b) = false := rfl
theorem isNon_eq (d : D) (g : Bool) : (match d with | .non => g | _ => !g) = (isNon d == g) := by
  cases d <;> cases g <;> first | exact wp_eq rfl | exact wp_bad | rfl
variable {F : Fns} {W : Nat} {env : Envi} {Q : D → Sto → Prop}
/-- what a comprehension does with one member -/
def cmpB (F : Fns) (e : E) (t : List Nat) (u : Bool) (c : Oe) (own : List Nat) (env : Envi) (d : D) : M (Option D) := M.nox (do
      let env' ← M.lift (bindT (wipe env own) t u d)
      if ← tso (evo F c env') then do
        pure (some (← ev F e env'))
      else pure none)
def cmpK (F : Fns) (k v : E) (t : List Nat) (u : Bool) (c : Oe) (own : List Nat) (env : Envi) (d : D) : M (Option (D × D)) := M.nox (do
      let env' ← M.lift (bindT (wipe env own) t u d)
      if ← tso (evo F c env') then do
        let k ← ev F k env'
        let v ← ev F v env'
        pure (some (k, v))
      else pure none)
/-- what a for does with one member -/
def forB (F : Fns) (W : Nat) (t : List Nat) (u : Bool) (b : Sb) (d : D) (env : Envi) : M Fl := do
      let env ← M.lift (bindT env t u d)
      exs F W b env
@[simp] theorem wp_tso_no {Q : Bool → Sto → Prop} : wp (tso (evo F .no env)) s Q = Q true s := by
  unfold tso
  rw [wp_bind, evo, wp_pure]
  exact wp_eq rfl
@[simp] theorem wp_tso_yes {e : E} {Q : Bool → Sto → Prop} : wp (tso (evo F (.yes e) env)) s Q = wp (ev F e env) s fun d s' => tru d fun b => Q b s' := by
  unfold tso
  rw [wp_bind, evo, wp_bind]
  simp only [wp_pure]
  congr 1
  funext d s'
  cases d <;> first | exact wp_eq rfl | exact wp_bad | rfl
@[simp] theorem wp_cmpB {e : E} {t : List Nat} {u : Bool} {c : Oe} {own : List Nat} {d : D} {Q : Option D → Sto → Prop} : wp (cmpB F e t u c own env d) s Q = ov (bindT (wipe env own) t u d) fun env' => wp (tso (evo F c env')) s fun b s' => if b = true then wp (ev F e env') s' fun r s'' => Q (some r) s'' else Q none s' := by
  unfold cmpB
  simp only [wp_nox, wp_bind, wp_lift, wp_ite, wp_pure]
@[simp] theorem wp_cmpK {k v : E} {t : List Nat} {u : Bool} {c : Oe} {own : List Nat} {d : D} {Q : Option (D × D) → Sto → Prop} : wp (cmpK F k v t u c own env d) s Q = ov (bindT (wipe env own) t u d) fun env' => wp (tso (evo F c env')) s fun b s' => if b = true then wp (ev F k env') s' fun k s' => wp (ev F v env') s' fun v s' => Q (some (k, v)) s' else Q none s' := by
  unfold cmpK
  simp only [wp_nox, wp_bind, wp_lift, wp_ite, wp_pure]
@[simp] theorem wp_forB {t : List Nat} {u : Bool} {b : Sb} {d : D} {Q : Fl → Sto → Prop} : wp (forB F W t u b d env) s Q = ov (bindT env t u d) fun env => wp (exs F W b env) s Q := by
  unfold forB
  simp only [wp_bind, wp_lift]
@[simp] theorem wp_var {i : Nat} : wp (ev F (.var i) env) s Q = ov (getV env i) fun d => Q d s := by rw [ev, wp_lift]
@[simp] theorem wp_take {i : Nat} : wp (ev F (.take i) env) s Q = ov (takeV env i) fun d => Q d s := by rw [ev, wp_lift]
@[simp] theorem wp_con {d : D} : wp (ev F (.con d) env) s Q = Q d s := by rw [ev, wp_pure]
@[simp] theorem wp_tup {es : Es} : wp (ev F (.tup es) env) s Q = wp (evs F es env) s fun ds s' => Q (.tup ds) s' := by rw [ev, wp_bind]; simp only [wp_pure]
@[simp] theorem wp_lst {es : Es} : wp (ev F (.lst es) env) s Q = wp (evs F es env) s fun ds s' => Q (.lst ds) s' := by rw [ev, wp_bind]; simp only [wp_pure]
@[simp] theorem wp_bin {o : Bop} {a b : E} : wp (ev F (.bin o a b) env) s Q = wp (ev F a env) s fun x s => wp (ev F b env) s fun y s => wp (seeD x) s fun x s => wp (seeD y) s fun y s => ov (bopD o x y) fun z => Q z s := by
  rw [ev]
  simp only [wp_bind, wp_lift]
@[simp] theorem wp_cat {a b : E} : wp (ev F (.cat a b) env) s Q = wp (ev F a env) s fun x s => wp (ev F b env) s fun y s => wp (seeD x) s fun x s => wp (seeD y) s fun y s => ov (catD x y) fun z => Q z s := by
  rw [ev]
  simp only [wp_bind, wp_lift]
@[simp] theorem wp_repl {es : Es} {k : E} : wp (ev F (.repl es k) env) s Q = wp (evs F es env) s fun xs s => wp (ev F k env) s fun y s => isn y fun k => (-(2 ^ 63) ≤ k ∧ k < 2 ^ 63 ∧ xs.length * k.toNat ≤ LIM) ∧ Q (.lst (rep k.toNat xs)) s := by
  rw [ev, wp_bind]
  congr 1
  funext xs s'
  rw [wp_bind]
  congr 1
  funext y s'
  cases y with
  | int k =>
    show wp (if _ then _ else _) _ _ = _
    rw [wp_ite]
    by_cases c : -(2 ^ 63) ≤ k ∧ k < 2 ^ 63 ∧ xs.length * k.toNat ≤ LIM <;> simp [c]
  | _ => first | exact wp_bad | exact wp_eq rfl | (cases y <;> exact wp_bad) | rfl
@[simp] theorem wp_neg {a : E} : wp (ev F (.neg a) env) s Q = wp (ev F a env) s fun x s => isn x fun i => Q (.int (-i)) s := by
  rw [ev, wp_bind]
  congr 1
  funext y s'
  cases y <;> first | exact wp_eq rfl | exact wp_bad | rfl
@[simp] theorem wp_cmp {o : Cop} {a b : E} : wp (ev F (.cmp o a b) env) s Q = wp (ev F a env) s fun x s => wp (ev F b env) s fun y s => wp (seeD x) s fun x s => wp (seeD y) s fun y s => ov (copD o x y) fun z => Q (.bl z) s := by
  rw [ev]
  simp only [wp_bind, wp_lift, wp_pure]
@[simp] theorem wp_isn {a : E} {g : Bool} : wp (ev F (.isn a g) env) s Q = wp (ev F a env) s fun x s => Q (.bl (isNon x == g)) s := by
  rw [ev]
  simp only [wp_bind, wp_pure]
  congr 1
  funext x s'
  cases x <;> cases g <;> first | exact wp_eq rfl | exact wp_bad | rfl
@[simp] theorem wp_chain {o o' : Cop} {a b c : E} : wp (ev F (.chain o o' a b c) env) s Q = wp (ev F a env) s fun x s => wp (ev F b env) s fun y s => ov (copD o x y) fun r => if r = true then wp (ev F c env) s fun z s => ov (copD o' y z) fun r => Q (.bl r) s else Q (.bl false) s := by
  rw [ev]
  simp only [wp_bind, wp_lift, wp_pure, wp_ite]
@[simp] theorem wp_andE {a b : E} : wp (ev F (.and a b) env) s Q = wp (ev F a env) s fun x s => tru x fun r => if r = true then wp (ev F b env) s Q else Q (.bl false) s := by
  rw [ev]
  simp only [wp_bind, wp_tst, wp_pure, wp_ite]
@[simp] theorem wp_orE {a b : E} : wp (ev F (.or a b) env) s Q = wp (ev F a env) s fun x s => tru x fun r => if r = true then Q (.bl true) s else wp (ev F b env) s Q := by
  rw [ev]
  simp only [wp_bind, wp_tst, wp_pure, wp_ite]
@[simp] theorem wp_notE {a : E} : wp (ev F (.not a) env) s Q = wp (ev F a env) s fun x s => tru x fun r => Q (.bl (!r)) s := by
  rw [ev]
  simp only [wp_bind, wp_tst, wp_pure]
@[simp] theorem wp_iteE {c a b : E} : wp (ev F (.ite c a b) env) s Q = wp (ev F c env) s fun x s => tru x fun r => if r = true then wp (ev F a env) s Q else wp (ev F b env) s Q := by
  rw [ev]
  simp only [wp_bind, wp_tst, wp_ite]
@[simp] theorem wp_ixE {a b : E} : wp (ev F (.ix a b) env) s Q = wp (ev F a env) s fun x s => wp (ev F b env) s fun y s => wp (seeD x) s fun x s => ov (ixD x y) fun z => Q z s := by
  rw [ev]
  simp only [wp_bind, wp_lift]
@[simp] theorem wp_sl {a : E} {lo hi : Oe} : wp (ev F (.sl a lo hi) env) s Q = wp (ev F a env) s fun x s => wp (prt (evo F lo env)) s fun l s => wp (prt (evo F hi env)) s fun h s => wp (seeD x) s fun x s => ov (slD x l h) fun z => Q z s := by
  rw [ev]
  simp only [wp_bind, wp_lift]
@[simp] theorem wp_prt_no {Q : Option Int → Sto → Prop} : wp (prt (evo F .no env)) s Q = Q none s := by
  unfold prt
  rw [wp_bind, evo, wp_pure]
  exact wp_eq rfl
@[simp] theorem wp_prt_yes {e : E} {Q : Option Int → Sto → Prop} : wp (prt (evo F (.yes e) env)) s Q = wp (ev F e env) s fun d s' => isn d fun i => Q (some i) s' := by
  unfold prt
  rw [wp_bind, evo, wp_bind]
  simp only [wp_pure, wp_lift]
  congr 1
  funext d s'
  cases d <;> first | exact wp_eq rfl | exact wp_bad | rfl
@[simp] theorem wp_rev {a : E} : wp (ev F (.rev a) env) s Q = wp (ev F a env) s fun x s => wp (seeD x) s fun x s => match x with
    | .lst ds => Q (.lst ds.reverse) s
    | .tup ds => Q (.tup ds.reverse) s
    | _ => False := by
  rw [ev]
  simp only [wp_bind]
  congr 1
  funext d s'
  congr 1
  funext d s'
  cases d <;> first | exact wp_eq rfl | exact wp_bad | rfl
@[simp] theorem wp_call {f : Nat} {es : Es} : wp (ev F (.call f es) env) s Q = wp (evs F es env) s fun ds s => wp (F f ds) s Q := by
  rw [ev]
  simp only [wp_bind]
@[simp] theorem wp_call0 {f : Nat} : wp (ev F (.call0 f) env) s Q = wp (F f []) s Q := by
  rw [ev]
@[simp] theorem wp_kcall {f : Nat} {pm : List Nat} {es : Es} : wp (ev F (.kcall f pm es) env) s Q = wp (evs F es env) s fun ds s => wp (F f (pm.map fun i => ds.getD i .non)) s Q := by
  rw [ev]
  simp only [wp_bind]
/-- what a built-in looks at -/
def seeOne : List D → M (List D)
  | [d] => do pure [← seeD d]
  | ds => pure ds
@[simp] theorem wp_seeOne1 {d : D} {Q : List D → Sto → Prop} : wp (seeOne [d]) s Q = wp (seeD d) s fun d s => Q [d] s := by
  unfold seeOne
  simp only [wp_bind, wp_pure]
@[simp] theorem wp_seeOne2 {d e : D} {ds : List D} {Q : List D → Sto → Prop} : wp (seeOne (d :: e :: ds)) s Q = Q (d :: e :: ds) s := wp_eq rfl
@[simp] theorem wp_bi {b : Bi} {es : Es} : wp (ev F (.bi b es) env) s Q = wp (evs F es env) s fun ds s => wp (seeOne ds) s fun ds s => ov (biD b ds) fun z => Q z s := by
  rw [ev, wp_bind]
  congr 1
  funext ds s'
  rw [wp_bind]
  simp only [wp_lift]
  match ds with
  | [] => rfl
  | [d] => rfl
  | d :: e :: ds => rfl
@[simp] theorem wp_isi {a : E} {ts : List Tyn} : wp (ev F (.isi a ts) env) s Q = wp (ev F a env) s fun x s => Q (.bl (ts.any fun t => tyD t x)) s := by
  rw [ev]
  simp only [wp_bind, wp_pure]
@[simp] theorem wp_tolst {i : Src} : wp (ev F (.tolst i) env) s Q = wp (evi F true i env) s fun ds s => Q (.lst ds) s := by
  rw [ev]
  simp only [wp_bind, wp_pure]
@[simp] theorem wp_totup {i : Src} : wp (ev F (.totup i) env) s Q = wp (evi F true i env) s fun ds s => Q (.tup ds) s := by
  rw [ev]
  simp only [wp_bind, wp_pure]
@[simp] theorem wp_comp {e : E} {t : List Nat} {u : Bool} {i : Src} {c : Oe} {own : List Nat} : wp (ev F (.comp e t u i c own) env) s Q = wp (evi F false i env) s fun ds s => wp (compL (cmpB F e t u c own env) ds) s fun rs s => Q (.lst rs) s := by
  rw [ev]
  simp only [wp_bind, wp_pure]
  rfl
@[simp] theorem wp_dcomp {k v : E} {t : List Nat} {u : Bool} {i : Src} {c : Oe} {own : List Nat} : wp (ev F (.dcomp k v t u i c own) env) s Q = wp (evi F false i env) s fun ds s => wp (compK (cmpK F k v t u c own env) ds ([], [])) s fun r s => Q (.dic r.1 r.2) s := by
  rw [ev]
  simp only [wp_bind, wp_pure]
  rfl
@[simp] theorem wp_newc {e : E} : wp (ev F (.newc e) env) s Q = wp (ev F e env) s fun x s => isl x fun ds => Q (.cell s.length) (s ++ [.lst ds]) := by
  rw [ev, wp_bind]
  congr 1
  funext d s'
  cases d <;> first | exact wp_eq rfl | exact wp_bad | rfl
@[simp] theorem wp_dnew : wp (ev F .dnew env) s Q = Q (.dic [] []) s := by rw [ev, wp_pure]
@[simp] theorem wp_dcopy {a : E} : wp (ev F (.dcopy a) env) s Q = wp (ev F a env) s fun x s => match x with
    | .dic ks vs => Q (.dic ks vs) s
    | .lst ds => ov (pairsK ds ([], [])) fun r => Q (.dic r.1 r.2) s
    | _ => False := by
  rw [ev, wp_bind]
  congr 1
  funext d s'
  cases d with
  | lst ds =>
    show wp (M.lift _) _ _ = _
    rw [wp_lift]
    show ov (Option.map _ (pairsK ds ([], []))) _ = ov (pairsK ds ([], [])) _
    cases pairsK ds ([], []) <;> rfl
  | _ => first | exact wp_bad | exact wp_eq rfl | (cases y <;> exact wp_bad) | rfl
@[simp] theorem wp_dget {a k d : E} : wp (ev F (.dget a k d) env) s Q = wp (ev F a env) s fun x s => isdic x fun ks vs => wp (ev F k env) s fun k s => wp (ev F d env) s fun d s => isKey k = true ∧ Q ((keyAt ks vs k).getD d) s := by
  rw [ev, wp_bind]
  congr 1
  funext x s'
  cases x with
  | dic ks vs =>
    show wp (M.bnd _ _) _ _ = _
    rw [wp_bnd]
    show wp _ _ _ = wp _ _ _
    congr 1
    funext k s'
    show wp (M.bnd _ _) _ _ = _
    rw [wp_bnd]
    congr 1
    funext d s'
    rw [wp_ite]
    cases isKey k <;> simp
  | _ => first | exact wp_bad | exact wp_eq rfl | (cases y <;> exact wp_bad) | rfl
def isBl (b : Bool) : D → Bool
  | .bl c => b == c
  | _ => false
@[simp] theorem wp_isb {a : E} {b g : Bool} : wp (ev F (.isb a b g) env) s Q = wp (ev F a env) s fun x s => Q (.bl (isBl b x == g)) s := by
  rw [ev]
  simp only [wp_bind, wp_pure]
  congr 1
  funext d s'
  cases d <;> cases g <;> first | exact wp_eq rfl | exact wp_bad | rfl
@[simp] theorem wp_idx {a x : E} : wp (ev F (.idx a x) env) s Q = wp (ev F a env) s fun d s => wp (seeL d) s fun _ s => wp (ev F x env) s fun y s => wp (seeD d) s fun d s => ov (idxD d y) fun z => Q z s := by
  rw [ev]
  simp only [wp_bind, wp_lift]
@[simp] theorem wp_joinE {a b : E} : wp (ev F (.join a b) env) s Q = wp (ev F a env) s fun x s => iss x fun z => wp (ev F b env) s fun y s => isl y fun ds => ov (allS ds) fun xs => (xs.map (·.length)).sum + xs.length * z.length ≤ LIM ∧ Q (.str (Txt.join z xs)) s := by
  rw [ev, wp_bind]
  congr 1
  funext x s'
  cases x with
  | str z =>
    show wp (M.bnd _ _) _ _ = _
    rw [wp_bnd]
    show wp _ _ _ = wp _ _ _
    congr 1
    funext y s'
    cases y with
    | lst ds =>
      show wp (match allS ds with | some xs => _ | none => _) _ _ = _
      cases h : allS ds with
      | none => simp [h]
      | some xs =>
        simp only [h, wp_ite, ov_some, isl_lst]
        by_cases c : (xs.map (·.length)).sum + xs.length * z.length ≤ LIM <;> simp [c]
    | _ => first | exact wp_bad | exact wp_eq rfl | (cases y <;> exact wp_bad) | rfl
  | _ => first | exact wp_bad | exact wp_eq rfl | (cases y <;> exact wp_bad) | rfl
@[simp] theorem wp_lstr {a : E} : wp (ev F (.lstr a) env) s Q = wp (ev F a env) s fun x s => iss x fun z => z.cps.size ≤ LIM ∧ Q (.lst (z.cps.toList.map fun c => .str ⟨#[c]⟩)) s := by
  rw [ev, wp_bind]
  congr 1
  funext x s'
  cases x with
  | str z =>
    show wp (if _ then _ else _) _ _ = _
    rw [wp_ite]
    by_cases c : z.cps.size ≤ LIM <;> simp [c]
  | _ => first | exact wp_bad | exact wp_eq rfl | (cases y <;> exact wp_bad) | rfl
@[simp] theorem wp_evs_nil {Q : List D → Sto → Prop} : wp (evs F .nil env) s Q = Q [] s := by rw [evs, wp_pure]
@[simp] theorem wp_evs_cons {e : E} {es : Es} {Q : List D → Sto → Prop} : wp (evs F (.cons e es) env) s Q = wp (ev F e env) s fun d s => wp (evs F es env) s fun ds s => Q (d :: ds) s := by
  rw [evs]
  simp only [wp_bind, wp_pure]
@[simp] theorem wp_evi_seqT {e : E} {Q : List D → Sto → Prop} : wp (evi F true (.seq e) env) s Q = wp (ev F e env) s fun x s => wp (seeD x) s fun x s => ov (seqD x) fun ds => Q ds s := by
  rw [evi]
  simp only [wp_bind, if_true, wp_lift]
@[simp] theorem wp_evi_seqF {e : E} {Q : List D → Sto → Prop} : wp (evi F false (.seq e) env) s Q = wp (ev F e env) s fun x s => ov (itD x) fun ds => Q ds s := by
  rw [evi]
  simp only [wp_bind, if_false, wp_lift, Bool.false_eq_true]
@[simp] theorem wp_evi_rng {e : E} {g : Bool} {Q : List D → Sto → Prop} : wp (evi F g (.rng e) env) s Q = wp (ev F e env) s fun x s => isn x fun n => (-(2 ^ 62) ≤ n ∧ n < LIM) ∧ Q (range 0 n.toNat) s := by
  rw [evi, wp_bind]
  congr 1
  funext x s'
  cases x with
  | int n =>
    show wp (if _ then _ else _) _ _ = _
    rw [wp_ite]
    by_cases c : -(2 ^ 62) ≤ n ∧ n < LIM <;> simp [c]
  | _ => first | exact wp_bad | exact wp_eq rfl | (cases y <;> exact wp_bad) | rfl
@[simp] theorem wp_evi_rng2 {a b : E} {g : Bool} {Q : List D → Sto → Prop} : wp (evi F g (.rng2 a b) env) s Q = wp (ev F a env) s fun x s => wp (ev F b env) s fun y s => isn x fun i => isn y fun j => (-(2 ^ 62) ≤ i ∧ i < 2 ^ 62 ∧ j - i < LIM ∧ -(2 ^ 62) ≤ j ∧ j < 2 ^ 62) ∧ Q (range i (j - i).toNat) s := by
  rw [evi, wp_bind]
  congr 1
  funext x s'
  rw [wp_bind]
  congr 1
  funext y s'
  cases x with
  | int i =>
    cases y with
    | int j =>
      show wp (if _ then _ else _) _ _ = _
      rw [wp_ite]
      by_cases c : -(2 ^ 62) ≤ i ∧ i < 2 ^ 62 ∧ j - i < LIM ∧ -(2 ^ 62) ≤ j ∧ j < 2 ^ 62 <;> simp [c]
    | _ => first | exact wp_bad | exact wp_eq rfl | (cases y <;> exact wp_bad) | rfl
  | _ => first | exact wp_bad | exact wp_eq rfl | (cases y <;> exact wp_bad) | rfl
@[simp] theorem wp_evi_enum {e : E} {g : Bool} {Q : List D → Sto → Prop} : wp (evi F g (.enum e) env) s Q = wp (ev F e env) s fun x s => ov (seqD x) fun ds => Q (number 0 ds) s := by
  rw [evi]
  simp only [wp_bind, wp_lift, wp_pure]
@[simp] theorem wp_evi_zip {a b : E} {g : Bool} {Q : List D → Sto → Prop} : wp (evi F g (.zip a b) env) s Q = wp (ev F a env) s fun x s => wp (ev F b env) s fun y s => match x, y with
    | .lst xs, .lst ys => Q (pairs xs ys) s
    | .tup xs, .tup ys => Q (pairs xs ys) s
    | _, _ => False := by
  rw [evi, wp_bind]
  congr 1
  funext x s'
  rw [wp_bind]
  congr 1
  funext y s'
  cases x <;> cases y <;> first | exact wp_eq rfl | exact wp_bad | rfl
/-! ### statements -/
/-- where a statement goes on -/
def flk (fl : Fl) (N : Envi → Prop) (R : Fl → Prop) : Prop := match fl with
  | .nx e => N e
  | f => R f
@[simp] theorem flk_nx {e : Envi} {N : Envi → Prop} {R : Fl → Prop} : flk (.nx e) N R = N e := rfl
@[simp] theorem flk_rt {e : D} {N : Envi → Prop} {R : Fl → Prop} : flk (.rt e) N R = R (.rt e) := rfl
@[simp] theorem flk_ct {e : Envi} {N : Envi → Prop} {R : Fl → Prop} : flk (.ct e) N R = R (.ct e) := rfl
/-- where a loop goes on -/
def lpk (fl : Fl) (N : Envi → Prop) (R : Fl → Prop) : Prop := match fl with
  | .nx e => N e
  | .ct e => N e
  | .rt d => R (.rt d)
@[simp] theorem lpk_nx {e : Envi} {N : Envi → Prop} {R : Fl → Prop} : lpk (.nx e) N R = N e := rfl
@[simp] theorem lpk_rt {e : D} {N : Envi → Prop} {R : Fl → Prop} : lpk (.rt e) N R = R (.rt e) := rfl
@[simp] theorem lpk_ct {e : Envi} {N : Envi → Prop} {R : Fl → Prop} : lpk (.ct e) N R = N e := rfl
theorem lpk_mono {fl : Fl} {N N' : Envi → Prop} {R R' : Fl → Prop} (h : lpk fl N R) (hn : ∀ e, N e → N' e) (hr : ∀ f, R f → R' f) : lpk fl N' R' := by
  cases fl with
  | nx e => exact hn _ h
  | ct e => exact hn _ h
  | rt d => exact hr _ h
section
variable {Q : Fl → Sto → Prop}
@[simp] theorem wp_exs_nil : wp (exs F W .nil env) s Q = Q (.nx env) s := by rw [exs, wp_pure]
@[simp] theorem wp_exs_cons {st : Sm} {ss : Sb} : wp (exs F W (.cons st ss) env) s Q = wp (ex F W st env) s fun fl s => flk fl (fun env => wp (exs F W ss env) s Q) (fun f => Q f s) := by
  rw [exs, wp_bind]
  congr 1
  funext fl s'
  cases fl <;> first | exact wp_eq rfl | exact wp_bad | rfl
@[simp] theorem wp_fz {is : List Nat} {st : Sm} : wp (ex F W (.fz is st) env) s Q = wp (ex F W st (freeze env is)) s Q := by rw [ex]
@[simp] theorem wp_asg {i : Nat} {e : E} : wp (ex F W (.asg i e) env) s Q = wp (ev F e env) s fun d s => Q (.nx (env.set i (.val d))) s := by
  rw [ex]
  simp only [wp_bind, wp_pure]
@[simp] theorem wp_own {i : Nat} {e : E} : wp (ex F W (.own i e) env) s Q = wp (ev F e env) s fun d s => Q (.nx (env.set i (.own d))) s := by
  rw [ex]
  simp only [wp_bind, wp_pure]
@[simp] theorem wp_unp {is : List Nat} {e : E} : wp (ex F W (.unp is e) env) s Q = wp (ev F e env) s fun d s => ov (bindT env is true d) fun env => Q (.nx env) s := by
  rw [ex]
  simp only [wp_bind, wp_pure, wp_lift]
@[simp] theorem wp_par {is : List (Nat × Bool)} {es : Es} : wp (ex F W (.par is es) env) s Q = wp (evs F es env) s fun ds s => ov (putPar env is ds) fun env => Q (.nx env) s := by
  rw [ex]
  simp only [wp_bind, wp_pure, wp_lift]
@[simp] theorem wp_app {i : Nat} {e : E} : wp (ex F W (.app i e) env) s Q = wp (recv env i) s fun _ s => wp (ev F e env) s fun d s => wp (appD env i d) s fun env s => Q (.nx env) s := by
  rw [ex]
  simp only [wp_bind, wp_pure]
@[simp] theorem wp_setix {i : Nat} {k e : E} : wp (ex F W (.setix i k e) env) s Q = wp (ev F e env) s fun d s => ov (getV env i) fun _ => wp (ev F k env) s fun k s => wp (setD env i k d) s fun env s => Q (.nx env) s := by
  rw [ex]
  simp only [wp_bind, wp_pure, wp_lift]
@[simp] theorem wp_pop {i : Nat} {k : E} : wp (ex F W (.pop i k) env) s Q = wp (recv env i) s fun _ s => wp (ev F k env) s fun k s => wp (popD env i k) s fun r s => Q (.nx r.1) s := by
  rw [ex]
  simp only [wp_bind, wp_pure]
@[simp] theorem wp_apppop {i j : Nat} {k : E} : wp (ex F W (.apppop i j k) env) s Q = wp (recv env i) s fun _ s => wp (recv env j) s fun _ s => wp (ev F k env) s fun k s => wp (popD env j k) s fun r s => wp (appD r.1 i r.2) s fun env s => Q (.nx env) s := by
  rw [ex]
  simp only [wp_bind, wp_pure]
@[simp] theorem wp_ext {i : Nat} {e : E} : wp (ex F W (.ext i e) env) s Q = wp (recv env i) s fun _ s => wp (ev F e env) s fun d s => wp (extD env i d) s fun env s => Q (.nx env) s := by
  rw [ex]
  simp only [wp_bind, wp_pure]
@[simp] theorem wp_aug {i : Nat} {o : Bop} {e : E} : wp (ex F W (.aug i o e) env) s Q = ov (getV env i) fun x => wp (ev F e env) s fun d s => ov (augD o x d) fun z => Q (.nx (env.set i (.val z))) s := by
  rw [ex]
  simp only [wp_bind, wp_pure, wp_lift]
@[simp] theorem wp_ife {c : E} {a b : Sb} : wp (ex F W (.ife c a b) env) s Q = wp (ev F c env) s fun x s => tru x fun r => if r = true then wp (exs F W a env) s Q else wp (exs F W b env) s Q := by
  rw [ex]
  simp only [wp_bind, wp_tst, wp_ite]
@[simp] theorem wp_for {t : List Nat} {u : Bool} {i : Src} {b : Sb} : wp (ex F W (.for_ t u i b) env) s Q = wp (evi F false i env) s fun ds s => wp (forL (forB F W t u b) ds env) s Q := by
  rw [ex]
  simp only [wp_bind]
  rfl
@[simp] theorem wp_whl {c : E} {b : Sb} : wp (ex F W (.whl c b) env) s Q = wp (loopW (fun env => tst (ev F c env)) (fun env => exs F W b env) W env) s Q := by rw [ex]
@[simp] theorem wp_retS {e : E} : wp (ex F W (.ret e) env) s Q = wp (ev F e env) s fun d s => Q (.rt d) s := by
  rw [ex]
  simp only [wp_bind, wp_pure]
@[simp] theorem wp_pass : wp (ex F W .pass env) s Q = Q (.nx env) s := by rw [ex, wp_pure]
@[simp] theorem wp_cont : wp (ex F W .cont env) s Q = Q (.ct env) s := by rw [ex, wp_pure]
@[simp] theorem wp_exE {e : E} : wp (ex F W (.ex e) env) s Q = wp (ev F e env) s fun _ s => Q (.nx env) s := by
  rw [ex]
  simp only [wp_bind, wp_pure]
@[simp] theorem wp_never : wp (ex F W .never env) s Q = False := by rw [ex, wp_bad]
/-! ### loops -/
theorem wp_forL_nil {b : D → Envi → M Fl} : wp (forL b [] env) s Q = Q (.nx env) s := wp_eq rfl
theorem wp_forL_cons {b : D → Envi → M Fl} {d : D} {ds : List D} : wp (forL b (d :: ds) env) s Q = wp (b d env) s fun fl s => lpk fl (fun env => wp (forL b ds env) s Q) (fun f => Q f s) := by
  rw [forL, wp_bind]
  congr 1
  funext fl s'
  cases fl <;> first | exact wp_eq rfl | exact wp_bad | rfl
/-- a for by its invariant: what is left, the names, the store -/
theorem wp_forL {b : D → Envi → M Fl} (I : List D → Envi → Sto → Prop) : ∀ {ds : List D} {env : Envi} {s : Sto}, I ds env s → (∀ d ds env s, I (d :: ds) env s → wp (b d env) s fun fl s => lpk fl (fun env => I ds env s) (fun f => Q f s)) → (∀ env s, I [] env s → Q (.nx env) s) → wp (forL b ds env) s Q
  | [], env, s, h, _, h2 => by rw [wp_forL_nil]; exact h2 _ _ h
  | d :: ds, env, s, h, h1, h2 => by
    rw [wp_forL_cons]
    exact wp_mono (h1 d ds env s h) fun fl s' q => lpk_mono q (fun e i => wp_forL I i h1 h2) fun f q => q
theorem wp_loopW_succ {c : Envi → M Bool} {b : Envi → M Fl} {n : Nat} : wp (loopW c b (n + 1) env) s Q = wp (c env) s fun r s => if r = true then wp (b env) s fun fl s => lpk fl (fun env => wp (loopW c b n env) s Q) (fun f => Q f s) else Q (.nx env) s := by
  rw [loopW, wp_bind]
  congr 1
  funext r s'
  rw [wp_ite]
  cases r
  · rw [if_neg (by simp), if_neg (by simp)]
    exact wp_pure
  · rw [if_pos rfl, if_pos rfl, wp_bind]
    congr 1
    funext fl s'
    cases fl <;> first | exact wp_eq rfl | rfl
end
theorem wp_compL_nil {f : D → M (Option D)} {Q : List D → Sto → Prop} : wp (compL f []) s Q = Q [] s := wp_eq rfl
theorem wp_compL_cons {f : D → M (Option D)} {d : D} {ds : List D} {Q : List D → Sto → Prop} : wp (compL f (d :: ds)) s Q = wp (f d) s fun r s => wp (compL f ds) s fun rs s => Q (match r with | some x => x :: rs | none => rs) s := by
  rw [compL]
  (simp only [wp_bind, wp_pure]) <;> rfl
/-- a comprehension that changes nothing -/
theorem wp_compL_pure {f : D → M (Option D)} {g : D → Option D} {Q : List D → Sto → Prop} : ∀ {ds : List D}, (∀ d ∈ ds, ∀ Q, wp (f d) s Q = Q (g d) s) → wp (compL f ds) s Q = Q (ds.filterMap g) s
  | [], _ => wp_compL_nil
  | d :: ds, h => by
    rw [wp_compL_cons, h d (List.mem_cons_self ..), wp_compL_pure (fun d' m => h d' (List.mem_cons_of_mem _ m)), List.filterMap_cons]
    cases g d <;> rfl
theorem wp_compL_map {f : D → M (Option D)} {g : D → D} {Q : List D → Sto → Prop} {ds : List D} (h : ∀ d ∈ ds, ∀ Q, wp (f d) s Q = Q (some (g d)) s) : wp (compL f ds) s Q = Q (ds.map g) s := by
  rw [wp_compL_pure (g := fun d => some (g d)) h]
  congr 1
  induction ds with
  | nil => rfl
  | cons d ds ih => rw [List.filterMap_cons, List.map_cons, ih fun d' m => h d' (List.mem_cons_of_mem _ m)]
theorem wp_compL_filter {f : D → M (Option D)} {p : D → Bool} {g : D → D} {Q : List D → Sto → Prop} {ds : List D} (h : ∀ d ∈ ds, ∀ Q, wp (f d) s Q = Q (if p d = true then some (g d) else none) s) : wp (compL f ds) s Q = Q ((ds.filter p).map g) s := by
  rw [wp_compL_pure (g := fun d => if p d = true then some (g d) else none) h]
  congr 1
  clear h
  induction ds with
  | nil => rfl
  | cons d ds ih =>
    rw [List.filterMap_cons, List.filter_cons]
    cases hp : p d <;> simp [ih]
/-- a comprehension by its invariant: what is left, what is found, the store -/
theorem wp_compL_inv {f : D → M (Option D)} {Q : List D → Sto → Prop} (I : List D → List D → Sto → Prop) : ∀ {ds acc : List D} {s : Sto}, I ds acc s → (∀ d ds acc s, I (d :: ds) acc s → wp (f d) s fun r s => I ds (match r with | some x => acc ++ [x] | none => acc) s) → (∀ acc' s, I [] (acc ++ acc') s → Q acc' s) → wp (compL f ds) s Q
  | [], acc, s, h, _, h2 => by rw [wp_compL_nil]; exact h2 [] s (by rw [List.append_nil]; exact h)
  | d :: ds, acc, s, h, h1, h2 => by
    rw [wp_compL_cons]
    refine wp_mono (h1 d ds acc s h) fun r s' q => ?_
    refine wp_compL_inv I q h1 fun acc' s i => ?_
    refine h2 _ _ ?_
    cases r with
    | none => exact i
    | some x => rw [List.append_assoc] at i; exact i
theorem wp_compK_nil {f : D → M (Option (D × D))} {a : List D × List D} {Q : List D × List D → Sto → Prop} : wp (compK f [] a) s Q = Q a s := wp_eq rfl
theorem wp_compK_cons {f : D → M (Option (D × D))} {d : D} {ds : List D} {a : List D × List D} {Q : List D × List D → Sto → Prop} : wp (compK f (d :: ds) a) s Q = wp (f d) s fun r s => match r with
    | some r => ov (putM a r.1 r.2) fun a => wp (compK f ds a) s Q
    | none => wp (compK f ds a) s Q := by
  rw [compK, wp_bind]
  congr 1
  funext r s'
  cases r with
  | none => rfl
  | some r =>
    show wp (M.bnd _ _) _ _ = _
    rw [wp_bnd, wp_lift]
/-! ### lists that are changed -/
theorem wp_mat {α β : Type} {m : M α} {o : Option β} {g : β → α} {t : β → Sto} {s : Sto} {Q : α → Sto → Prop} (e : m s = match o with | some b => .ok (g b) (t b) | none => .bad) : wp m s Q = ov o fun b => Q (g b) (t b) := by
  cases o with
  | none => exact propext ⟨fun ⟨_, _, e', _⟩ => (by rw [e] at e'; cases e'), False.elim⟩
  | some b => exact wp_eq e
theorem wp_recv_own {i : Nat} {ds : List D} {Q : Unit → Sto → Prop} (h : env[i]? = some (.own (.lst ds))) : wp (recv env i) s Q = Q () s := by
  refine wp_eq ?_
  unfold recv
  simp [h]
theorem wp_recv_cell {i n : Nat} {ds : List D} {Q : Unit → Sto → Prop} (h : env[i]? = some (.val (.cell n))) (h2 : s[n]? = some (.lst ds)) : wp (recv env i) s Q = Q () s := by
  refine wp_eq ?_
  unfold recv
  simp [h, h2]
theorem wp_onL_own {i : Nat} {ds : List D} {f : List D → Option (List D)} {Q : Envi → Sto → Prop} (h : env[i]? = some (.own (.lst ds))) : wp (onList env i f) s Q = ov (f ds) fun es => Q (env.set i (.own (.lst es))) s := by
  refine wp_mat ?_
  unfold onList
  simp only [h]
  cases f ds <;> rfl
theorem wp_onL_cell {i n : Nat} {ds : List D} {f : List D → Option (List D)} {Q : Envi → Sto → Prop} (h : env[i]? = some (.val (.cell n))) (h2 : s[n]? = some (.lst ds)) : wp (onList env i f) s Q = ov (f ds) fun es => Q env (s.set n (.lst es)) := by
  refine wp_mat (t := fun es => s.set n (.lst es)) ?_
  unfold onList
  simp only [h, h2]
  cases f ds <;> rfl
theorem wp_app_own {i : Nat} {ds : List D} {d : D} {Q : Envi → Sto → Prop} (h : env[i]? = some (.own (.lst ds))) : wp (appD env i d) s Q = (ds.length < LIM ∧ Q (env.set i (.own (.lst (ds ++ [d])))) s) := by
  unfold appD
  rw [wp_onL_own h]
  by_cases c : ds.length < LIM <;> simp [c]
theorem wp_app_cell {i n : Nat} {ds : List D} {d : D} {Q : Envi → Sto → Prop} (h : env[i]? = some (.val (.cell n))) (h2 : s[n]? = some (.lst ds)) : wp (appD env i d) s Q = (ds.length < LIM ∧ Q env (s.set n (.lst (ds ++ [d])))) := by
  unfold appD
  rw [wp_onL_cell h h2]
  by_cases c : ds.length < LIM <;> simp [c]
theorem wp_ext_own {i : Nat} {ds es : List D} {Q : Envi → Sto → Prop} (h : env[i]? = some (.own (.lst ds))) : wp (extD env i (.lst es)) s Q = (ds.length + es.length ≤ LIM ∧ Q (env.set i (.own (.lst (ds ++ es)))) s) := by
  unfold extD
  rw [wp_onL_own h]
  by_cases c : ds.length + es.length ≤ LIM <;> simp [c]
theorem wp_set_own {i : Nat} {ds : List D} {k : Int} {e : D} {Q : Envi → Sto → Prop} (h : env[i]? = some (.own (.lst ds))) : wp (setD env i (.int k) e) s Q = ov (ixN ds.length k) fun j => Q (env.set i (.own (.lst (ds.set j e)))) s := by
  unfold setD
  simp only [h]
  rw [wp_onL_own h]
  cases ixN ds.length k <;> rfl
theorem wp_set_cell {i n : Nat} {ds : List D} {k : Int} {e : D} {Q : Envi → Sto → Prop} (h : env[i]? = some (.val (.cell n))) (h2 : s[n]? = some (.lst ds)) : wp (setD env i (.int k) e) s Q = ov (ixN ds.length k) fun j => Q env (s.set n (.lst (ds.set j e))) := by
  unfold setD
  simp only [h]
  rw [wp_onL_cell h h2]
  cases ixN ds.length k <;> rfl
theorem wp_set_dic {i : Nat} {ks vs : List D} {k e : D} {Q : Envi → Sto → Prop} (h : env[i]? = some (.own (.dic ks vs))) : wp (setD env i k e) s Q = ((isKey k = true ∧ ks.length < LIM) ∧ Q (env.set i (.own (.dic (putD ks vs k e).1 (putD ks vs k e).2))) s) := by
  unfold setD
  simp only [h]
  rw [wp_ite]
  cases isKey k <;> by_cases c : ks.length < LIM <;> simp [c]
theorem wp_pop_own {i : Nat} {ds : List D} {k : D} {Q : Envi × D → Sto → Prop} (h : env[i]? = some (.own (.lst ds))) : wp (popD env i k) s Q = ov (popAt ds k) fun r => Q (env.set i (.own (.lst r.2)), r.1) s := by
  refine wp_mat (g := fun (r : D × List D) => (env.set i (.own (.lst r.2)), r.1)) ?_
  unfold popD
  simp only [h]
  cases popAt ds k <;> rfl
theorem wp_pop_cell {i n : Nat} {ds : List D} {k : D} {Q : Envi × D → Sto → Prop} (h : env[i]? = some (.val (.cell n))) (h2 : s[n]? = some (.lst ds)) : wp (popD env i k) s Q = ov (popAt ds k) fun r => Q (env, r.1) (s.set n (.lst r.2)) := by
  refine wp_mat (g := fun (r : D × List D) => (env, r.1)) (t := fun (r : D × List D) => s.set n (.lst r.2)) ?_
  unfold popD
  simp only [h, h2]
  cases popAt ds k <;> rfl
/-! ### names -/
@[simp] theorem getV_0v {d : D} {env : Envi} : getV (.val d :: env) 0 = some d := rfl
@[simp] theorem getV_0o {d : D} {env : Envi} : getV (.own d :: env) 0 = some d := rfl
@[simp] theorem getV_s {x : Sl} {env : Envi} {i : Nat} : getV (x :: env) (i + 1) = getV env i := rfl
@[simp] theorem takeV_0v {d : D} {env : Envi} : takeV (.val d :: env) 0 = some d := rfl
@[simp] theorem takeV_s {x : Sl} {env : Envi} {i : Nat} : takeV (x :: env) (i + 1) = takeV env i := rfl
/-! ### calls -/
theorem wp_run {T : List Fn} {W n f : Nat} {ds : List D} {fn : Fn} (h : T[f]? = some fn) (hl : ds.length = fn.np) : wp (runF T W (n + 1) f ds) s Q = wp (exs (runF T W n) W fn.body (startE fn ds)) s fun fl s => match fl with
    | .rt d => Q d s
    | .nx _ => Q .non s
    | .ct _ => False := by
  show wp (match T[f]? with | some fn => _ | none => _) s Q = _
  rw [h]
  show wp (if _ then _ else _) s Q = _
  rw [if_pos hl, wp_bind]
  congr 1
  funext fl s'
  cases fl <;> first | exact wp_eq rfl | exact wp_bad | rfl
end
end Ev

set_option Elab.async false
set_option linter.all false
set_option maxRecDepth 100000
set_option maxHeartbeats 2000000
namespace Ev
open PySem
/-! ### small data -/
mutual
/-- plain, nested at most n deep, short texts, rows of at most L members -/
def D.gl (L : Nat) : D → Nat → Bool
  | .non, _ => true
  | .bl _, _ => true
  | .int _, _ => true
  | .str z, _ => decide (z.cps.size ≤ 100)
  | .tup ds, n => match n with | 0 => false | n + 1 => decide (ds.length ≤ L) && D.gls L ds n
  | .lst ds, n => match n with | 0 => false | n + 1 => decide (ds.length ≤ L) && D.gls L ds n
  | .dic _ _, _ => false
  | .cell _, _ => false
def D.gls (L : Nat) : List D → Nat → Bool
  | [], _ => true
  | d :: ds, n => d.gl L n && D.gls L ds n
end
theorem gls_iff {L n : Nat} : ∀ {ds : List D}, D.gls L ds n = true ↔ ∀ d ∈ ds, d.gl L n = true
  | [] => by simp [D.gls]
  | d :: ds => by simp [D.gls, gls_iff]
mutual
theorem gl_pl {L : Nat} : ∀ (d : D) (n m : Nat), n ≤ m → d.gl L n = true → d.pl m = true
  | .non, _, _, _, _ => rfl
  | .bl _, _, _, _, _ => rfl
  | .int _, _, _, _, _ => rfl
  | .str _, _, _, _, _ => rfl
  | .tup ds, n, m, l, h => by
    match n, m with
    | n + 1, m + 1 => exact gls_pls ds n m (by omega) ((Bool.and_eq_true _ _).mp h).2
    | 0, _ => exact absurd h (by simp [D.gl])
    | n + 1, 0 => omega
  | .lst ds, n, m, l, h => by
    match n, m with
    | n + 1, m + 1 => exact gls_pls ds n m (by omega) ((Bool.and_eq_true _ _).mp h).2
    | 0, _ => exact absurd h (by simp [D.gl])
    | n + 1, 0 => omega
  | .dic _ _, _, _, _, h => by simp [D.gl] at h
  | .cell _, _, _, _, h => by simp [D.gl] at h
theorem gls_pls {L : Nat} : ∀ (ds : List D) (n m : Nat), n ≤ m → D.gls L ds n = true → D.pls ds m = true
  | [], _, _, _, _ => rfl
  | d :: ds, n, m, l, h => by
    simp only [D.gls, D.pls, Bool.and_eq_true] at *
    exact ⟨gl_pl d n m l h.1, gls_pls ds n m l h.2⟩
end
mutual
theorem gl_mono {L L' : Nat} (hL : L ≤ L') : ∀ (d : D) (n m : Nat), n ≤ m → d.gl L n = true → d.gl L' m = true
  | .non, _, _, _, _ => rfl
  | .bl _, _, _, _, _ => rfl
  | .int _, _, _, _, _ => rfl
  | .str _, _, _, _, h => h
  | .tup ds, n, m, l, h => by
    match n, m with
    | n + 1, m + 1 =>
      have h := (Bool.and_eq_true _ _).mp h
      exact (Bool.and_eq_true _ _).mpr ⟨decide_eq_true (Nat.le_trans (of_decide_eq_true h.1) hL), gls_mono hL ds n m (by omega) h.2⟩
    | 0, _ => exact absurd h (by simp [D.gl])
    | n + 1, 0 => omega
  | .lst ds, n, m, l, h => by
    match n, m with
    | n + 1, m + 1 =>
      have h := (Bool.and_eq_true _ _).mp h
      exact (Bool.and_eq_true _ _).mpr ⟨decide_eq_true (Nat.le_trans (of_decide_eq_true h.1) hL), gls_mono hL ds n m (by omega) h.2⟩
    | 0, _ => exact absurd h (by simp [D.gl])
    | n + 1, 0 => omega
  | .dic _ _, _, _, _, h => by simp [D.gl] at h
  | .cell _, _, _, _, h => by simp [D.gl] at h
theorem gls_mono {L L' : Nat} (hL : L ≤ L') : ∀ (ds : List D) (n m : Nat), n ≤ m → D.gls L ds n = true → D.gls L' ds m = true
  | [], _, _, _, _ => rfl
  | d :: ds, n, m, l, h => by
    simp only [D.gls, Bool.and_eq_true] at *
    exact ⟨gl_mono hL d n m l h.1, gls_mono hL ds n m l h.2⟩
end
theorem gl_tup {L n : Nat} {ds : List D} : (D.tup ds).gl L (n + 1) = true ↔ ds.length ≤ L ∧ ∀ d ∈ ds, d.gl L n = true := by
  rw [← gls_iff, ← decide_eq_true_iff (p := ds.length ≤ L)]
  exact Bool.and_eq_true _ _ ▸ Iff.rfl
theorem gl_lst {L n : Nat} {ds : List D} : (D.lst ds).gl L (n + 1) = true ↔ ds.length ≤ L ∧ ∀ d ∈ ds, d.gl L n = true := by
  rw [← gls_iff, ← decide_eq_true_iff (p := ds.length ≤ L)]
  exact Bool.and_eq_true _ _ ▸ Iff.rfl
/-- good data -/
def G (d : D) : Prop := d.gl 1000 30 = true
theorem G.plain {d : D} (h : G d) : d.plain = true := gl_pl d 30 40 (by decide) h
theorem G.tup {ds : List D} (h : G (.tup ds)) : ∀ d ∈ ds, G d := fun d m => gl_mono (Nat.le_refl _) d 29 30 (by decide) ((gl_tup.mp h).2 d m)
theorem G.lst {ds : List D} (h : G (.lst ds)) : ∀ d ∈ ds, G d := fun d m => gl_mono (Nat.le_refl _) d 29 30 (by decide) ((gl_lst.mp h).2 d m)
theorem G.tupLen {ds : List D} (h : G (.tup ds)) : ds.length ≤ 1000 := (gl_tup.mp h).1
theorem G.lstLen {ds : List D} (h : G (.lst ds)) : ds.length ≤ 1000 := (gl_lst.mp h).1
theorem G.str {z : Str} (h : G (.str z)) : z.cps.size ≤ 100 := by simpa [G, D.gl] using h
theorem G.notcell {n : Nat} (h : G (.cell n)) : False := by simp [G, D.gl] at h
theorem G.notdic {a b : List D} (h : G (.dic a b)) : False := by simp [G, D.gl] at h
@[simp] theorem pl_non {n : Nat} : D.pl .non n = true := rfl
@[simp] theorem pl_bl {n : Nat} {b : Bool} : D.pl (.bl b) n = true := rfl
@[simp] theorem pl_int {n : Nat} {b : Int} : D.pl (.int b) n = true := rfl
@[simp] theorem pl_str {n : Nat} {b : Str} : D.pl (.str b) n = true := rfl
@[simp] theorem pl_tup {n : Nat} {b : List D} : D.pl (.tup b) (n + 1) = D.pls b n := rfl
@[simp] theorem pl_lst {n : Nat} {b : List D} : D.pl (.lst b) (n + 1) = D.pls b n := rfl
@[simp] theorem pls_nil {n : Nat} : D.pls [] n = true := rfl
@[simp] theorem pls_cons {n : Nat} {d : D} {ds : List D} : D.pls (d :: ds) n = (d.pl n && D.pls ds n) := rfl
@[simp] theorem plain_non : D.plain .non = true := rfl
@[simp] theorem plain_bl {b : Bool} : D.plain (.bl b) = true := rfl
@[simp] theorem plain_int {b : Int} : D.plain (.int b) = true := rfl
@[simp] theorem plain_str {b : Str} : D.plain (.str b) = true := rfl
@[simp] theorem plain_tup {b : List D} : D.plain (.tup b) = D.pls b 39 := rfl
@[simp] theorem plain_lst {b : List D} : D.plain (.lst b) = D.pls b 39 := rfl
theorem pls_map {α : Type} {f : α → D} {n : Nat} : ∀ {xs : List α}, (∀ x ∈ xs, (f x).pl n = true) → D.pls (xs.map f) n = true
  | [], _ => rfl
  | x :: xs, h => by
    rw [List.map_cons, pls_cons, Bool.and_eq_true]
    exact ⟨h x (List.mem_cons_self ..), pls_map fun y m => h y (List.mem_cons_of_mem _ m)⟩
@[simp] theorem pls_int {n : Nat} {xs : List Int} : D.pls (xs.map .int) n = true := pls_map fun _ _ => rfl
@[simp] theorem pls_str {n : Nat} {xs : List Str} : D.pls (xs.map .str) n = true := pls_map fun _ _ => rfl
@[simp] theorem allB_map {α : Type} {p : α → Bool} : ∀ {xs : List α}, allB (xs.map fun a => .bl (p a)) = some (xs.map p)
  | [] => rfl
  | x :: xs => by rw [List.map_cons, allB, allB_map]; rfl
@[simp] theorem allS_map : ∀ {xs : List Str}, allS (xs.map .str) = some xs
  | [] => rfl
  | x :: xs => by rw [List.map_cons, allS, allS_map]; rfl
@[simp] theorem allI_map : ∀ {xs : List Int}, allI (xs.map .int) = some xs
  | [] => rfl
  | x :: xs => by rw [List.map_cons, allI, allI_map]; rfl
theorem wp_compL_mapf {α : Type} {f : D → M (Option D)} {h : α → D} {g : α → D} {s : Sto} {Q : List D → Sto → Prop} : ∀ {xs : List α}, (∀ a ∈ xs, ∀ Q, wp (f (h a)) s Q = Q (some (g a)) s) → wp (compL f (xs.map h)) s Q = Q (xs.map g) s
  | [], _ => wp_compL_nil
  | x :: xs, e => by
    rw [List.map_cons, wp_compL_cons, e x (List.mem_cons_self ..), wp_compL_mapf fun a m => e a (List.mem_cons_of_mem _ m)]
    rfl
/-! ### operators on small data -/
@[simp] theorem cop_le_int {i j : Int} : copD .le (.int i) (.int j) = some (decide (i ≤ j)) := rfl
@[simp] theorem cop_lt_int {i j : Int} : copD .lt (.int i) (.int j) = some (decide (i < j)) := rfl
@[simp] theorem cop_ge_int {i j : Int} : copD .ge (.int i) (.int j) = some (decide (j ≤ i)) := rfl
@[simp] theorem cop_gt_int {i j : Int} : copD .gt (.int i) (.int j) = some (decide (j < i)) := rfl
theorem cop_eq {a b : D} (h : a.plain = true) (h' : b.plain = true) : copD .eq a b = some (D.eqv a b) := by simp [copD, h, h']
theorem cop_ne {a b : D} (h : a.plain = true) (h' : b.plain = true) : copD .ne a b = some (!D.eqv a b) := by simp [copD, h, h']
@[simp] theorem cop_eq_int {i j : Int} : copD .eq (.int i) (.int j) = some (i == j) := rfl
@[simp] theorem cop_ne_int {i j : Int} : copD .ne (.int i) (.int j) = some (!(i == j)) := rfl
@[simp] theorem cop_eq_str {i j : Str} : copD .eq (.str i) (.str j) = some (i == j) := rfl
@[simp] theorem cop_ne_str {i j : Str} : copD .ne (.str i) (.str j) = some (!(i == j)) := rfl
@[simp] theorem cop_eq_bl {i j : Bool} : copD .eq (.bl i) (.bl j) = some (i == j) := rfl
@[simp] theorem cop_ne_bl {i j : Bool} : copD .ne (.bl i) (.bl j) = some (!(i == j)) := rfl
@[simp] theorem cop_in {a b : D} : copD .in_ a b = inD a b := rfl
@[simp] theorem cop_nin {a b : D} : copD .nin a b = (inD a b).map not := rfl
@[simp] theorem eqv_nil_l {xs : List D} : D.eqvs [] xs = xs.isEmpty := by cases xs <;> rfl
@[simp] theorem eqv_nil_r {xs : List D} : D.eqvs xs [] = xs.isEmpty := by cases xs <;> rfl
@[simp] theorem eqvs_cons {x y : D} {xs ys : List D} : D.eqvs (x :: xs) (y :: ys) = (D.eqv x y && D.eqvs xs ys) := rfl
@[simp] theorem eqv_tup {xs ys : List D} : D.eqv (.tup xs) (.tup ys) = D.eqvs xs ys := rfl
@[simp] theorem eqv_lst {xs ys : List D} : D.eqv (.lst xs) (.lst ys) = D.eqvs xs ys := rfl
@[simp] theorem eqv_int {i j : Int} : D.eqv (.int i) (.int j) = (i == j) := rfl
@[simp] theorem eqv_str {i j : Str} : D.eqv (.str i) (.str j) = (i == j) := rfl
@[simp] theorem eqv_bl {i j : Bool} : D.eqv (.bl i) (.bl j) = (i == j) := rfl
@[simp] theorem eqv_tup_lst {xs ys : List D} : D.eqv (.tup xs) (.lst ys) = false := rfl
@[simp] theorem eqv_lst_tup {xs ys : List D} : D.eqv (.lst xs) (.tup ys) = false := rfl
theorem eqvs_map {α : Type} [DecidableEq α] {f : α → D} (h : ∀ a b, D.eqv (f a) (f b) = decide (a = b)) : ∀ {xs ys : List α}, D.eqvs (xs.map f) (ys.map f) = decide (xs = ys)
  | [], [] => rfl
  | [], y :: ys => by simp
  | x :: xs, [] => by simp
  | x :: xs, y :: ys => by
    rw [List.map_cons, List.map_cons, eqvs_cons, h, eqvs_map h]
    by_cases e : x = y <;> simp [e]
@[simp] theorem eqvs_str {xs ys : List Str} : D.eqvs (xs.map .str) (ys.map .str) = decide (xs = ys) := eqvs_map fun a b => by rw [Bool.eq_iff_iff]; simp
@[simp] theorem eqvs_int {xs ys : List Int} : D.eqvs (xs.map .int) (ys.map .int) = decide (xs = ys) := eqvs_map fun a b => by rw [Bool.eq_iff_iff]; simp
@[simp] theorem ty_int_non : tyD .int .non = false := rfl
@[simp] theorem ty_int_bl {b : Bool} : tyD .int (.bl b) = true := rfl
@[simp] theorem ty_int_int {b : Int} : tyD .int (.int b) = true := rfl
@[simp] theorem ty_int_str {b : Str} : tyD .int (.str b) = false := rfl
@[simp] theorem ty_int_tup {b : List D} : tyD .int (.tup b) = false := rfl
@[simp] theorem ty_int_lst {b : List D} : tyD .int (.lst b) = false := rfl
@[simp] theorem ty_int_dic {a b : List D} : tyD .int (.dic a b) = false := rfl
@[simp] theorem ty_int_cell {b : Nat} : tyD .int (.cell b) = false := rfl
@[simp] theorem ty_bool_non : tyD .bool .non = false := rfl
@[simp] theorem ty_bool_bl {b : Bool} : tyD .bool (.bl b) = true := rfl
@[simp] theorem ty_bool_int {b : Int} : tyD .bool (.int b) = false := rfl
@[simp] theorem ty_bool_str {b : Str} : tyD .bool (.str b) = false := rfl
@[simp] theorem ty_bool_tup {b : List D} : tyD .bool (.tup b) = false := rfl
@[simp] theorem ty_bool_lst {b : List D} : tyD .bool (.lst b) = false := rfl
@[simp] theorem ty_bool_dic {a b : List D} : tyD .bool (.dic a b) = false := rfl
@[simp] theorem ty_bool_cell {b : Nat} : tyD .bool (.cell b) = false := rfl
@[simp] theorem ty_str_non : tyD .str .non = false := rfl
@[simp] theorem ty_str_bl {b : Bool} : tyD .str (.bl b) = false := rfl
@[simp] theorem ty_str_int {b : Int} : tyD .str (.int b) = false := rfl
@[simp] theorem ty_str_str {b : Str} : tyD .str (.str b) = true := rfl
@[simp] theorem ty_str_tup {b : List D} : tyD .str (.tup b) = false := rfl
@[simp] theorem ty_str_lst {b : List D} : tyD .str (.lst b) = false := rfl
@[simp] theorem ty_str_dic {a b : List D} : tyD .str (.dic a b) = false := rfl
@[simp] theorem ty_str_cell {b : Nat} : tyD .str (.cell b) = false := rfl
@[simp] theorem ty_tup_non : tyD .tup .non = false := rfl
@[simp] theorem ty_tup_bl {b : Bool} : tyD .tup (.bl b) = false := rfl
@[simp] theorem ty_tup_int {b : Int} : tyD .tup (.int b) = false := rfl
@[simp] theorem ty_tup_str {b : Str} : tyD .tup (.str b) = false := rfl
@[simp] theorem ty_tup_tup {b : List D} : tyD .tup (.tup b) = true := rfl
@[simp] theorem ty_tup_lst {b : List D} : tyD .tup (.lst b) = false := rfl
@[simp] theorem ty_tup_dic {a b : List D} : tyD .tup (.dic a b) = false := rfl
@[simp] theorem ty_tup_cell {b : Nat} : tyD .tup (.cell b) = false := rfl
@[simp] theorem ty_lst_non : tyD .lst .non = false := rfl
@[simp] theorem ty_lst_bl {b : Bool} : tyD .lst (.bl b) = false := rfl
@[simp] theorem ty_lst_int {b : Int} : tyD .lst (.int b) = false := rfl
@[simp] theorem ty_lst_str {b : Str} : tyD .lst (.str b) = false := rfl
@[simp] theorem ty_lst_tup {b : List D} : tyD .lst (.tup b) = false := rfl
@[simp] theorem ty_lst_lst {b : List D} : tyD .lst (.lst b) = true := rfl
@[simp] theorem ty_lst_dic {a b : List D} : tyD .lst (.dic a b) = false := rfl
@[simp] theorem ty_lst_cell {b : Nat} : tyD .lst (.cell b) = true := rfl
@[simp] theorem ty_dict_non : tyD .dict .non = false := rfl
@[simp] theorem ty_dict_bl {b : Bool} : tyD .dict (.bl b) = false := rfl
@[simp] theorem ty_dict_int {b : Int} : tyD .dict (.int b) = false := rfl
@[simp] theorem ty_dict_str {b : Str} : tyD .dict (.str b) = false := rfl
@[simp] theorem ty_dict_tup {b : List D} : tyD .dict (.tup b) = false := rfl
@[simp] theorem ty_dict_lst {b : List D} : tyD .dict (.lst b) = false := rfl
@[simp] theorem ty_dict_dic {a b : List D} : tyD .dict (.dic a b) = true := rfl
@[simp] theorem ty_dict_cell {b : Nat} : tyD .dict (.cell b) = false := rfl
@[simp] theorem bw_len {d : D} : biD .len [d] = lenD d := rfl
@[simp] theorem bw_int {d : D} : biD .int_ [d] = intD d := rfl
@[simp] theorem bw_all {d : D} : biD .all [d] = allD d := rfl
@[simp] theorem bw_any {d : D} : biD .any [d] = anyD d := rfl
@[simp] theorem bw_sum {d : D} : biD .sum [d] = sumD d := rfl
@[simp] theorem bw_abs {d : D} : biD .abs [d] = absD d := rfl
@[simp] theorem bi_srt {d : D} : biD .srt [d] = sortedD d := rfl
@[simp] theorem bi_srtset {d : D} : biD .srtset [d] = sortedSetD d := rfl
@[simp] theorem bi_lenset {d : D} : biD .lenset [d] = lenSetD d := rfl
@[simp] theorem bw_repr {d : D} : biD .repr [d] = reprD d := rfl
@[simp] theorem bw_min {i j : Int} : biD .min2 [.int i, .int j] = some (.int (if j < i then j else i)) := rfl
@[simp] theorem bw_max {i j : Int} : biD .max2 [.int i, .int j] = some (.int (if j > i then j else i)) := rfl
@[simp] theorem len_tup {ds : List D} : lenD (.tup ds) = some (.int ds.length) := rfl
@[simp] theorem len_lst {ds : List D} : lenD (.lst ds) = some (.int ds.length) := rfl
@[simp] theorem len_dic {ks vs : List D} : lenD (.dic ks vs) = some (.int ks.length) := rfl
theorem len_str {z : Str} (h : z.cps.size ≤ LIM) : lenD (.str z) = some (.int z.cps.size) := by
  show (if z.cps.size ≤ LIM then _ else _) = _
  rw [if_pos h]
  rfl
@[simp] theorem int_int {i : Int} : intD (.int i) = some (.int i) := rfl
@[simp] theorem int_bl {b : Bool} : intD (.bl b) = some (.int (if b then 1 else 0)) := rfl
@[simp] theorem all_map {α : Type} {p : α → Bool} {xs : List α} : allD (.lst (xs.map fun a => .bl (p a))) = some (.bl (xs.all p)) := by
  simp [allD, Function.comp_def]
@[simp] theorem any_map {α : Type} {p : α → Bool} {xs : List α} : anyD (.lst (xs.map fun a => .bl (p a))) = some (.bl (xs.any p)) := by
  simp [anyD, Function.comp_def]
@[simp] theorem it_tup {ds : List D} : itD (.tup ds) = some ds := rfl
@[simp] theorem it_lst {ds : List D} : itD (.lst ds) = some ds := rfl
theorem it_str {z : Str} (h : z.cps.size ≤ LIM) : itD (.str z) = some (z.cps.toList.map fun c => .str ⟨#[c]⟩) := by
  show (if z.cps.size ≤ LIM then _ else _) = _
  rw [if_pos h]
@[simp] theorem seq_tup {ds : List D} : seqD (.tup ds) = some ds := rfl
@[simp] theorem seq_lst {ds : List D} : seqD (.lst ds) = some ds := rfl
@[simp] theorem in_chr {c : Nat} {z : Str} : inD (.str ⟨#[c]⟩) (.str z) = some (decide (c ∈ z.cps.toList)) := rfl
theorem in_tup {x : D} {ys : List D} (h : x.plain = true) (h' : D.plains ys = true) : inD x (.tup ys) = some (ys.any fun y => D.eqv y x) := by simp [inD, h, h']
theorem in_lst {x : D} {ys : List D} (h : x.plain = true) (h' : D.plains ys = true) : inD x (.lst ys) = some (ys.any fun y => D.eqv y x) := by simp [inD, h, h']
@[simp] theorem plains_int {xs : List Int} : D.plains (xs.map .int) = true := pls_int
@[simp] theorem plains_str {xs : List Str} : D.plains (xs.map .str) = true := pls_str
@[simp] theorem bop_add {a b : D} : bopD .add a b = addD a b := rfl
@[simp] theorem bop_sub {a b : D} : bopD .sub a b = subD a b := rfl
@[simp] theorem bop_mul {a b : D} : bopD .mul a b = mulD a b := rfl
@[simp] theorem bop_fdiv {a b : D} : bopD .fdiv a b = fdivD a b := rfl
@[simp] theorem bop_mod {a b : D} : bopD .mod a b = modD a b := rfl
@[simp] theorem bop_pow {a b : D} : bopD .pow a b = powD a b := rfl
@[simp] theorem add_int {i j : Int} : addD (.int i) (.int j) = some (.int (i + j)) := rfl
@[simp] theorem sub_int {i j : Int} : subD (.int i) (.int j) = some (.int (i - j)) := rfl
theorem add_tup {xs ys : List D} (h : xs.length + ys.length ≤ LIM) : addD (.tup xs) (.tup ys) = some (.tup (xs ++ ys)) := by
  show (if _ then _ else _) = _
  rw [if_pos h]
theorem add_lst {xs ys : List D} (h : xs.length + ys.length ≤ LIM) : addD (.lst xs) (.lst ys) = some (.lst (xs ++ ys)) := by
  show (if _ then _ else _) = _
  rw [if_pos h]
theorem cat_lst {xs ys : List D} (h : xs.length + ys.length ≤ LIM) : catD (.lst xs) (.lst ys) = some (.lst (xs ++ ys)) := by
  show (if _ then _ else _) = _
  rw [if_pos h]
theorem mod_int {i j : Int} (h : 0 < j) : modD (.int i) (.int j) = some (.int (i % j)) := by
  show (if _ then _ else _) = _
  rw [if_pos h]
@[simp] theorem slD_tup {ds : List D} {l h : Option Int} : slD (.tup ds) l h = some (.tup (cut ds l h)) := rfl
@[simp] theorem slD_lst {ds : List D} {l h : Option Int} : slD (.lst ds) l h = some (.lst (cut ds l h)) := rfl
@[simp] theorem isKey_str {z : Str} : isKey (.str z) = true := rfl
@[simp] theorem isKey_int {z : Int} : isKey (.int z) = true := rfl
@[simp] theorem in_dic_str {ks vs : List D} {z : Str} : inD (.str z) (.dic ks vs) = some (keyAt ks vs (.str z)).isSome := rfl
@[simp] theorem in_dic_int {ks vs : List D} {z : Int} : inD (.int z) (.dic ks vs) = some (keyAt ks vs (.int z)).isSome := rfl
@[simp] theorem ix_dic_str {ks vs : List D} {z : Str} : ixD (.dic ks vs) (.str z) = keyAt ks vs (.str z) := rfl
@[simp] theorem ix_dic_int {ks vs : List D} {z : Int} : ixD (.dic ks vs) (.int z) = keyAt ks vs (.int z) := rfl
theorem ixN_nat {n k : Nat} (h : k < n) : ixN n (k : Int) = some k := by
  unfold ixN
  rw [if_pos (by omega), if_pos (by omega)]
  simp
theorem ixN_int {n : Nat} {k : Int} (h : 0 ≤ k) (h' : k < n) : ixN n k = some k.toNat := by
  unfold ixN
  rw [if_pos h, if_pos h']
theorem ix_tup {ds : List D} {k : Nat} {d : D} (h : ds[k]? = some d) : ixD (.tup ds) (.int (k : Int)) = some d := by
  have : k < ds.length := (List.getElem?_eq_some_iff.mp h).1
  show (ixN _ _).bind _ = _
  rw [ixN_nat this]
  exact h
theorem ix_lst {ds : List D} {k : Nat} {d : D} (h : ds[k]? = some d) : ixD (.lst ds) (.int (k : Int)) = some d := by
  have : k < ds.length := (List.getElem?_eq_some_iff.mp h).1
  show (ixN _ _).bind _ = _
  rw [ixN_nat this]
  exact h
theorem ix_tupI {ds : List D} {k : Int} {d : D} (h0 : 0 ≤ k) (h : ds[k.toNat]? = some d) : ixD (.tup ds) (.int k) = some d := by
  obtain ⟨n, rfl⟩ := Int.eq_ofNat_of_zero_le h0
  exact ix_tup h
theorem ix_lstI {ds : List D} {k : Int} {d : D} (h0 : 0 ≤ k) (h : ds[k.toNat]? = some d) : ixD (.lst ds) (.int k) = some d := by
  obtain ⟨n, rfl⟩ := Int.eq_ofNat_of_zero_le h0
  exact ix_lst h
@[simp] theorem ix_tup0 {d : D} {ds : List D} : ixD (.tup (d :: ds)) (.int 0) = some d := ix_tup (k := 0) rfl
@[simp] theorem ix_tup1 {d0 d : D} {ds : List D} : ixD (.tup (d0 :: d :: ds)) (.int 1) = some d := ix_tup (k := 1) rfl
@[simp] theorem ix_tup2 {d0 d1 d : D} {ds : List D} : ixD (.tup (d0 :: d1 :: d :: ds)) (.int 2) = some d := ix_tup (k := 2) rfl
@[simp] theorem ix_tup3 {d0 d1 d2 d : D} {ds : List D} : ixD (.tup (d0 :: d1 :: d2 :: d :: ds)) (.int 3) = some d := ix_tup (k := 3) rfl
@[simp] theorem ix_lst0 {d : D} {ds : List D} : ixD (.lst (d :: ds)) (.int 0) = some d := ix_lst (k := 0) rfl
@[simp] theorem ix_lst1 {d0 d : D} {ds : List D} : ixD (.lst (d0 :: d :: ds)) (.int 1) = some d := ix_lst (k := 1) rfl
@[simp] theorem ix_lst2 {d0 d1 d : D} {ds : List D} : ixD (.lst (d0 :: d1 :: d :: ds)) (.int 2) = some d := ix_lst (k := 2) rfl
@[simp] theorem bindT1 {env : Envi} {i : Nat} {d : D} : bindT env [i] false d = some (env.set i (.val d)) := rfl
@[simp] theorem bindT_tup {env : Envi} {t : List Nat} {ds : List D} : bindT env t true (.tup ds) = putAll env t ds := rfl
@[simp] theorem bindT_lst {env : Envi} {t : List Nat} {ds : List D} : bindT env t true (.lst ds) = putAll env t ds := rfl
@[simp] theorem putAll_nil {env : Envi} : putAll env [] [] = some env := rfl
@[simp] theorem putAll_cons {env : Envi} {i : Nat} {is : List Nat} {d : D} {ds : List D} : putAll env (i :: is) (d :: ds) = putAll (env.set i (.val d)) is ds := rfl
@[simp] theorem putPar_nil {env : Envi} : putPar env [] [] = some env := rfl
@[simp] theorem putPar_consF {env : Envi} {i : Nat} {is : List (Nat × Bool)} {d : D} {ds : List D} : putPar env ((i, false) :: is) (d :: ds) = putPar (env.set i (.val d)) is ds := rfl
@[simp] theorem putPar_consT {env : Envi} {i : Nat} {is : List (Nat × Bool)} {d : D} {ds : List D} : putPar env ((i, true) :: is) (d :: ds) = putPar (env.set i (.own d)) is ds := rfl
@[simp] theorem wipe_nil {env : Envi} : wipe env [] = env := rfl
@[simp] theorem wipe_cons {env : Envi} {i : Nat} {is : List Nat} : wipe env (i :: is) = (wipe env is).set i .no := rfl
@[simp] theorem freeze_nil {env : Envi} : freeze env [] = env := rfl
theorem freeze1 {env : Envi} {i : Nat} {d : D} (h : env[i]? = some (.own d)) : freeze env [i] = env.set i (.val d) := by
  simp [freeze, h]
theorem freeze1v {env : Envi} {i : Nat} {d : D} (h : env[i]? = some (.val d)) : freeze env [i] = env := by
  simp [freeze, h]
@[simp] theorem ov_map {α β : Type} {o : Option α} {f : α → β} {P : β → Prop} : ov (o.map f) P = ov o fun a => P (f a) := by cases o <;> rfl
@[simp] theorem ov_bind {α β : Type} {o : Option α} {f : α → Option β} {P : β → Prop} : ov (o.bind f) P = ov o fun a => ov (f a) P := by cases o <;> rfl
theorem ov_eq {α : Type} {o : Option α} {a : α} {P : α → Prop} (h : o = some a) : ov o P = P a := by rw [h]; rfl
theorem wp_det {α : Type} {m : M α} {s s' : Sto} {v : α} {Q : α → Sto → Prop} (h : ∀ Q : α → Sto → Prop, Q v s' → wp m s Q) : wp m s Q = Q v s' := by
  obtain ⟨a, s2, e, h1, h2⟩ := wp_out (h (fun a s2 => a = v ∧ s2 = s') ⟨rfl, rfl⟩)
  subst h1 h2
  exact wp_eq e
theorem nubS_le : ∀ xs : List Str, (nubS xs).length ≤ xs.length
  | [] => Nat.le_refl _
  | x :: xs => by
    have := nubS_le xs
    rw [nubS]
    split <;> simp <;> omega
theorem nubS_len : ∀ xs : List Str, ((nubS xs).length = xs.length) ↔ xs.Nodup
  | [] => by simp [nubS]
  | x :: xs => by
    have h := nubS_le xs
    have ih := nubS_len xs
    rw [nubS, List.nodup_cons]
    split
    · rename_i c
      simp only [List.contains_eq_mem, List.elem_eq_mem, decide_eq_true_eq] at c
      simp [c]
      omega
    · rename_i c
      simp only [List.contains_eq_mem, List.elem_eq_mem, decide_eq_true_eq] at c
      simp [c, ih]
theorem nubI_le : ∀ xs : List Int, (nubI xs).length ≤ xs.length
  | [] => Nat.le_refl _
  | x :: xs => by
    have := nubI_le xs
    rw [nubI]
    split <;> simp <;> omega
theorem nubI_len : ∀ xs : List Int, ((nubI xs).length = xs.length) ↔ xs.Nodup
  | [] => by simp [nubI]
  | x :: xs => by
    have h := nubI_le xs
    have ih := nubI_len xs
    rw [nubI, List.nodup_cons]
    split
    · rename_i c
      simp only [List.contains_eq_mem, List.elem_eq_mem, decide_eq_true_eq] at c
      simp [c]
      omega
    · rename_i c
      simp only [List.contains_eq_mem, List.elem_eq_mem, decide_eq_true_eq] at c
      simp [c, ih]
theorem lenSet_strs {xs : List Str} (h : xs.length ≤ 4000) : lenSetD (.lst (xs.map .str)) = some (.int (nubS xs).length) := by
  have l : (xs.map D.str).length ≤ 4000 := by rw [List.length_map]; exact h
  simp only [lenSetD, seq_lst, Option.bind_some, nubD, nubA, if_pos l, allS_map]
  cases xs with
  | nil => rfl
  | cons x xs =>
    have : allI (List.map D.str (x :: xs)) = none := rfl
    rw [this]
    show some (D.int ((List.map D.str (nubS (x :: xs))).length : Nat)) = _
    rw [List.length_map]
theorem lenSet_strsT {xs : List Str} (h : xs.length ≤ 4000) : lenSetD (.tup (xs.map .str)) = some (.int (nubS xs).length) := lenSet_strs h
theorem lenSet_ints {xs : List Int} (h : xs.length ≤ 4000) : lenSetD (.lst (xs.map .int)) = some (.int (nubI xs).length) := by
  have l : (xs.map D.int).length ≤ 4000 := by rw [List.length_map]; exact h
  simp only [lenSetD, seq_lst, Option.bind_some, nubD, nubA, if_pos l, allI_map]
  simp
theorem lenSet_intsT {xs : List Int} (h : xs.length ≤ 4000) : lenSetD (.tup (xs.map .int)) = some (.int (nubI xs).length) := lenSet_ints h
theorem beq_len {a b : Nat} : ((a : Int) == (b : Int)) = decide (a = b) := by
  rw [Bool.eq_iff_iff]
  simp
  omega
theorem LIM_val : LIM = 16777216 := rfl
end Ev

set_option Elab.async false
set_option linter.all false
set_option maxRecDepth 100000
set_option maxHeartbeats 2000000
/-! What a run of the core comes to, where it may raise: printed from W.lean by genW3.py, but the head. -/
namespace Ev
open PySem
/-- the run ends well, and so, or it raises, and so -/
def wx {α : Type} (Xp : Exn → Sto → Prop) (m : M α) (s : Sto) (Q : α → Sto → Prop) : Prop := (∃ a s', m s = .ok a s' ∧ Q a s') ∨ ∃ x s', m s = .exc x s' ∧ Xp x s'
section
variable {α β : Type} {s : Sto} {Q : α → Sto → Prop} {R : β → Sto → Prop} {Xp : Exn → Sto → Prop}
theorem wx_eq {m : M α} {a : α} {s' : Sto} (e : m s = .ok a s') : wx Xp m s Q = Q a s' := by
  refine propext ⟨fun h => ?_, fun h => .inl ⟨_, _, e, h⟩⟩
  rcases h with ⟨_, _, e', h⟩ | ⟨_, _, e', h⟩
  · rw [e] at e'
    cases e'
    exact h
  · rw [e] at e'
    cases e'
theorem wx_exc {m : M α} {x : Exn} {s' : Sto} (e : m s = .exc x s') : wx Xp m s Q = Xp x s' := by
  refine propext ⟨fun h => ?_, fun h => .inr ⟨_, _, e, h⟩⟩
  rcases h with ⟨_, _, e', h⟩ | ⟨_, _, e', h⟩
  · rw [e] at e'
    cases e'
  · rw [e] at e'
    cases e'
    exact h
theorem wx_no {m : M α} (e : m s = .bad) : wx Xp m s Q = False := by
  refine propext ⟨fun h => ?_, False.elim⟩
  rcases h with ⟨_, _, e', h⟩ | ⟨_, _, e', h⟩
  · rw [e] at e'
    cases e'
  · rw [e] at e'
    cases e'
theorem wp_wx {m : M α} : wp m s Q = wx (fun _ _ => False) m s Q := by
  refine propext ⟨fun ⟨a, s', e, h⟩ => .inl ⟨a, s', e, h⟩, fun h => ?_⟩
  rcases h with ⟨a, s', e, h⟩ | ⟨_, _, _, h⟩
  · exact ⟨a, s', e, h⟩
  · exact h.elim
/-- what is known of a run that doesn't raise -/
theorem wx_of {m : M α} {Q' : α → Sto → Prop} (h : wp m s Q') (f : ∀ a s', Q' a s' → Q a s') : wx Xp m s Q := by
  obtain ⟨a, s', e, q⟩ := h
  exact .inl ⟨a, s', e, f _ _ q⟩
theorem wx_sp {m : M α} {a : α} {s' : Sto} (h : ∀ Q : α → Sto → Prop, wp m s Q = Q a s') : wx Xp m s Q = Q a s' := by
  have z : wp m s fun b t => b = a ∧ t = s' := by rw [h]; exact ⟨rfl, rfl⟩
  obtain ⟨b, t, e, rfl, rfl⟩ := z
  exact wx_eq e
theorem wx_mono {m : M α} {Xp' : Exn → Sto → Prop} {Q' : α → Sto → Prop} (h : wx Xp m s Q) (f : ∀ a s', Q a s' → Q' a s') (g : ∀ x s', Xp x s' → Xp' x s') : wx Xp' m s Q' := by
  rcases h with ⟨a, s', e, h⟩ | ⟨x, s', e, h⟩
  · exact .inl ⟨a, s', e, f _ _ h⟩
  · exact .inr ⟨x, s', e, g _ _ h⟩
@[simp] theorem wx_ret {a : α} : wx Xp (M.ret a) s Q = Q a s := wx_eq rfl
@[simp] theorem wx_pure {a : α} : wx Xp (pure a : M α) s Q = Q a s := wx_eq rfl
@[simp] theorem wx_bad : wx Xp (M.bad : M α) s Q = False := wx_no rfl
@[simp] theorem wx_bnd {m : M β} {f : β → M α} : wx Xp (M.bnd m f) s Q = wx Xp m s (fun a s' => wx Xp (f a) s' Q) := by
  cases e : m s with
  | ok a s' =>
    rw [wx_eq e]
    have z : M.bnd m f s = f a s' := by unfold M.bnd; rw [e]
    unfold wx
    rw [z]
  | exc x s' =>
    rw [wx_exc e]
    exact wx_exc (by unfold M.bnd; rw [e])
  | bad =>
    rw [wx_no e]
    exact wx_no (by unfold M.bnd; rw [e])
@[simp] theorem wx_bind {m : M β} {f : β → M α} : wx Xp (m >>= f) s Q = wx Xp m s (fun a s' => wx Xp (f a) s' Q) := wx_bnd
@[simp] theorem wx_lift {o : Option α} : wx Xp (M.lift o) s Q = ov o fun a => Q a s := by
  cases o
  · exact wx_bad
  · exact wx_ret
@[simp] theorem wx_nox {m : M α} : wx Xp (M.nox m) s Q = wp m s Q := by
  cases e : m s with
  | ok a s' =>
    rw [wp_eq e]
    exact wx_eq (by unfold M.nox; rw [e])
  | exc x s' =>
    rw [wp_wx, wx_exc e]
    exact wx_no (by unfold M.nox; rw [e])
  | bad =>
    rw [wp_wx, wx_no e]
    exact wx_no (by unfold M.nox; rw [e])
@[simp] theorem wx_ite {c : Prop} [Decidable c] {m n : M α} : wx Xp (if c then m else n) s Q = if c then wx Xp m s Q else wx Xp n s Q := by
  split <;> rfl
@[simp] theorem wp_ite' {c : Prop} [Decidable c] {P : Prop} : (if c then P else P) = P := by
  split <;> rfl
/-- where nothing is raised -/
theorem wx_calm {m : M α} (h : ∀ x s', m s ≠ .exc x s') : wx Xp m s Q = wp m s Q := by
  cases e : m s with
  | ok a s' => rw [wx_eq e, wp_eq e]
  | exc x s' => exact absurd e (h x s')
  | bad => rw [wx_no e, wp_wx, wx_no e]
theorem nox_calm {m : M α} {x : Exn} {s s' : Sto} : M.nox m s ≠ .exc x s' := fun e => by
  unfold M.nox at e
  cases z : m s <;> rw [z] at e <;> cases e
theorem compL_calm {f : D → M (Option D)} (h : ∀ d s x s', f d s ≠ .exc x s') : ∀ (ds : List D) (s : Sto) (x : Exn) (s' : Sto), compL f ds s ≠ .exc x s'
  | [], s, x, s', e => by cases e
  | d :: ds, s, x, s', e => by
    have e : M.bnd (f d) (fun r => M.bnd (compL f ds) fun rs => M.ret (match r with | some x => x :: rs | none => rs)) s = .exc x s' := e
    unfold M.bnd at e
    cases z : f d s with
    | ok r s1 =>
      rw [z] at e
      dsimp only at e
      cases z2 : compL f ds s1 with
      | ok rs s2 => rw [z2] at e; cases e
      | exc y s2 => exact compL_calm h ds s1 y s2 z2
      | bad => rw [z2] at e; cases e
    | exc y s1 => exact h d s y s1 z
    | bad => rw [z] at e; cases e
theorem compK_calm {f : D → M (Option (D × D))} (h : ∀ d s x s', f d s ≠ .exc x s') : ∀ (ds : List D) (a : List D × List D) (s : Sto) (x : Exn) (s' : Sto), compK f ds a s ≠ .exc x s'
  | [], a, s, x, s', e => by cases e
  | d :: ds, a, s, x, s', e => by
    have e : M.bnd (f d) (fun r => match r with
      | some r => M.bnd (M.lift (putM a r.1 r.2)) fun a => compK f ds a
      | none => compK f ds a) s = .exc x s' := e
    unfold M.bnd at e
    cases z : f d s with
    | ok r s1 =>
      rw [z] at e
      dsimp only at e
      cases r with
      | none => exact compK_calm h ds a s1 x s' e
      | some r =>
        dsimp only at e
        cases z2 : putM a r.1 r.2 with
        | none => rw [z2] at e; cases e
        | some b => rw [z2] at e; exact compK_calm h ds b s1 x s' e
    | exc y s1 => exact h d s y s1 z
    | bad => rw [z] at e; cases e
end
variable {Xp : Exn → Sto → Prop}
section
variable {F : Fns} {env : Envi} {s : Sto}
@[simp] theorem wx_compLB {e : E} {t : List Nat} {u : Bool} {c : Oe} {own : List Nat} {ds : List D} {Q : List D → Sto → Prop} : wx Xp (compL (cmpB F e t u c own env) ds) s Q = wp (compL (cmpB F e t u c own env) ds) s Q := wx_calm (compL_calm (fun _ _ _ _ => nox_calm) ds s)
@[simp] theorem wx_compKB {k v : E} {t : List Nat} {u : Bool} {c : Oe} {own : List Nat} {ds : List D} {a : List D × List D} {Q : List D × List D → Sto → Prop} : wx Xp (compK (cmpK F k v t u c own env) ds a) s Q = wp (compK (cmpK F k v t u c own env) ds a) s Q := wx_calm (compK_calm (fun _ _ _ _ => nox_calm) ds a s)
theorem wx_mat {α β : Type} {m : M α} {o : Option β} {g : β → α} {t : β → Sto} {s : Sto} {Q : α → Sto → Prop} (e : m s = match o with | some b => .ok (g b) (t b) | none => .bad) : wx Xp m s Q = ov o fun b => Q (g b) (t b) := by
  cases o with
  | none => exact wx_no e
  | some b => exact wx_eq e
end
section
variable {s : Sto}
@[simp] theorem wx_tst {m : M D} {Q : Bool → Sto → Prop} : wx Xp (tst m) s Q = wx Xp m s fun d s' => tru d fun b => Q b s' := by
  unfold tst
  rw [wx_bind]
  congr 1
  funext d s'
  cases d <;> first | exact wx_eq rfl | exact wx_bad | rfl
@[simp] theorem wx_see {ds : D} {Q : D → Sto → Prop} (h : ∀ n, ds ≠ .cell n) : wx Xp (seeD ds) s Q = Q ds s := by
  cases ds <;> first | exact wx_eq rfl | exact (h _ rfl).elim
@[simp] theorem wx_see_non {Q : D → Sto → Prop} : wx Xp (seeD .non) s Q = Q .non s := wx_eq rfl
@[simp] theorem wx_see_bl {b : Bool} {Q : D → Sto → Prop} : wx Xp (seeD (.bl b)) s Q = Q (.bl b) s := wx_eq rfl
@[simp] theorem wx_see_int {b : Int} {Q : D → Sto → Prop} : wx Xp (seeD (.int b)) s Q = Q (.int b) s := wx_eq rfl
@[simp] theorem wx_see_str {b : Str} {Q : D → Sto → Prop} : wx Xp (seeD (.str b)) s Q = Q (.str b) s := wx_eq rfl
@[simp] theorem wx_see_tup {b : List D} {Q : D → Sto → Prop} : wx Xp (seeD (.tup b)) s Q = Q (.tup b) s := wx_eq rfl
@[simp] theorem wx_see_lst {b : List D} {Q : D → Sto → Prop} : wx Xp (seeD (.lst b)) s Q = Q (.lst b) s := wx_eq rfl
@[simp] theorem wx_see_dic {b c : List D} {Q : D → Sto → Prop} : wx Xp (seeD (.dic b c)) s Q = Q (.dic b c) s := wx_eq rfl
theorem wx_see_cell {n : Nat} {ds : List D} {Q : D → Sto → Prop} (h : s[n]? = some (.lst ds)) : wx Xp (seeD (.cell n)) s Q = Q (.lst ds) s := by
  refine wx_eq ?_
  unfold seeD
  simp [h]
@[simp] theorem wx_seeL_lst {b : List D} {Q : Unit → Sto → Prop} : wx Xp (seeL (.lst b)) s Q = Q () s := wx_eq rfl
theorem wx_seeL_cell {n : Nat} {ds : List D} {Q : Unit → Sto → Prop} (h : s[n]? = some (.lst ds)) : wx Xp (seeL (.cell n)) s Q = Q () s := by
  refine wx_eq ?_
  unfold seeL
  simp [h]
variable {F : Fns} {W : Nat} {env : Envi} {Q : D → Sto → Prop}
@[simp] theorem wx_tso_no {Q : Bool → Sto → Prop} : wx Xp (tso (evo F .no env)) s Q = Q true s := by
  unfold tso
  rw [wx_bind, evo, wx_pure]
  exact wx_eq rfl
@[simp] theorem wx_tso_yes {e : E} {Q : Bool → Sto → Prop} : wx Xp (tso (evo F (.yes e) env)) s Q = wx Xp (ev F e env) s fun d s' => tru d fun b => Q b s' := by
  unfold tso
  rw [wx_bind, evo, wx_bind]
  simp only [wx_pure]
  congr 1
  funext d s'
  cases d <;> first | exact wx_eq rfl | exact wx_bad | rfl
@[simp] theorem wx_forB {t : List Nat} {u : Bool} {b : Sb} {d : D} {Q : Fl → Sto → Prop} : wx Xp (forB F W t u b d env) s Q = ov (bindT env t u d) fun env => wx Xp (exs F W b env) s Q := by
  unfold forB
  simp only [wx_bind, wx_lift]
@[simp] theorem wx_var {i : Nat} : wx Xp (ev F (.var i) env) s Q = ov (getV env i) fun d => Q d s := by rw [ev, wx_lift]
@[simp] theorem wx_take {i : Nat} : wx Xp (ev F (.take i) env) s Q = ov (takeV env i) fun d => Q d s := by rw [ev, wx_lift]
@[simp] theorem wx_con {d : D} : wx Xp (ev F (.con d) env) s Q = Q d s := by rw [ev, wx_pure]
@[simp] theorem wx_tup {es : Es} : wx Xp (ev F (.tup es) env) s Q = wx Xp (evs F es env) s fun ds s' => Q (.tup ds) s' := by rw [ev, wx_bind]; simp only [wx_pure]
@[simp] theorem wx_lst {es : Es} : wx Xp (ev F (.lst es) env) s Q = wx Xp (evs F es env) s fun ds s' => Q (.lst ds) s' := by rw [ev, wx_bind]; simp only [wx_pure]
@[simp] theorem wx_bin {o : Bop} {a b : E} : wx Xp (ev F (.bin o a b) env) s Q = wx Xp (ev F a env) s fun x s => wx Xp (ev F b env) s fun y s => wx Xp (seeD x) s fun x s => wx Xp (seeD y) s fun y s => ov (bopD o x y) fun z => Q z s := by
  rw [ev]
  simp only [wx_bind, wx_lift]
@[simp] theorem wx_cat {a b : E} : wx Xp (ev F (.cat a b) env) s Q = wx Xp (ev F a env) s fun x s => wx Xp (ev F b env) s fun y s => wx Xp (seeD x) s fun x s => wx Xp (seeD y) s fun y s => ov (catD x y) fun z => Q z s := by
  rw [ev]
  simp only [wx_bind, wx_lift]
@[simp] theorem wx_repl {es : Es} {k : E} : wx Xp (ev F (.repl es k) env) s Q = wx Xp (evs F es env) s fun xs s => wx Xp (ev F k env) s fun y s => isn y fun k => (-(2 ^ 63) ≤ k ∧ k < 2 ^ 63 ∧ xs.length * k.toNat ≤ LIM) ∧ Q (.lst (rep k.toNat xs)) s := by
  rw [ev, wx_bind]
  congr 1
  funext xs s'
  rw [wx_bind]
  congr 1
  funext y s'
  cases y with
  | int k =>
    show wx Xp (if _ then _ else _) _ _ = _
    rw [wx_ite]
    by_cases c : -(2 ^ 63) ≤ k ∧ k < 2 ^ 63 ∧ xs.length * k.toNat ≤ LIM <;> simp [c]
  | _ => first | exact wx_bad | exact wx_eq rfl | (cases y <;> exact wx_bad) | rfl
@[simp] theorem wx_neg {a : E} : wx Xp (ev F (.neg a) env) s Q = wx Xp (ev F a env) s fun x s => isn x fun i => Q (.int (-i)) s := by
  rw [ev, wx_bind]
  congr 1
  funext y s'
  cases y <;> first | exact wx_eq rfl | exact wx_bad | rfl
@[simp] theorem wx_cmp {o : Cop} {a b : E} : wx Xp (ev F (.cmp o a b) env) s Q = wx Xp (ev F a env) s fun x s => wx Xp (ev F b env) s fun y s => wx Xp (seeD x) s fun x s => wx Xp (seeD y) s fun y s => ov (copD o x y) fun z => Q (.bl z) s := by
  rw [ev]
  simp only [wx_bind, wx_lift, wx_pure]
@[simp] theorem wx_isn {a : E} {g : Bool} : wx Xp (ev F (.isn a g) env) s Q = wx Xp (ev F a env) s fun x s => Q (.bl (isNon x == g)) s := by
  rw [ev]
  simp only [wx_bind, wx_pure]
  congr 1
  funext x s'
  cases x <;> cases g <;> first | exact wx_eq rfl | exact wx_bad | rfl
@[simp] theorem wx_chain {o o' : Cop} {a b c : E} : wx Xp (ev F (.chain o o' a b c) env) s Q = wx Xp (ev F a env) s fun x s => wx Xp (ev F b env) s fun y s => ov (copD o x y) fun r => if r = true then wx Xp (ev F c env) s fun z s => ov (copD o' y z) fun r => Q (.bl r) s else Q (.bl false) s := by
  rw [ev]
  simp only [wx_bind, wx_lift, wx_pure, wx_ite]
@[simp] theorem wx_andE {a b : E} : wx Xp (ev F (.and a b) env) s Q = wx Xp (ev F a env) s fun x s => tru x fun r => if r = true then wx Xp (ev F b env) s Q else Q (.bl false) s := by
  rw [ev]
  simp only [wx_bind, wx_tst, wx_pure, wx_ite]
@[simp] theorem wx_orE {a b : E} : wx Xp (ev F (.or a b) env) s Q = wx Xp (ev F a env) s fun x s => tru x fun r => if r = true then Q (.bl true) s else wx Xp (ev F b env) s Q := by
  rw [ev]
  simp only [wx_bind, wx_tst, wx_pure, wx_ite]
@[simp] theorem wx_notE {a : E} : wx Xp (ev F (.not a) env) s Q = wx Xp (ev F a env) s fun x s => tru x fun r => Q (.bl (!r)) s := by
  rw [ev]
  simp only [wx_bind, wx_tst, wx_pure]
@[simp] theorem wx_iteE {c a b : E} : wx Xp (ev F (.ite c a b) env) s Q = wx Xp (ev F c env) s fun x s => tru x fun r => if r = true then wx Xp (ev F a env) s Q else wx Xp (ev F b env) s Q := by
  rw [ev]
  simp only [wx_bind, wx_tst, wx_ite]
@[simp] theorem wx_ixE {a b : E} : wx Xp (ev F (.ix a b) env) s Q = wx Xp (ev F a env) s fun x s => wx Xp (ev F b env) s fun y s => wx Xp (seeD x) s fun x s => ov (ixD x y) fun z => Q z s := by
  rw [ev]
  simp only [wx_bind, wx_lift]
@[simp] theorem wx_sl {a : E} {lo hi : Oe} : wx Xp (ev F (.sl a lo hi) env) s Q = wx Xp (ev F a env) s fun x s => wx Xp (prt (evo F lo env)) s fun l s => wx Xp (prt (evo F hi env)) s fun h s => wx Xp (seeD x) s fun x s => ov (slD x l h) fun z => Q z s := by
  rw [ev]
  simp only [wx_bind, wx_lift]
@[simp] theorem wx_prt_no {Q : Option Int → Sto → Prop} : wx Xp (prt (evo F .no env)) s Q = Q none s := by
  unfold prt
  rw [wx_bind, evo, wx_pure]
  exact wx_eq rfl
@[simp] theorem wx_prt_yes {e : E} {Q : Option Int → Sto → Prop} : wx Xp (prt (evo F (.yes e) env)) s Q = wx Xp (ev F e env) s fun d s' => isn d fun i => Q (some i) s' := by
  unfold prt
  rw [wx_bind, evo, wx_bind]
  simp only [wx_pure, wx_lift]
  congr 1
  funext d s'
  cases d <;> first | exact wx_eq rfl | exact wx_bad | rfl
@[simp] theorem wx_rev {a : E} : wx Xp (ev F (.rev a) env) s Q = wx Xp (ev F a env) s fun x s => wx Xp (seeD x) s fun x s => match x with
    | .lst ds => Q (.lst ds.reverse) s
    | .tup ds => Q (.tup ds.reverse) s
    | _ => False := by
  rw [ev]
  simp only [wx_bind]
  congr 1
  funext d s'
  congr 1
  funext d s'
  cases d <;> first | exact wx_eq rfl | exact wx_bad | rfl
@[simp] theorem wx_call {f : Nat} {es : Es} : wx Xp (ev F (.call f es) env) s Q = wx Xp (evs F es env) s fun ds s => wx Xp (F f ds) s Q := by
  rw [ev]
  simp only [wx_bind]
@[simp] theorem wx_call0 {f : Nat} : wx Xp (ev F (.call0 f) env) s Q = wx Xp (F f []) s Q := by
  rw [ev]
@[simp] theorem wx_kcall {f : Nat} {pm : List Nat} {es : Es} : wx Xp (ev F (.kcall f pm es) env) s Q = wx Xp (evs F es env) s fun ds s => wx Xp (F f (pm.map fun i => ds.getD i .non)) s Q := by
  rw [ev]
  simp only [wx_bind]
@[simp] theorem wx_seeOne1 {d : D} {Q : List D → Sto → Prop} : wx Xp (seeOne [d]) s Q = wx Xp (seeD d) s fun d s => Q [d] s := by
  unfold seeOne
  simp only [wx_bind, wx_pure]
@[simp] theorem wx_seeOne2 {d e : D} {ds : List D} {Q : List D → Sto → Prop} : wx Xp (seeOne (d :: e :: ds)) s Q = Q (d :: e :: ds) s := wx_eq rfl
@[simp] theorem wx_bi {b : Bi} {es : Es} : wx Xp (ev F (.bi b es) env) s Q = wx Xp (evs F es env) s fun ds s => wx Xp (seeOne ds) s fun ds s => ov (biD b ds) fun z => Q z s := by
  rw [ev, wx_bind]
  congr 1
  funext ds s'
  rw [wx_bind]
  simp only [wx_lift]
  match ds with
  | [] => rfl
  | [d] => rfl
  | d :: e :: ds => rfl
@[simp] theorem wx_isi {a : E} {ts : List Tyn} : wx Xp (ev F (.isi a ts) env) s Q = wx Xp (ev F a env) s fun x s => Q (.bl (ts.any fun t => tyD t x)) s := by
  rw [ev]
  simp only [wx_bind, wx_pure]
@[simp] theorem wx_tolst {i : Src} : wx Xp (ev F (.tolst i) env) s Q = wx Xp (evi F true i env) s fun ds s => Q (.lst ds) s := by
  rw [ev]
  simp only [wx_bind, wx_pure]
@[simp] theorem wx_totup {i : Src} : wx Xp (ev F (.totup i) env) s Q = wx Xp (evi F true i env) s fun ds s => Q (.tup ds) s := by
  rw [ev]
  simp only [wx_bind, wx_pure]
@[simp] theorem wx_comp {e : E} {t : List Nat} {u : Bool} {i : Src} {c : Oe} {own : List Nat} : wx Xp (ev F (.comp e t u i c own) env) s Q = wx Xp (evi F false i env) s fun ds s => wx Xp (compL (cmpB F e t u c own env) ds) s fun rs s => Q (.lst rs) s := by
  rw [ev]
  simp only [wx_bind, wx_pure]
  rfl
@[simp] theorem wx_dcomp {k v : E} {t : List Nat} {u : Bool} {i : Src} {c : Oe} {own : List Nat} : wx Xp (ev F (.dcomp k v t u i c own) env) s Q = wx Xp (evi F false i env) s fun ds s => wx Xp (compK (cmpK F k v t u c own env) ds ([], [])) s fun r s => Q (.dic r.1 r.2) s := by
  rw [ev]
  simp only [wx_bind, wx_pure]
  rfl
@[simp] theorem wx_newc {e : E} : wx Xp (ev F (.newc e) env) s Q = wx Xp (ev F e env) s fun x s => isl x fun ds => Q (.cell s.length) (s ++ [.lst ds]) := by
  rw [ev, wx_bind]
  congr 1
  funext d s'
  cases d <;> first | exact wx_eq rfl | exact wx_bad | rfl
@[simp] theorem wx_dnew : wx Xp (ev F .dnew env) s Q = Q (.dic [] []) s := by rw [ev, wx_pure]
@[simp] theorem wx_dcopy {a : E} : wx Xp (ev F (.dcopy a) env) s Q = wx Xp (ev F a env) s fun x s => match x with
    | .dic ks vs => Q (.dic ks vs) s
    | .lst ds => ov (pairsK ds ([], [])) fun r => Q (.dic r.1 r.2) s
    | _ => False := by
  rw [ev, wx_bind]
  congr 1
  funext d s'
  cases d with
  | lst ds =>
    show wx Xp (M.lift _) _ _ = _
    rw [wx_lift]
    show ov (Option.map _ (pairsK ds ([], []))) _ = ov (pairsK ds ([], [])) _
    cases pairsK ds ([], []) <;> rfl
  | _ => first | exact wx_bad | exact wx_eq rfl | (cases y <;> exact wx_bad) | rfl
@[simp] theorem wx_dget {a k d : E} : wx Xp (ev F (.dget a k d) env) s Q = wx Xp (ev F a env) s fun x s => isdic x fun ks vs => wx Xp (ev F k env) s fun k s => wx Xp (ev F d env) s fun d s => isKey k = true ∧ Q ((keyAt ks vs k).getD d) s := by
  rw [ev, wx_bind]
  congr 1
  funext x s'
  cases x with
  | dic ks vs =>
    show wx Xp (M.bnd _ _) _ _ = _
    rw [wx_bnd]
    show wx Xp _ _ _ = wx Xp _ _ _
    congr 1
    funext k s'
    show wx Xp (M.bnd _ _) _ _ = _
    rw [wx_bnd]
    congr 1
    funext d s'
    rw [wx_ite]
    cases isKey k <;> simp
  | _ => first | exact wx_bad | exact wx_eq rfl | (cases y <;> exact wx_bad) | rfl
@[simp] theorem wx_isb {a : E} {b g : Bool} : wx Xp (ev F (.isb a b g) env) s Q = wx Xp (ev F a env) s fun x s => Q (.bl (isBl b x == g)) s := by
  rw [ev]
  simp only [wx_bind, wx_pure]
  congr 1
  funext d s'
  cases d <;> cases g <;> first | exact wx_eq rfl | exact wx_bad | rfl
@[simp] theorem wx_idx {a x : E} : wx Xp (ev F (.idx a x) env) s Q = wx Xp (ev F a env) s fun d s => wx Xp (seeL d) s fun _ s => wx Xp (ev F x env) s fun y s => wx Xp (seeD d) s fun d s => ov (idxD d y) fun z => Q z s := by
  rw [ev]
  simp only [wx_bind, wx_lift]
@[simp] theorem wx_joinE {a b : E} : wx Xp (ev F (.join a b) env) s Q = wx Xp (ev F a env) s fun x s => iss x fun z => wx Xp (ev F b env) s fun y s => isl y fun ds => ov (allS ds) fun xs => (xs.map (·.length)).sum + xs.length * z.length ≤ LIM ∧ Q (.str (Txt.join z xs)) s := by
  rw [ev, wx_bind]
  congr 1
  funext x s'
  cases x with
  | str z =>
    show wx Xp (M.bnd _ _) _ _ = _
    rw [wx_bnd]
    show wx Xp _ _ _ = wx Xp _ _ _
    congr 1
    funext y s'
    cases y with
    | lst ds =>
      show wx Xp (match allS ds with | some xs => _ | none => _) _ _ = _
      cases h : allS ds with
      | none => simp [h]
      | some xs =>
        simp only [h, wx_ite, ov_some, isl_lst]
        by_cases c : (xs.map (·.length)).sum + xs.length * z.length ≤ LIM <;> simp [c]
    | _ => first | exact wx_bad | exact wx_eq rfl | (cases y <;> exact wx_bad) | rfl
  | _ => first | exact wx_bad | exact wx_eq rfl | (cases y <;> exact wx_bad) | rfl
@[simp] theorem wx_lstr {a : E} : wx Xp (ev F (.lstr a) env) s Q = wx Xp (ev F a env) s fun x s => iss x fun z => z.cps.size ≤ LIM ∧ Q (.lst (z.cps.toList.map fun c => .str ⟨#[c]⟩)) s := by
  rw [ev, wx_bind]
  congr 1
  funext x s'
  cases x with
  | str z =>
    show wx Xp (if _ then _ else _) _ _ = _
    rw [wx_ite]
    by_cases c : z.cps.size ≤ LIM <;> simp [c]
  | _ => first | exact wx_bad | exact wx_eq rfl | (cases y <;> exact wx_bad) | rfl
@[simp] theorem wx_evs_nil {Q : List D → Sto → Prop} : wx Xp (evs F .nil env) s Q = Q [] s := by rw [evs, wx_pure]
@[simp] theorem wx_evs_cons {e : E} {es : Es} {Q : List D → Sto → Prop} : wx Xp (evs F (.cons e es) env) s Q = wx Xp (ev F e env) s fun d s => wx Xp (evs F es env) s fun ds s => Q (d :: ds) s := by
  rw [evs]
  simp only [wx_bind, wx_pure]
@[simp] theorem wx_evi_seqT {e : E} {Q : List D → Sto → Prop} : wx Xp (evi F true (.seq e) env) s Q = wx Xp (ev F e env) s fun x s => wx Xp (seeD x) s fun x s => ov (seqD x) fun ds => Q ds s := by
  rw [evi]
  simp only [wx_bind, if_true, wx_lift]
@[simp] theorem wx_evi_seqF {e : E} {Q : List D → Sto → Prop} : wx Xp (evi F false (.seq e) env) s Q = wx Xp (ev F e env) s fun x s => ov (itD x) fun ds => Q ds s := by
  rw [evi]
  simp only [wx_bind, if_false, wx_lift, Bool.false_eq_true]
@[simp] theorem wx_evi_rng {e : E} {g : Bool} {Q : List D → Sto → Prop} : wx Xp (evi F g (.rng e) env) s Q = wx Xp (ev F e env) s fun x s => isn x fun n => (-(2 ^ 62) ≤ n ∧ n < LIM) ∧ Q (range 0 n.toNat) s := by
  rw [evi, wx_bind]
  congr 1
  funext x s'
  cases x with
  | int n =>
    show wx Xp (if _ then _ else _) _ _ = _
    rw [wx_ite]
    by_cases c : -(2 ^ 62) ≤ n ∧ n < LIM <;> simp [c]
  | _ => first | exact wx_bad | exact wx_eq rfl | (cases y <;> exact wx_bad) | rfl
@[simp] theorem wx_evi_rng2 {a b : E} {g : Bool} {Q : List D → Sto → Prop} : wx Xp (evi F g (.rng2 a b) env) s Q = wx Xp (ev F a env) s fun x s => wx Xp (ev F b env) s fun y s => isn x fun i => isn y fun j => (-(2 ^ 62) ≤ i ∧ i < 2 ^ 62 ∧ j - i < LIM ∧ -(2 ^ 62) ≤ j ∧ j < 2 ^ 62) ∧ Q (range i (j - i).toNat) s := by
  rw [evi, wx_bind]
  congr 1
  funext x s'
  rw [wx_bind]
  congr 1
  funext y s'
  cases x with
  | int i =>
    cases y with
    | int j =>
      show wx Xp (if _ then _ else _) _ _ = _
      rw [wx_ite]
      by_cases c : -(2 ^ 62) ≤ i ∧ i < 2 ^ 62 ∧ j - i < LIM ∧ -(2 ^ 62) ≤ j ∧ j < 2 ^ 62 <;> simp [c]
    | _ => first | exact wx_bad | exact wx_eq rfl | (cases y <;> exact wx_bad) | rfl
  | _ => first | exact wx_bad | exact wx_eq rfl | (cases y <;> exact wx_bad) | rfl
@[simp] theorem wx_evi_enum {e : E} {g : Bool} {Q : List D → Sto → Prop} : wx Xp (evi F g (.enum e) env) s Q = wx Xp (ev F e env) s fun x s => ov (seqD x) fun ds => Q (number 0 ds) s := by
  rw [evi]
  simp only [wx_bind, wx_lift, wx_pure]
@[simp] theorem wx_evi_zip {a b : E} {g : Bool} {Q : List D → Sto → Prop} : wx Xp (evi F g (.zip a b) env) s Q = wx Xp (ev F a env) s fun x s => wx Xp (ev F b env) s fun y s => match x, y with
    | .lst xs, .lst ys => Q (pairs xs ys) s
    | .tup xs, .tup ys => Q (pairs xs ys) s
    | _, _ => False := by
  rw [evi, wx_bind]
  congr 1
  funext x s'
  rw [wx_bind]
  congr 1
  funext y s'
  cases x <;> cases y <;> first | exact wx_eq rfl | exact wx_bad | rfl
section
variable {Q : Fl → Sto → Prop}
@[simp] theorem wx_exs_nil : wx Xp (exs F W .nil env) s Q = Q (.nx env) s := by rw [exs, wx_pure]
@[simp] theorem wx_exs_cons {st : Sm} {ss : Sb} : wx Xp (exs F W (.cons st ss) env) s Q = wx Xp (ex F W st env) s fun fl s => flk fl (fun env => wx Xp (exs F W ss env) s Q) (fun f => Q f s) := by
  rw [exs, wx_bind]
  congr 1
  funext fl s'
  cases fl <;> first | exact wx_eq rfl | exact wx_bad | rfl
@[simp] theorem wx_fz {is : List Nat} {st : Sm} : wx Xp (ex F W (.fz is st) env) s Q = wx Xp (ex F W st (freeze env is)) s Q := by rw [ex]
@[simp] theorem wx_asg {i : Nat} {e : E} : wx Xp (ex F W (.asg i e) env) s Q = wx Xp (ev F e env) s fun d s => Q (.nx (env.set i (.val d))) s := by
  rw [ex]
  simp only [wx_bind, wx_pure]
@[simp] theorem wx_own {i : Nat} {e : E} : wx Xp (ex F W (.own i e) env) s Q = wx Xp (ev F e env) s fun d s => Q (.nx (env.set i (.own d))) s := by
  rw [ex]
  simp only [wx_bind, wx_pure]
@[simp] theorem wx_unp {is : List Nat} {e : E} : wx Xp (ex F W (.unp is e) env) s Q = wx Xp (ev F e env) s fun d s => ov (bindT env is true d) fun env => Q (.nx env) s := by
  rw [ex]
  simp only [wx_bind, wx_pure, wx_lift]
@[simp] theorem wx_par {is : List (Nat × Bool)} {es : Es} : wx Xp (ex F W (.par is es) env) s Q = wx Xp (evs F es env) s fun ds s => ov (putPar env is ds) fun env => Q (.nx env) s := by
  rw [ex]
  simp only [wx_bind, wx_pure, wx_lift]
@[simp] theorem wx_app {i : Nat} {e : E} : wx Xp (ex F W (.app i e) env) s Q = wx Xp (recv env i) s fun _ s => wx Xp (ev F e env) s fun d s => wx Xp (appD env i d) s fun env s => Q (.nx env) s := by
  rw [ex]
  simp only [wx_bind, wx_pure]
@[simp] theorem wx_setix {i : Nat} {k e : E} : wx Xp (ex F W (.setix i k e) env) s Q = wx Xp (ev F e env) s fun d s => ov (getV env i) fun _ => wx Xp (ev F k env) s fun k s => wx Xp (setD env i k d) s fun env s => Q (.nx env) s := by
  rw [ex]
  simp only [wx_bind, wx_pure, wx_lift]
@[simp] theorem wx_pop {i : Nat} {k : E} : wx Xp (ex F W (.pop i k) env) s Q = wx Xp (recv env i) s fun _ s => wx Xp (ev F k env) s fun k s => wx Xp (popD env i k) s fun r s => Q (.nx r.1) s := by
  rw [ex]
  simp only [wx_bind, wx_pure]
@[simp] theorem wx_apppop {i j : Nat} {k : E} : wx Xp (ex F W (.apppop i j k) env) s Q = wx Xp (recv env i) s fun _ s => wx Xp (recv env j) s fun _ s => wx Xp (ev F k env) s fun k s => wx Xp (popD env j k) s fun r s => wx Xp (appD r.1 i r.2) s fun env s => Q (.nx env) s := by
  rw [ex]
  simp only [wx_bind, wx_pure]
@[simp] theorem wx_ext {i : Nat} {e : E} : wx Xp (ex F W (.ext i e) env) s Q = wx Xp (recv env i) s fun _ s => wx Xp (ev F e env) s fun d s => wx Xp (extD env i d) s fun env s => Q (.nx env) s := by
  rw [ex]
  simp only [wx_bind, wx_pure]
@[simp] theorem wx_aug {i : Nat} {o : Bop} {e : E} : wx Xp (ex F W (.aug i o e) env) s Q = ov (getV env i) fun x => wx Xp (ev F e env) s fun d s => ov (augD o x d) fun z => Q (.nx (env.set i (.val z))) s := by
  rw [ex]
  simp only [wx_bind, wx_pure, wx_lift]
@[simp] theorem wx_ife {c : E} {a b : Sb} : wx Xp (ex F W (.ife c a b) env) s Q = wx Xp (ev F c env) s fun x s => tru x fun r => if r = true then wx Xp (exs F W a env) s Q else wx Xp (exs F W b env) s Q := by
  rw [ex]
  simp only [wx_bind, wx_tst, wx_ite]
@[simp] theorem wx_for {t : List Nat} {u : Bool} {i : Src} {b : Sb} : wx Xp (ex F W (.for_ t u i b) env) s Q = wx Xp (evi F false i env) s fun ds s => wx Xp (forL (forB F W t u b) ds env) s Q := by
  rw [ex]
  simp only [wx_bind]
  rfl
@[simp] theorem wx_whl {c : E} {b : Sb} : wx Xp (ex F W (.whl c b) env) s Q = wx Xp (loopW (fun env => tst (ev F c env)) (fun env => exs F W b env) W env) s Q := by rw [ex]
@[simp] theorem wx_retS {e : E} : wx Xp (ex F W (.ret e) env) s Q = wx Xp (ev F e env) s fun d s => Q (.rt d) s := by
  rw [ex]
  simp only [wx_bind, wx_pure]
@[simp] theorem wx_pass : wx Xp (ex F W .pass env) s Q = Q (.nx env) s := by rw [ex, wx_pure]
@[simp] theorem wx_cont : wx Xp (ex F W .cont env) s Q = Q (.ct env) s := by rw [ex, wx_pure]
@[simp] theorem wx_exE {e : E} : wx Xp (ex F W (.ex e) env) s Q = wx Xp (ev F e env) s fun _ s => Q (.nx env) s := by
  rw [ex]
  simp only [wx_bind, wx_pure]
@[simp] theorem wx_never : wx Xp (ex F W .never env) s Q = False := by rw [ex, wx_bad]
theorem wx_forL_nil {b : D → Envi → M Fl} : wx Xp (forL b [] env) s Q = Q (.nx env) s := wx_eq rfl
theorem wx_forL_cons {b : D → Envi → M Fl} {d : D} {ds : List D} : wx Xp (forL b (d :: ds) env) s Q = wx Xp (b d env) s fun fl s => lpk fl (fun env => wx Xp (forL b ds env) s Q) (fun f => Q f s) := by
  rw [forL, wx_bind]
  congr 1
  funext fl s'
  cases fl <;> first | exact wx_eq rfl | exact wx_bad | rfl
theorem wx_forL {b : D → Envi → M Fl} (I : List D → Envi → Sto → Prop) : ∀ {ds : List D} {env : Envi} {s : Sto}, I ds env s → (∀ d ds env s, I (d :: ds) env s → wx Xp (b d env) s fun fl s => lpk fl (fun env => I ds env s) (fun f => Q f s)) → (∀ env s, I [] env s → Q (.nx env) s) → wx Xp (forL b ds env) s Q
  | [], env, s, h, _, h2 => by rw [wx_forL_nil]; exact h2 _ _ h
  | d :: ds, env, s, h, h1, h2 => by
    rw [wx_forL_cons]
    exact wx_mono (h1 d ds env s h) (fun fl s' q => lpk_mono q (fun e i => wx_forL I i h1 h2) (fun f q => q)) fun _ _ x => x
theorem wx_loopW_succ {c : Envi → M Bool} {b : Envi → M Fl} {n : Nat} : wx Xp (loopW c b (n + 1) env) s Q = wx Xp (c env) s fun r s => if r = true then wx Xp (b env) s fun fl s => lpk fl (fun env => wx Xp (loopW c b n env) s Q) (fun f => Q f s) else Q (.nx env) s := by
  rw [loopW, wx_bind]
  congr 1
  funext r s'
  rw [wx_ite]
  cases r
  · rw [if_neg (by simp), if_neg (by simp)]
    exact wx_pure
  · rw [if_pos rfl, if_pos rfl, wx_bind]
    congr 1
    funext fl s'
    cases fl <;> first | exact wx_eq rfl | rfl
end
theorem wx_recv_own {i : Nat} {ds : List D} {Q : Unit → Sto → Prop} (h : env[i]? = some (.own (.lst ds))) : wx Xp (recv env i) s Q = Q () s := by
  refine wx_eq ?_
  unfold recv
  simp [h]
theorem wx_recv_cell {i n : Nat} {ds : List D} {Q : Unit → Sto → Prop} (h : env[i]? = some (.val (.cell n))) (h2 : s[n]? = some (.lst ds)) : wx Xp (recv env i) s Q = Q () s := by
  refine wx_eq ?_
  unfold recv
  simp [h, h2]
theorem wx_onL_own {i : Nat} {ds : List D} {f : List D → Option (List D)} {Q : Envi → Sto → Prop} (h : env[i]? = some (.own (.lst ds))) : wx Xp (onList env i f) s Q = ov (f ds) fun es => Q (env.set i (.own (.lst es))) s := by
  refine wx_mat ?_
  unfold onList
  simp only [h]
  cases f ds <;> rfl
theorem wx_onL_cell {i n : Nat} {ds : List D} {f : List D → Option (List D)} {Q : Envi → Sto → Prop} (h : env[i]? = some (.val (.cell n))) (h2 : s[n]? = some (.lst ds)) : wx Xp (onList env i f) s Q = ov (f ds) fun es => Q env (s.set n (.lst es)) := by
  refine wx_mat (t := fun es => s.set n (.lst es)) ?_
  unfold onList
  simp only [h, h2]
  cases f ds <;> rfl
theorem wx_app_own {i : Nat} {ds : List D} {d : D} {Q : Envi → Sto → Prop} (h : env[i]? = some (.own (.lst ds))) : wx Xp (appD env i d) s Q = (ds.length < LIM ∧ Q (env.set i (.own (.lst (ds ++ [d])))) s) := by
  unfold appD
  rw [wx_onL_own h]
  by_cases c : ds.length < LIM <;> simp [c]
theorem wx_app_cell {i n : Nat} {ds : List D} {d : D} {Q : Envi → Sto → Prop} (h : env[i]? = some (.val (.cell n))) (h2 : s[n]? = some (.lst ds)) : wx Xp (appD env i d) s Q = (ds.length < LIM ∧ Q env (s.set n (.lst (ds ++ [d])))) := by
  unfold appD
  rw [wx_onL_cell h h2]
  by_cases c : ds.length < LIM <;> simp [c]
theorem wx_ext_own {i : Nat} {ds es : List D} {Q : Envi → Sto → Prop} (h : env[i]? = some (.own (.lst ds))) : wx Xp (extD env i (.lst es)) s Q = (ds.length + es.length ≤ LIM ∧ Q (env.set i (.own (.lst (ds ++ es)))) s) := by
  unfold extD
  rw [wx_onL_own h]
  by_cases c : ds.length + es.length ≤ LIM <;> simp [c]
theorem wx_set_own {i : Nat} {ds : List D} {k : Int} {e : D} {Q : Envi → Sto → Prop} (h : env[i]? = some (.own (.lst ds))) : wx Xp (setD env i (.int k) e) s Q = ov (ixN ds.length k) fun j => Q (env.set i (.own (.lst (ds.set j e)))) s := by
  unfold setD
  simp only [h]
  rw [wx_onL_own h]
  cases ixN ds.length k <;> rfl
theorem wx_set_cell {i n : Nat} {ds : List D} {k : Int} {e : D} {Q : Envi → Sto → Prop} (h : env[i]? = some (.val (.cell n))) (h2 : s[n]? = some (.lst ds)) : wx Xp (setD env i (.int k) e) s Q = ov (ixN ds.length k) fun j => Q env (s.set n (.lst (ds.set j e))) := by
  unfold setD
  simp only [h]
  rw [wx_onL_cell h h2]
  cases ixN ds.length k <;> rfl
theorem wx_set_dic {i : Nat} {ks vs : List D} {k e : D} {Q : Envi → Sto → Prop} (h : env[i]? = some (.own (.dic ks vs))) : wx Xp (setD env i k e) s Q = ((isKey k = true ∧ ks.length < LIM) ∧ Q (env.set i (.own (.dic (putD ks vs k e).1 (putD ks vs k e).2))) s) := by
  unfold setD
  simp only [h]
  rw [wx_ite]
  cases isKey k <;> by_cases c : ks.length < LIM <;> simp [c]
theorem wx_pop_own {i : Nat} {ds : List D} {k : D} {Q : Envi × D → Sto → Prop} (h : env[i]? = some (.own (.lst ds))) : wx Xp (popD env i k) s Q = ov (popAt ds k) fun r => Q (env.set i (.own (.lst r.2)), r.1) s := by
  refine wx_mat (g := fun (r : D × List D) => (env.set i (.own (.lst r.2)), r.1)) ?_
  unfold popD
  simp only [h]
  cases popAt ds k <;> rfl
theorem wx_pop_cell {i n : Nat} {ds : List D} {k : D} {Q : Envi × D → Sto → Prop} (h : env[i]? = some (.val (.cell n))) (h2 : s[n]? = some (.lst ds)) : wx Xp (popD env i k) s Q = ov (popAt ds k) fun r => Q (env, r.1) (s.set n (.lst r.2)) := by
  refine wx_mat (g := fun (r : D × List D) => (env, r.1)) (t := fun (r : D × List D) => s.set n (.lst r.2)) ?_
  unfold popD
  simp only [h, h2]
  cases popAt ds k <;> rfl
theorem wx_run {T : List Fn} {W n f : Nat} {ds : List D} {fn : Fn} (h : T[f]? = some fn) (hl : ds.length = fn.np) : wx Xp (runF T W (n + 1) f ds) s Q = wx Xp (exs (runF T W n) W fn.body (startE fn ds)) s fun fl s => match fl with
    | .rt d => Q d s
    | .nx _ => Q .non s
    | .ct _ => False := by
  show wx Xp (match T[f]? with | some fn => _ | none => _) s Q = _
  rw [h]
  show wx Xp (if _ then _ else _) s Q = _
  rw [if_pos hl, wx_bind]
  congr 1
  funext fl s'
  cases fl <;> first | exact wx_eq rfl | exact wx_bad | rfl
end

/-! ### raise, try -/
section
variable {F : Fns} {W : Nat} {env : Envi} {s : Sto} {Q : Fl → Sto → Prop}
@[simp] theorem wx_raisS {c : Nat} : wx Xp (ex F W (.rais c) env) s Q = Xp (.mk c none) s := by
  rw [ex]
  exact wx_exc rfl
@[simp] theorem wx_raisF {c : Nat} {f : Str} {e : E} : wx Xp (ex F W (.raisF c f e) env) s Q = wx Xp (ev F e env) s fun d s => Xp (.mk c (some (f, d))) s := by
  rw [ex, wx_bind]
  congr 1
  funext d s'
  exact wx_exc rfl
theorem wx_tryM {b : M Fl} {h : Exn → M Fl} : wx Xp (tryM b h) s Q = wx (fun x s => wx Xp (h x) s Q) b s Q := by
  cases e : b s with
  | ok a s' =>
    rw [wx_eq e]
    exact wx_eq (by unfold tryM; rw [e])
  | exc x s' =>
    rw [wx_exc e]
    have z : tryM b h s = h x s' := by unfold tryM; rw [e]
    unfold wx
    rw [z]
  | bad =>
    rw [wx_no e]
    exact wx_no (by unfold tryM; rw [e])
@[simp] theorem wx_tryS {b : Sb} {hs : List Hd} : wx Xp (ex F W (.try_ b hs) env) s Q = wx (fun x s => wx Xp (hdl hs x env) s Q) (exs F W b env) s Q := by
  rw [ex]
  exact wx_tryM
@[simp] theorem wp_tryS {b : Sb} {hs : List Hd} : wp (ex F W (.try_ b hs) env) s Q = wx (fun x s => wp (hdl hs x env) s Q) (exs F W b env) s Q := by
  rw [wp_wx, wx_tryS]
  congr 1
  funext x s'
  rw [wp_wx]
@[simp] theorem wp_raisS {c : Nat} : wp (ex F W (.rais c) env) s Q = False := by
  rw [wp_wx, wx_raisS]
@[simp] theorem wp_hdl_nil {x : Exn} : wp (hdl [] x env) s Q = False := by
  rw [wp_wx]
  exact wx_exc rfl
@[simp] theorem wp_hdl_cons {h : Hd} {hs : List Hd} {c : Nat} {f : Option (Str × D)} : wp (hdl (h :: hs) (.mk c f) env) s Q = (c < h.n ∧ if h.cs.contains c then ov (h.v.val f) fun d => Q (.nx ((List.replicate env.length .no).set h.i (.val d))) s else wp (hdl hs (.mk c f) env) s Q) := by
  show wp (if c < h.n then (if h.cs.contains c then M.bnd (M.lift (h.v.val f)) fun d => M.ret (.nx ((List.replicate env.length .no).set h.i (.val d))) else hdl hs (.mk c f) env) else M.bad) s Q = _
  rw [wp_ite]
  by_cases hc : c < h.n
  · rw [if_pos hc, wp_ite]
    simp only [wp_bnd, wp_lift, wp_ret, hc, true_and]
  · rw [if_neg hc]
    simp [hc]
end
end Ev

set_option Elab.async false
set_option linter.all false
set_option maxRecDepth 100000
set_option maxHeartbeats 2000000
namespace Ev
open PySem
/-! ### words -/
def letters : Str := "abcdefghijklmnopqrstuvwxyz"
def isWordS (z : Str) : Bool := decide (1 ≤ z.cps.size) && decide (z.cps.size ≤ 8) && z.cps.toList.all fun c => decide (c ∈ letters.cps.toList)
def isWord : D → Bool
  | .str z => isWordS z
  | _ => false
def isInt : D → Bool
  | .int _ => true
  | _ => false
def isBet (lo : Int) (d : D) (hi : Int) : Bool := match d with
  | .int i => decide (lo ≤ i) && decide (i ≤ hi)
  | _ => false
def isTup (k : Int) (d : D) : Bool := match d with
  | .tup ds => (ds.length : Int) == k
  | _ => false
def areKinds (d : D) : Bool := match d with
  | .tup ds => decide (ds.length ≤ 4) && ds.all isWord
  | _ => false
def isSort (d : D) : Bool := match d with
  | .tup [w, a, b] => isWord w && areKinds a && areKinds b
  | _ => false
abbrev Sort3 := Str × List Str × List Str
def sortD (t : Sort3) : D := .tup [.str t.1, .tup (t.2.1.map .str), .tup (t.2.2.map .str)]
def okS (t : Sort3) : Prop := isWordS t.1 = true ∧ (t.2.1.length ≤ 4 ∧ ∀ k ∈ t.2.1, isWordS k = true) ∧ (t.2.2.length ≤ 4 ∧ ∀ k ∈ t.2.2, isWordS k = true)
def wordOf : D → Str
  | .tup (.str w :: _) => w
  | _ => ⟨#[]⟩
def isStock (d : D) : Bool := match d with
  | .tup ds => decide (1 ≤ ds.length) && decide (ds.length ≤ 12) && ds.all isSort && decide (ds.map wordOf).Nodup
  | _ => false
def okStock (st : List Sort3) : Prop := 1 ≤ st.length ∧ st.length ≤ 12 ∧ (∀ t ∈ st, okS t) ∧ (st.map (·.1)).Nodup
def stockD (st : List Sort3) : D := .tup (st.map sortD)
theorem isWord_str {d : D} (h : isWord d = true) : ∃ z, d = .str z ∧ isWordS z = true := by
  cases d <;> first | exact ⟨_, rfl, h⟩ | cases h
theorem words_of : ∀ {ds : List D}, ds.all isWord = true → ∃ zs : List Str, ds = zs.map .str ∧ ∀ z ∈ zs, isWordS z = true
  | [], _ => ⟨[], rfl, by simp⟩
  | d :: ds, h => by
    rw [List.all_cons, Bool.and_eq_true] at h
    obtain ⟨z, rfl, hz⟩ := isWord_str h.1
    obtain ⟨zs, rfl, hs⟩ := words_of h.2
    exact ⟨z :: zs, rfl, fun y m => by rcases List.mem_cons.mp m with rfl | m; exact hz; exact hs y m⟩
theorem kinds_of {d : D} (h : areKinds d = true) : ∃ zs : List Str, d = .tup (zs.map .str) ∧ zs.length ≤ 4 ∧ ∀ z ∈ zs, isWordS z = true := by
  cases d with
  | tup ds =>
    simp only [areKinds, Bool.and_eq_true, decide_eq_true_eq] at h
    obtain ⟨zs, rfl, hs⟩ := words_of h.2
    exact ⟨zs, rfl, by simpa using h.1, hs⟩
  | _ => cases h
theorem sort_of {d : D} (h : isSort d = true) : ∃ t, d = sortD t ∧ okS t := by
  unfold isSort at h
  split at h
  · rename_i w a b
    simp only [Bool.and_eq_true] at h
    obtain ⟨z, rfl, hz⟩ := isWord_str h.1.1
    obtain ⟨as, rfl, ha⟩ := kinds_of h.1.2
    obtain ⟨bs, rfl, hb⟩ := kinds_of h.2
    exact ⟨(z, as, bs), rfl, hz, ha, hb⟩
  · cases h
theorem sorts_of : ∀ {ds : List D}, ds.all isSort = true → ∃ st : List Sort3, ds = st.map sortD ∧ ∀ t ∈ st, okS t
  | [], _ => ⟨[], rfl, by simp⟩
  | d :: ds, h => by
    rw [List.all_cons, Bool.and_eq_true] at h
    obtain ⟨z, rfl, hz⟩ := sort_of h.1
    obtain ⟨zs, rfl, hs⟩ := sorts_of h.2
    exact ⟨z :: zs, rfl, fun y m => by rcases List.mem_cons.mp m with rfl | m; exact hz; exact hs y m⟩
theorem wordOf_sort (t : Sort3) : wordOf (sortD t) = t.1 := rfl
theorem stock_of {d : D} (h : isStock d = true) : ∃ st, d = stockD st ∧ okStock st := by
  cases d with
  | tup ds =>
    simp only [isStock, Bool.and_eq_true, decide_eq_true_eq] at h
    obtain ⟨st, rfl, hs⟩ := sorts_of h.1.2
    refine ⟨st, rfl, by simpa using h.1.1.1, by simpa using h.1.1.2, hs, ?_⟩
    have := h.2
    rw [List.map_map] at this
    exact this
  | _ => cases h
/-- the first member that is not so, by its place -/
def firstBad (p : D → Bool) : Nat → List D → Option Nat
  | _, [] => none
  | k, d :: ds => if p d = true then firstBad p (k + 1) ds else some k
theorem firstBad_none {p : D → Bool} : ∀ {k : Nat} {ds : List D}, firstBad p k ds = none ↔ ds.all p = true
  | k, [] => by simp [firstBad]
  | k, d :: ds => by
    rw [firstBad, List.all_cons, Bool.and_eq_true]
    by_cases h : p d = true <;> simp [h, firstBad_none]
/-- indexes of wires of such kinds -/
def rowRight (ws : List Str) : List D → List Str → Bool
  | [], [] => true
  | .int i :: ds, k :: ks => decide (0 ≤ i) && decide (ws[i.toNat]? = some k) && rowRight ws ds ks
  | _, _ => false
def sortAt (st : List Sort3) (w : Str) : Option (List Str × List Str) := (st.find? fun t => t.1 == w).map fun t => t.2
def boxRight (st : List Sort3) (ws : List Str) (d : D) : Bool := match d with
  | .tup [.str w, .tup a, .tup b] => match sortAt st w with
    | some (x, y) => rowRight ws a x && rowRight ws b y
    | none => false
  | _ => false
def placeD (side : Int) (o : Option Nat) (d : D) : D := match o with
  | some k => .tup [.int side, .int (k : Int)]
  | none => d
def endsF (ws : List Str) (side : Int) (v : D) (d : D) : D := match v with
  | .tup es => placeD side (firstBad (fun e => isBet 0 e (ws.length - 1)) 0 es) d
  | _ => .tup [.int side]
def strsOf : List D → List Str
  | .str z :: ds => z :: strsOf ds
  | _ => []
def webF (st : List Sort3) (v : D) : D := match v with
  | .tup [w, b, l, r] => match w with
    | .tup ws => placeD 0 (firstBad isWord 0 ws) (match b with
      | .tup bs => placeD 1 (firstBad (boxRight st (strsOf ws)) 0 bs) (endsF (strsOf ws) 2 l (endsF (strsOf ws) 3 r .non))
      | _ => .tup [.int 1])
    | _ => .tup [.int 0]
  | _ => .tup []
@[simp] theorem strsOf_map : ∀ {zs : List Str}, strsOf (zs.map .str) = zs
  | [] => rfl
  | z :: zs => by rw [List.map_cons, strsOf, strsOf_map]
end Ev
namespace Lw
open PySem Ev
abbrev R (n : Nat) : Fns := runF T 100 n
variable {n : Nat} {s : Sto} {Q : D → Sto → Prop}
theorem sp_is_integer {d : D} : wp (R (n + 1) 0 [d]) s Q = Q (.bl (isInt d)) s := by
  rw [R, wp_run T_is_integer rfl]
  simp [bd_is_integer, startE]
  cases d <;> rfl
theorem sp_is_between {d : D} {lo hi : Int} : wp (R (n + 2) 1 [.int lo, d, .int hi]) s Q = Q (.bl (isBet lo d hi)) s := by
  rw [R, wp_run T_is_between rfl]
  simp [bd_is_between, startE, sp_is_integer]
  cases d <;> simp [isInt, isBet]
  rename_i i
  by_cases h : lo ≤ i <;> simp [h]
theorem sp_is_tuple_of {d : D} {k : Int} : wp (R (n + 1) 2 [.int k, d]) s Q = Q (.bl (isTup k d)) s := by
  rw [R, wp_run T_is_tuple_of rfl]
  simp [bd_is_tuple_of, startE]
  cases d <;> simp [tyD, isTup]
theorem sp_is_word {d : D} (g : G d) : wp (R (n + 1) 3 [d]) s Q = Q (.bl (isWord d)) s := by
  rw [R, wp_run T_is_word rfl]
  simp [bd_is_word, startE]
  cases d <;> simp [tyD, isWord]
  rename_i z
  have := g.str
  rw [ov_eq (len_str (by rw [LIM_val]; omega))]
  simp
  unfold isWordS
  by_cases h1 : 1 ≤ z.cps.size
  · by_cases h2 : z.cps.size ≤ 8
    · rw [if_pos (by omega), if_pos (by omega), ov_eq (it_str (by rw [LIM_val]; omega))]
      rw [wp_compL_mapf (g := fun c => D.bl (decide (c ∈ letters.cps.toList)))]
      · simp [h1, h2]
      · intro c _ Q
        simp [letters]
    · rw [if_pos (by omega), if_neg (by omega)]
      simp [h2]
  · rw [if_neg (by omega)]
    simp [h1]
theorem sp_are_kinds {d : D} (g : G d) : wp (R (n + 2) 4 [d]) s Q = Q (.bl (areKinds d)) s := by
  rw [R, wp_run T_are_kinds rfl]
  simp [bd_are_kinds, startE]
  cases d <;> simp [tyD, areKinds]
  rename_i ds
  by_cases h : ds.length ≤ 4
  · rw [if_pos (by omega)]
    rw [wp_compL_map (g := fun c => D.bl (isWord c))]
    · simp [h]
    · intro c m Q
      simp [sp_is_word (g.tup c m)]
  · rw [if_neg (by omega)]
    simp [h]
end Lw


set_option Elab.async false
set_option linter.all false
set_option maxRecDepth 100000
set_option maxHeartbeats 2000000
namespace Ev
open PySem
theorem isTup2 {d : D} (h : isTup 2 d = true) : ∃ a b, d = .tup [a, b] := by
  cases d with
  | tup ds => match ds, h with | [a, b], _ => exact ⟨a, b, rfl⟩
  | _ => cases h
theorem isTup3 {d : D} (h : isTup 3 d = true) : ∃ a b c, d = .tup [a, b, c] := by
  cases d with
  | tup ds =>
    match ds, h with
    | [a, b, c], _ => exact ⟨a, b, c, rfl⟩
  | _ => cases h
theorem isTup4 {d : D} (h : isTup 4 d = true) : ∃ a b c e, d = .tup [a, b, c, e] := by
  cases d with
  | tup ds =>
    match ds, h with
    | [a, b, c, e], _ => exact ⟨a, b, c, e, rfl⟩
  | _ => cases h
end Ev
namespace Lw
open PySem Ev
variable {n : Nat} {s : Sto} {Q : D → Sto → Prop}
theorem sp_is_stock {d : D} (g : G d) : wp (R (n + 3) 5 [d]) s Q = Q (.bl (isStock d)) s := by
  refine wp_det fun Q q => ?_
  rw [R, wp_run T_is_stock rfl]
  simp [bd_is_stock, lp_is_stock_0, startE]
  cases d <;> simp [tyD]
  case tup ds =>
    by_cases h1 : 1 ≤ ds.length
    · rw [if_pos (by omega)]
      by_cases h2 : ds.length ≤ 12
      · rw [if_pos (by omega)]
        refine wp_forL (fun rest env s' => s' = s ∧ (∃ x, env = [.val (.tup ds), x, .no, .no, .no]) ∧ ds.all isSort = rest.all isSort ∧ ∀ d ∈ rest, d ∈ ds) ⟨rfl, ⟨_, rfl⟩, rfl, fun d m => m⟩ ?_ ?_
        · rintro d rest env s' ⟨rfl, ⟨x, rfl⟩, h, hm⟩
          have gd := g.tup d (hm d (List.mem_cons_self ..))
          have hm2 : ∀ d ∈ rest, d ∈ ds := fun d m => hm d (List.mem_cons_of_mem _ m)
          have fin : isSort d = false → Q (.bl false) s' := fun e => by
            have : isStock (.tup ds) = false := by simp [isStock, h, e]
            rw [this] at q
            exact q
          simp [sp_is_tuple_of]
          by_cases c : isTup 3 d = true
          · obtain ⟨w, a, b, rfl⟩ := isTup3 c
            have g1 := gd.tup w (by simp)
            have g2 := gd.tup a (by simp)
            have g3 := gd.tup b (by simp)
            simp [c, sp_is_word, sp_are_kinds, g1, g2, g3]
            cases k1 : isWord w
            · exact fin (by simp [isSort, k1])
            · cases k2 : areKinds a
              · exact fin (by simp [isSort, k2])
              · cases k3 : areKinds b
                · exact fin (by simp [isSort, k3])
                · exact ⟨by rw [h]; simp [isSort, k1, k2, k3], hm2⟩
          · have c : isTup 3 d = false := by simpa using c
            simp [c]
            refine fin ?_
            unfold isSort
            split
            · cases c
            · rfl
        · rintro env s' ⟨rfl, ⟨x, rfl⟩, h, hm⟩
          simp
          obtain ⟨st, rfl, hs⟩ := sorts_of (h.trans rfl)
          rw [wp_compL_mapf (g := fun t : Sort3 => D.str t.1)]
          · simp at h1 h2
            have e : lenSetD (.lst (st.map fun t : Sort3 => D.str t.1)) = some (.int (nubS (st.map (·.1))).length) := by
              have := lenSet_strs (xs := st.map (·.1)) (by rw [List.length_map]; omega)
              rw [List.map_map] at this
              exact this
            rw [ov_eq e]
            simp
            have e2 : isStock (.tup (st.map sortD)) = (decide (1 ≤ st.length) && decide (st.length ≤ 12) && (st.map sortD).all isSort && decide (st.map (·.1)).Nodup) := by
              show (_ && _ && _ && _) = _
              rw [List.length_map, List.map_map]
              rfl
            rw [e2, h] at q
            have l := nubS_len (st.map (·.1))
            rw [List.length_map] at l
            simp only [h1, h2, decide_true, Bool.true_and, List.all_nil, ← l] at q
            rw [beq_len]
            simpa using q
          · intro t m Q
            simp [sortD]
      · rw [if_neg (by omega)]
        simpa [isStock, h2] using q
    · rw [if_neg (by omega)]
      simpa [isStock, h1] using q
  all_goals exact q
end Lw


set_option Elab.async false
set_option linter.all false
set_option maxRecDepth 100000
set_option maxHeartbeats 2000000
namespace Ev
open PySem
/-! ### the dictionary of a stock -/
def skeyD (st : List Sort3) : List D := st.map fun t => .str t.1
def valD (t : Sort3) : D := .tup [.tup (t.2.1.map .str), .tup (t.2.2.map .str)]
def valsD (st : List Sort3) : List D := st.map valD
theorem keyAt_stock {w : Str} : ∀ {st : List Sort3}, keyAt (skeyD st) (valsD st) (.str w) = (st.find? fun t => t.1 == w).map valD
  | [] => rfl
  | t :: st => by
    show (if D.eqv (.str t.1) (.str w) = true then some (valD t) else keyAt (skeyD st) (valsD st) (.str w)) = _
    rw [eqv_str, List.find?_cons, keyAt_stock]
    by_cases h : t.1 == w <;> simp [h]
theorem putM_new {ks vs : List D} {k v : D} (hk : isKey k = true) (hl : ks.length < LIM) (h : (ks.any fun x => D.eqv x k) = false) : putM (ks, vs) k v = some (ks ++ [k], vs ++ [v]) := by
  simp [putM, putD, hk, hl, h]
theorem wp_compK_new {α : Type} {f : D → M (Option (D × D))} {h : α → D} {k : α → Str} {v : α → D} {s : Sto} {Q : List D × List D → Sto → Prop} : ∀ {xs : List α} {zs : List Str} {vs : List D}, (∀ a ∈ xs, ∀ Q, wp (f (h a)) s Q = Q (some (.str (k a), v a)) s) → (zs ++ xs.map k).Nodup → zs.length + xs.length < LIM → wp (compK f (xs.map h) (zs.map .str, vs)) s Q = Q ((zs ++ xs.map k).map .str, vs ++ xs.map v) s
  | [], zs, vs, _, _, _ => by simp [wp_compK_nil]
  | x :: xs, zs, vs, e, nd, hl => by
    rw [List.map_cons, wp_compK_cons, e x (List.mem_cons_self ..)]
    have h1 : ((zs.map D.str).any fun y => D.eqv y (.str (k x))) = false := by
      rw [List.any_eq_false]
      intro y m
      obtain ⟨z, hz, rfl⟩ := List.mem_map.mp m
      rw [eqv_str]
      intro q
      have q := eq_of_beq q
      subst q
      rw [List.map_cons] at nd
      exact (List.nodup_append.mp nd).2.2 _ hz _ (List.mem_cons_self ..) rfl
    rw [List.length_cons] at hl
    have h2 : (zs.map D.str).length < LIM := by rw [List.length_map]; omega
    show ov (putM _ _ _) _ = _
    rw [putM_new rfl h2 h1]
    have e2 : zs.map D.str ++ [D.str (k x)] = (zs ++ [k x]).map D.str := by simp
    rw [ov_some, e2, wp_compK_new (k := k) (v := v) (fun a m => e a (List.mem_cons_of_mem _ m)) (by simpa using nd) (by simp; omega)]
    simp
/-! ### indexes -/
def natsD (is : List Nat) : List D := is.map fun (i : Nat) => .int (i : Int)
def areIx (m : Nat) (d : D) : Bool := match d with
  | .tup es => es.all fun e => isBet 0 e ((m : Int) - 1)
  | _ => false
theorem isBet_nat {m : Nat} {d : D} (h : isBet 0 d ((m : Int) - 1) = true) : ∃ i : Nat, d = .int (i : Int) ∧ i < m := by
  cases d with
  | int i =>
    simp only [isBet, Bool.and_eq_true, decide_eq_true_eq] at h
    obtain ⟨k, rfl⟩ := Int.eq_ofNat_of_zero_le h.1
    exact ⟨k, rfl, by omega⟩
  | _ => cases h
theorem nats_of {m : Nat} : ∀ {es : List D}, (es.all fun e => isBet 0 e ((m : Int) - 1)) = true → ∃ is : List Nat, es = natsD is ∧ ∀ i ∈ is, i < m
  | [], _ => ⟨[], rfl, by simp⟩
  | d :: ds, h => by
    rw [List.all_cons, Bool.and_eq_true] at h
    obtain ⟨z, rfl, hz⟩ := isBet_nat h.1
    obtain ⟨zs, rfl, hs⟩ := nats_of h.2
    exact ⟨z :: zs, rfl, fun y m => by rcases List.mem_cons.mp m with rfl | m; exact hz; exact hs y m⟩
theorem ix_of {m : Nat} {d : D} (h : areIx m d = true) : ∃ is : List Nat, d = .tup (natsD is) ∧ ∀ i ∈ is, i < m := by
  cases d with
  | tup ds =>
    obtain ⟨is, rfl, hi⟩ := nats_of h
    exact ⟨is, rfl, hi⟩
  | _ => cases h
def atS (ws : List Str) (i : Nat) : Str := ws.getD i ⟨#[]⟩
theorem atS_get {ws : List Str} {i : Nat} (h : i < ws.length) : ws[i]? = some (atS ws i) := by
  simp [atS, h]
def kindsAt (ws : List Str) (is : List Nat) : List Str := is.map (atS ws)
theorem ix_strs {ws : List Str} {i : Nat} (h : i < ws.length) : ixD (.tup (ws.map .str)) (.int (i : Int)) = some (.str (atS ws i)) := ix_tup (by rw [List.getElem?_map, atS_get h]; rfl)
def hasForm (m : Nat) (d : D) : Bool := match d with
  | .tup [w, .tup a, .tup b] => isWord w && areIx m (.tup a) && areIx m (.tup b) && decide (a.length ≤ 4) && decide (b.length ≤ 4)
  | _ => false
theorem rowRight_nats {ws : List Str} : ∀ {is : List Nat} {ks : List Str}, (∀ i ∈ is, i < ws.length) → rowRight ws (natsD is) ks = decide (kindsAt ws is = ks)
  | [], [], _ => rfl
  | [], k :: ks, _ => by simp [natsD, rowRight, kindsAt]
  | i :: is, [], _ => by simp [natsD, rowRight, kindsAt]
  | i :: is, k :: ks, h => by
    show (decide (0 ≤ (i : Int)) && decide (ws[(i : Int).toNat]? = some k) && rowRight ws (natsD is) ks) = _
    rw [rowRight_nats fun j m => h j (List.mem_cons_of_mem _ m), Int.toNat_natCast, atS_get (h i (List.mem_cons_self ..)), Bool.eq_iff_iff]
    simp [kindsAt]
    exact fun _ => decide_eq_true_iff
theorem rowRight_ix {ws : List Str} : ∀ {ds : List D} {ks : List Str}, rowRight ws ds ks = true → ds.length = ks.length ∧ areIx ws.length (.tup ds) = true
  | [], [], _ => ⟨rfl, rfl⟩
  | .int i :: ds, k :: ks, h => by
    simp only [rowRight, Bool.and_eq_true, decide_eq_true_eq] at h
    obtain ⟨h1, h2⟩ := rowRight_ix h.2
    refine ⟨by simp [h1], ?_⟩
    have := (List.getElem?_eq_some_iff.mp h.1.2).1
    show (isBet 0 (.int i) _ && _) = true
    rw [Bool.and_eq_true]
    refine ⟨?_, h2⟩
    simp only [isBet, Bool.and_eq_true, decide_eq_true_eq]
    omega
  | [], k :: ks, h => by simp [rowRight] at h
  | .non :: ds, [], h => by simp [rowRight] at h
  | .bl _ :: ds, [], h => by simp [rowRight] at h
  | .int _ :: ds, [], h => by simp [rowRight] at h
  | .str _ :: ds, [], h => by simp [rowRight] at h
  | .tup _ :: ds, [], h => by simp [rowRight] at h
  | .lst _ :: ds, [], h => by simp [rowRight] at h
  | .dic _ _ :: ds, [], h => by simp [rowRight] at h
  | .cell _ :: ds, [], h => by simp [rowRight] at h
  | .non :: ds, k :: ks, h => by simp [rowRight] at h
  | .bl _ :: ds, k :: ks, h => by simp [rowRight] at h
  | .str _ :: ds, k :: ks, h => by simp [rowRight] at h
  | .tup _ :: ds, k :: ks, h => by simp [rowRight] at h
  | .lst _ :: ds, k :: ks, h => by simp [rowRight] at h
  | .dic _ _ :: ds, k :: ks, h => by simp [rowRight] at h
  | .cell _ :: ds, k :: ks, h => by simp [rowRight] at h
theorem find_ok {st : List Sort3} (o : okStock st) {w : Str} {t : Sort3} (h : (st.find? fun t => t.1 == w) = some t) : okS t ∧ t.1 = w := by
  refine ⟨o.2.2.1 t (List.mem_of_find?_eq_some h), ?_⟩
  have := List.find?_some h
  exact eq_of_beq this
/-- a box of the stock, as the program looks at it -/
theorem boxRight_form {st : List Sort3} (o : okStock st) {ws : List Str} {w : Str} {a b : List Nat} (ha : ∀ i ∈ a, i < ws.length) (hb : ∀ i ∈ b, i < ws.length) :
    boxRight st ws (.tup [.str w, .tup (natsD a), .tup (natsD b)]) = match (st.find? fun t => t.1 == w) with
      | some t => decide (kindsAt ws a = t.2.1) && decide (kindsAt ws b = t.2.2)
      | none => false := by
  show (match sortAt st w with | some (x, y) => _ | none => false) = _
  unfold sortAt
  cases h : (st.find? fun t => t.1 == w) with
  | none => rfl
  | some t =>
    show (rowRight ws (natsD a) t.2.1 && rowRight ws (natsD b) t.2.2) = _
    rw [rowRight_nats ha, rowRight_nats hb]
theorem boxRight_noform {st : List Sort3} (o : okStock st) {ws : List Str} {d : D} (h : hasForm ws.length d = false) : boxRight st ws d = false := by
  unfold boxRight
  split
  · rename_i w a b
    unfold sortAt
    cases hf : (st.find? fun t => t.1 == w) with
    | none => rfl
    | some t =>
      show (rowRight ws a t.2.1 && rowRight ws b t.2.2) = false
      obtain ⟨o1, rfl⟩ := find_ok o hf
      cases ra : rowRight ws a t.2.1
      · rfl
      · cases rb : rowRight ws b t.2.2
        · rfl
        · obtain ⟨l1, i1⟩ := rowRight_ix ra
          obtain ⟨l2, i2⟩ := rowRight_ix rb
          simp only [hasForm, i1, i2, isWord, o1.1, l1, l2, o1.2.1.1, o1.2.2.1] at h
          simp at h
  · rfl
end Ev
namespace Lw
open PySem Ev
variable {n : Nat} {s : Sto} {Q : D → Sto → Prop}
theorem sp_sorts_in {st : List Sort3} (o : okStock st) : wp (R (n + 1) 7 [stockD st]) s Q = Q (.dic (skeyD st) (valsD st)) s := by
  rw [R, wp_run T_sorts_in rfl]
  simp [bd_sorts_in, startE, stockD]
  have := wp_compK_new (s := s) (f := cmpK (runF T 100 n) (E.take 1) (E.tup (Es.cons (E.take 2) (Es.cons (E.take 3) Es.nil))) [1, 2, 3] true Oe.no [1, 2, 3] [Sl.val (D.tup (List.map sortD st)), Sl.no, Sl.no, Sl.no]) (h := sortD) (k := fun t => t.1) (v := valD) (xs := st) (zs := []) (vs := []) (Q := fun r s => Q (D.dic r.1 r.2) s) (fun t m Q => by simp [sortD, valD]) (by simpa using o.2.2.2) (by have := o.2.1; rw [LIM_val]; simp; omega)
  simp at this
  rw [this]
  unfold skeyD valsD
  simp [Function.comp_def]
theorem sp_are_wires {ws : List D} {d : D} : wp (R (n + 3) 8 [.tup ws, d]) s Q = Q (.bl (areIx ws.length d)) s := by
  rw [R, wp_run T_are_wires rfl]
  simp [bd_are_wires, startE]
  cases d <;> simp [tyD, areIx]
  rename_i ds
  rw [wp_compL_map (g := fun c => D.bl (isBet 0 c (ws.length - 1)))]
  · simp
  · intro c m Q
    simp [sp_is_between]
theorem sp_kinds_at {ws : List Str} {is : List Nat} (h : ∀ i ∈ is, i < ws.length) : wp (R (n + 1) 9 [.tup (ws.map .str), .tup (natsD is)]) s Q = Q (.tup ((kindsAt ws is).map .str)) s := by
  rw [R, wp_run T_kinds_at rfl]
  simp [bd_kinds_at, startE]
  unfold natsD
  rw [wp_compL_mapf (g := fun i => D.str (atS ws i))]
  · simp [kindsAt, Function.comp_def]
  · intro i m Q
    simp [ix_strs (h i m)]
theorem sp_has_form {ws : List D} {d : D} (g : G d) : wp (R (n + 4) 10 [.tup ws, d]) s Q = Q (.bl (hasForm ws.length d)) s := by
  rw [R, wp_run T_has_form rfl]
  simp [bd_has_form, startE, sp_is_tuple_of]
  by_cases c : isTup 3 d = true
  · obtain ⟨w, a, b, rfl⟩ := isTup3 c
    have g1 := g.tup w (by simp)
    simp [c, sp_is_word, g1, sp_are_wires]
    cases k1 : isWord w
    · have : hasForm ws.length (.tup [w, a, b]) = false := by
        unfold hasForm
        split
        · rename_i e
          cases e
          rw [k1]
          rfl
        · rfl
      simp [this]
    · cases k2 : areIx ws.length a
      · have : hasForm ws.length (.tup [w, a, b]) = false := by
          unfold hasForm
          split
          · rename_i e
            cases e
            rw [k1, k2]
            rfl
          · rfl
        simp [this]
      · cases k3 : areIx ws.length b
        · have : hasForm ws.length (.tup [w, a, b]) = false := by
            unfold hasForm
            split
            · rename_i e
              cases e
              rw [k1, k2, k3]
              rfl
            · rfl
          simp [this]
        · obtain ⟨a, rfl, _⟩ := ix_of k2
          obtain ⟨b, rfl, _⟩ := ix_of k3
          simp [hasForm, k1, k2, k3]
          by_cases k4 : (natsD a).length ≤ 4
          · rw [if_pos (by omega)]
            by_cases k5 : (natsD b).length ≤ 4
            · simp [k4, k5]
              rw [decide_eq_true (by omega)]
            · simp [k4, k5]
              rw [decide_eq_false (by omega)]
          · rw [if_neg (by omega)]
            simp [k4]
  · have c : isTup 3 d = false := by simpa using c
    simp [c]
    have : hasForm ws.length d = false := by
      unfold hasForm
      split
      · cases c
      · rfl
    rw [this]
end Lw


set_option Elab.async false
set_option linter.all false
set_option maxRecDepth 100000
set_option maxHeartbeats 2000000
namespace Ev
open PySem
def badsI (p : D → Bool) : Nat → List D → List Nat
  | _, [] => []
  | k, d :: ds => if p d = true then badsI p (k + 1) ds else k :: badsI p (k + 1) ds
theorem badsI_head {p : D → Bool} : ∀ {k : Nat} {ds : List D}, (badsI p k ds).head? = firstBad p k ds
  | k, [] => rfl
  | k, d :: ds => by
    rw [badsI, firstBad]
    split
    · exact badsI_head
    · rfl
theorem wp_compL_number {p : D → Bool} {f : D → M (Option D)} {s : Sto} {Q : List D → Sto → Prop} : ∀ {ds : List D} {k : Nat}, (∀ (k : Nat), ∀ d ∈ ds, ∀ Q, wp (f (.tup [.int (k : Int), d])) s Q = Q (if p d = true then none else some (.int (k : Int))) s) → wp (compL f (number k ds)) s Q = Q (natsD (badsI p k ds)) s
  | [], k, _ => wp_compL_nil
  | d :: ds, k, h => by
    rw [number, wp_compL_cons, h k d (List.mem_cons_self ..), wp_compL_number (p := p) fun k d m => h k d (List.mem_cons_of_mem _ m), badsI]
    by_cases c : p d = true <;> simp [c, natsD]
def numD (o : Option Nat) : D := match o with
  | some k => .int (k : Int)
  | none => .non
theorem fb_cases (p : D → Bool) (k : Nat) (ds : List D) : firstBad p k ds = none ∨ ∃ j, firstBad p k ds = some j := by
  cases firstBad p k ds
  · exact .inl rfl
  · exact .inr ⟨_, rfl⟩
@[simp] theorem pls_nats {is : List Nat} {n : Nat} : D.pls (natsD is) n = true := pls_map fun _ _ => rfl
@[simp] theorem ne_nats {is : List Nat} : copD .ne (.lst (natsD is)) (.lst []) = some (!is.isEmpty) := by
  rw [cop_ne (by simp) rfl]
  cases is <;> rfl
@[simp] theorem ix_nats0 {i : Nat} {is : List Nat} : ixD (.lst (natsD (i :: is))) (.int 0) = some (.int (i : Int)) := ix_lst0
@[simp] theorem placeD_some {s : Int} {k : Nat} {d : D} : placeD s (some k) d = .tup [.int s, .int (k : Int)] := rfl
@[simp] theorem placeD_none {s : Int} {d : D} : placeD s none d = d := rfl
@[simp] theorem numD_some {k : Nat} : numD (some k) = .int (k : Int) := rfl
@[simp] theorem numD_none : numD none = .non := rfl
end Ev
namespace Lw
open PySem Ev
variable {n : Nat} {s : Sto} {Q : D → Sto → Prop}
theorem sp_boxes_fault {st : List Sort3} (o : okStock st) {ws : List Str} {bs : List D} (g : ∀ b ∈ bs, G b) : wp (R (n + 5) 11 [.tup (ws.map .str), .tup bs, .dic (skeyD st) (valsD st)]) s Q = Q (numD (firstBad (boxRight st ws) 0 bs)) s := by
  refine wp_det fun Q q => ?_
  rw [R, wp_run T_boxes_fault rfl]
  simp [bd_boxes_fault, lp_boxes_fault_0, startE]
  refine wp_forL (fun rest env s' => s' = s ∧ ∃ k ds x y z, rest = number k ds ∧ (∀ b ∈ ds, G b) ∧ env = [.val (.tup (ws.map .str)), .val (.tup bs), .val (.dic (skeyD st) (valsD st)), .own (.dic (skeyD st) (valsD st)), x, y, z] ∧ firstBad (boxRight st ws) 0 bs = firstBad (boxRight st ws) k ds) ⟨rfl, 0, bs, _, _, _, rfl, g, rfl, rfl⟩ ?_ ?_
  · rintro d rest env s' ⟨rfl, k, ds, x, y, z, hr, hg, rfl, hf⟩
    match ds, hr with
    | b :: ds, hr =>
      rw [number] at hr
      cases hr
      have gb := hg b (List.mem_cons_self ..)
      have gs : ∀ b ∈ ds, G b := fun b m => hg b (List.mem_cons_of_mem _ m)
      have fin : boxRight st ws b = false → Q (.int (k : Int)) s' := fun e => by
        rw [hf, firstBad, e] at q
        exact q
      simp [sp_has_form gb]
      cases hfm : hasForm ws.length b
      · exact fin (boxRight_noform o hfm)
      · unfold hasForm at hfm
        split at hfm
        · rename_i w a c
          simp only [Bool.and_eq_true, decide_eq_true_eq] at hfm
          obtain ⟨⟨⟨⟨h1, h2⟩, h3⟩, h4⟩, h5⟩ := hfm
          obtain ⟨z, rfl, hz⟩ := isWord_str h1
          obtain ⟨a, ea, ia⟩ := ix_of h2
          obtain ⟨c, ec, ic⟩ := ix_of h3
          cases ea
          cases ec
          have br := boxRight_form o (w := z) ia ic
          simp [sp_kinds_at ia, sp_kinds_at ic, keyAt_stock]
          cases ht : (st.find? fun t => t.1 == z) with
          | none =>
            rw [ht] at br
            exact fin br
          | some t =>
            rw [ht] at br
            simp only [Option.isSome_map, Option.isSome_some, Option.map_some]
            simp [cop_ne, valD]
            by_cases e : boxRight st ws (.tup [.str z, .tup (natsD a), .tup (natsD c)]) = true
            · rw [br] at e
              simp only [Bool.and_eq_true, decide_eq_true_eq] at e
              rw [if_neg (by simp [e.1, e.2])]
              exact ⟨k + 1, ds, rfl, gs, by rw [hf, firstBad, br]; simp [e.1, e.2]⟩
            · have e' : boxRight st ws (.tup [.str z, .tup (natsD a), .tup (natsD c)]) = false := by simpa using e
              rw [br] at e
              have e2 : kindsAt ws a = t.2.1 → ¬ kindsAt ws c = t.2.2 := by simpa using e
              rw [if_pos (by
                by_cases h : t.2.1 = kindsAt ws a
                · exact .inr fun h' => e2 h.symm h'.symm
                · exact .inl h)]
              exact fin e'
        · cases hfm
  · rintro env s' ⟨rfl, k, ds, x, y, z, hr, hg, rfl, hf⟩
    simp
    match ds, hr with
    | [], _ =>
      rw [hf] at q
      exact q
theorem firstBad_get {p : D → Bool} {ds : List D} {k : Nat} (h : firstBad p 0 ds = some k) : ∃ r, badsI p 0 ds = k :: r := by
  rw [← badsI_head] at h
  match hb : badsI p 0 ds with
  | [] => rw [hb] at h; cases h
  | j :: r =>
    rw [hb] at h
    cases h
    exact ⟨r, rfl⟩
theorem bads_nil {p : D → Bool} {ds : List D} (h : firstBad p 0 ds = none) : badsI p 0 ds = [] := by
  rw [← badsI_head] at h
  exact List.head?_eq_none_iff.mp h
def wiresF (d : D) (e : D) : D := match d with
  | .tup ws => placeD 0 (firstBad isWord 0 ws) e
  | _ => .tup [.int 0]
theorem sp_wires_fault {d : D} (g : G d) : wp (R (n + 2) 12 [d]) s Q = Q (wiresF d .non) s := by
  rw [R, wp_run T_wires_fault rfl]
  simp [bd_wires_fault, startE]
  cases d <;> simp [tyD, wiresF]
  rename_i ds
  rw [wp_compL_number (p := isWord)]
  · rcases fb_cases isWord 0 ds with h | ⟨k, h⟩
    · simp [bads_nil h, h]
    · obtain ⟨r, e⟩ := firstBad_get h
      simp [e, h]
  · intro k d m Q
    simp [sp_is_word (g.tup d m)]
    cases isWord d <;> simp
theorem sp_ends_fault {d : D} {ws : List Str} {side : Int} : wp (R (n + 3) 13 [.tup (ws.map .str), .int side, d]) s Q = Q (endsF ws side d .non) s := by
  rw [R, wp_run T_ends_fault rfl]
  simp [bd_ends_fault, startE]
  cases d <;> simp [tyD, endsF]
  rename_i ds
  rw [wp_compL_number (p := fun e => isBet 0 e (ws.length - 1))]
  · rcases fb_cases (fun e => isBet 0 e (ws.length - 1)) 0 ds with h | ⟨k, h⟩
    · simp [bads_nil h, h]
    · obtain ⟨r, e⟩ := firstBad_get h
      simp [e, h]
  · intro k d m Q
    simp [sp_is_between]
    cases isBet 0 d (ws.length - 1) <;> simp
theorem firstBad_words {ws : List D} (h : firstBad isWord 0 ws = none) : ∃ zs : List Str, ws = zs.map .str ∧ ∀ z ∈ zs, isWordS z = true := words_of (firstBad_none.mp h)
theorem sp_fault_by {st : List Sort3} (o : okStock st) {d : D} (g : G d) : wp (R (n + 6) 14 [.dic (skeyD st) (valsD st), d]) s Q = Q (webF st d) s := by
  rw [R, wp_run T_fault_by rfl]
  simp [bd_fault_by, startE, sp_is_tuple_of]
  by_cases c : isTup 4 d = true
  · obtain ⟨w, b, l, r, rfl⟩ := isTup4 c
    have g1 := g.tup w (by simp)
    have g2 := g.tup b (by simp)
    simp [c, sp_wires_fault g1]
    unfold webF
    cases w with
    | tup ws =>
      simp only [wiresF]
      rcases fb_cases isWord 0 ws with h | ⟨k, h⟩
      · obtain ⟨zs, rfl, hz⟩ := firstBad_words h
        simp [h]
        cases b with
        | tup bs =>
          simp [sp_boxes_fault o (fun b m => g2.tup b m)]
          rcases fb_cases (boxRight st zs) 0 bs with h2 | ⟨k, h2⟩
          · simp [h2, sp_ends_fault]
            cases l with
            | tup ls =>
              simp only [endsF]
              rcases fb_cases (fun e => isBet 0 e (zs.length - 1)) 0 ls with h3 | ⟨k, h3⟩
              · simp [h3]
              · simp [h3]
            | _ => simp [endsF]
          · simp [h2]
        | _ => simp [tyD]
      · simp [h]
    | _ => simp [wiresF]
  · have c : isTup 4 d = false := by simpa using c
    simp [c]
    unfold webF
    split
    · cases c
    · rfl
end Lw


set_option Elab.async false
set_option linter.all false
set_option maxRecDepth 100000
set_option maxHeartbeats 2000000
namespace Ev
open PySem
/-! ### webs -/
abbrev Box3 := Str × List Nat × List Nat
structure Web3 where
  ws : List Str
  bs : List Box3
  l : List Nat
  r : List Nat
def boxD (b : Box3) : D := .tup [.str b.1, .tup (natsD b.2.1), .tup (natsD b.2.2)]
def webD (w : Web3) : D := .tup [.tup (w.ws.map .str), .tup (w.bs.map boxD), .tup (natsD w.l), .tup (natsD w.r)]
structure okWeb (w : Web3) : Prop where
  b : ∀ x ∈ w.bs, (∀ i ∈ x.2.1, i < w.ws.length) ∧ (∀ i ∈ x.2.2, i < w.ws.length) ∧ x.2.1.length ≤ 4 ∧ x.2.2.length ≤ 4
  l : ∀ i ∈ w.l, i < w.ws.length
  r : ∀ i ∈ w.r, i < w.ws.length
def natsOf : List D → List Nat
  | .int i :: ds => i.toNat :: natsOf ds
  | _ => []
def boxOf : D → Box3
  | .tup [.str w, .tup a, .tup b] => (w, natsOf a, natsOf b)
  | _ => (⟨#[]⟩, [], [])
def webOf : D → Web3
  | .tup [.tup ws, .tup bs, .tup l, .tup r] => ⟨strsOf ws, bs.map boxOf, natsOf l, natsOf r⟩
  | _ => ⟨[], [], [], []⟩
@[simp] theorem natsOf_D : ∀ {is : List Nat}, natsOf (natsD is) = is
  | [] => rfl
  | i :: is => by
    show (i : Int).toNat :: natsOf (natsD is) = _
    rw [natsOf_D, Int.toNat_natCast]
@[simp] theorem boxOf_D {b : Box3} : boxOf (boxD b) = b := by simp [boxD, boxOf]
@[simp] theorem webOf_D {w : Web3} : webOf (webD w) = w := by
  have : (w.bs.map boxD).map boxOf = w.bs := by rw [List.map_map]; simp [Function.comp_def]
  simp [webD, webOf, this]
theorem placeD_non {s : Int} {o : Option Nat} {d : D} (h : placeD s o d = .non) : o = none ∧ d = .non := by
  cases o with
  | none => exact ⟨rfl, h⟩
  | some k => cases h
theorem endsF_non {ws : List Str} {s : Int} {v d : D} (h : endsF ws s v d = .non) : (∃ is, v = .tup (natsD is) ∧ ∀ i ∈ is, i < ws.length) ∧ d = .non := by
  unfold endsF at h
  split at h
  · obtain ⟨h1, h2⟩ := placeD_non h
    have := firstBad_none.mp h1
    obtain ⟨is, rfl, hi⟩ := nats_of this
    exact ⟨⟨is, rfl, hi⟩, h2⟩
  · cases h
theorem box_of {st : List Sort3} (o : okStock st) {ws : List Str} {d : D} (h : boxRight st ws d = true) : ∃ x : Box3, d = boxD x ∧ (∀ i ∈ x.2.1, i < ws.length) ∧ (∀ i ∈ x.2.2, i < ws.length) ∧ x.2.1.length ≤ 4 ∧ x.2.2.length ≤ 4 := by
  unfold boxRight at h
  split at h
  · rename_i w a b
    unfold sortAt at h
    cases hf : (st.find? fun t => t.1 == w) with
    | none => rw [hf] at h; cases h
    | some t =>
      rw [hf] at h
      have h : (rowRight ws a t.2.1 && rowRight ws b t.2.2) = true := h
      obtain ⟨o1, rfl⟩ := find_ok o hf
      rw [Bool.and_eq_true] at h
      obtain ⟨l1, i1⟩ := rowRight_ix h.1
      obtain ⟨l2, i2⟩ := rowRight_ix h.2
      obtain ⟨a', ea, ia⟩ := ix_of i1
      obtain ⟨b', eb, ib⟩ := ix_of i2
      cases ea
      cases eb
      have e1 : a'.length ≤ 4 := by have := o1.2.1.1; simp [natsD] at l1; omega
      have e2 : b'.length ≤ 4 := by have := o1.2.2.1; simp [natsD] at l2; omega
      exact ⟨(t.1, a', b'), rfl, ia, ib, e1, e2⟩
  · cases h
theorem boxes_of {st : List Sort3} (o : okStock st) {ws : List Str} : ∀ {bs : List D}, bs.all (boxRight st ws) = true → ∃ xs : List Box3, bs = xs.map boxD ∧ ∀ x ∈ xs, (∀ i ∈ x.2.1, i < ws.length) ∧ (∀ i ∈ x.2.2, i < ws.length) ∧ x.2.1.length ≤ 4 ∧ x.2.2.length ≤ 4
  | [], _ => ⟨[], rfl, by simp⟩
  | d :: ds, h => by
    rw [List.all_cons, Bool.and_eq_true] at h
    obtain ⟨z, rfl, hz⟩ := box_of o h.1
    obtain ⟨zs, rfl, hs⟩ := boxes_of o h.2
    exact ⟨z :: zs, rfl, fun y m => by rcases List.mem_cons.mp m with rfl | m; exact hz; exact hs y m⟩
theorem web_of {st : List Sort3} (o : okStock st) {d : D} (h : webF st d = .non) : ∃ w, d = webD w ∧ okWeb w := by
  unfold webF at h
  split at h
  · rename_i w b l r
    split at h
    · rename_i ws
      obtain ⟨h1, h⟩ := placeD_non h
      obtain ⟨zs, rfl, hz⟩ := words_of (firstBad_none.mp h1)
      split at h
      · rename_i bs
        obtain ⟨h2, h3⟩ := placeD_non h
        rw [strsOf_map] at h2 h3
        obtain ⟨xs, rfl, hx⟩ := boxes_of o (firstBad_none.mp h2)
        obtain ⟨⟨il, rfl, hl⟩, h4⟩ := endsF_non h3
        obtain ⟨⟨ir, rfl, hr⟩, _⟩ := endsF_non h4
        exact ⟨⟨zs, xs, il, ir⟩, rfl, hx, hl, hr⟩
      · cases h
    · cases h
  · cases h
def allPlaces (w : Web3) : List Nat := (w.bs.map fun b => b.2.1 ++ b.2.2).flatten
def canLeft (w : Web3) : Bool := !w.bs.isEmpty && decide (w.l ++ w.r).Nodup && (List.range w.ws.length).all fun i => decide (i ∈ allPlaces w)
def kindsAlike (w v : Web3) : Bool := decide (kindsAt w.ws w.l = kindsAt v.ws v.l) && decide (kindsAt w.ws w.r = kindsAt v.ws v.r)
/-- a place within a side -/
def inSide (ks : List Int) (d : D) : D := match d with
  | .tup ds => .tup (ks.map .int ++ ds)
  | d => d
def ruleF (st : List Sort3) (d : D) : D := match d with
  | .tup [a, b] => if isNon (webF st a) = true then (if isNon (webF st b) = true then (if kindsAlike (webOf a) (webOf b) = true then (if canLeft (webOf a) = true then .non else .tup [.int 3]) else .tup [.int 2]) else inSide [1] (webF st b)) else inSide [0] (webF st a)
  | _ => .tup []
theorem isNon_of {d : D} (h : isNon d = true) : d = .non := by cases d <;> first | rfl | cases h
theorem placeD_form {s : Int} {o : Option Nat} {d : D} (h : d = .non ∨ ∃ ks : List Int, d = .tup (ks.map .int) ∧ ks.length ≤ 2) : placeD s o d = .non ∨ ∃ ks : List Int, placeD s o d = .tup (ks.map .int) ∧ ks.length ≤ 2 := by
  cases o with
  | none => exact h
  | some k => exact .inr ⟨[s, k], rfl, by simp⟩
theorem endsF_form {ws : List Str} {s : Int} {v d : D} (h : d = .non ∨ ∃ ks : List Int, d = .tup (ks.map .int) ∧ ks.length ≤ 2) : endsF ws s v d = .non ∨ ∃ ks : List Int, endsF ws s v d = .tup (ks.map .int) ∧ ks.length ≤ 2 := by
  unfold endsF
  split
  · exact placeD_form h
  · exact .inr ⟨[s], rfl, by simp⟩
theorem webF_form (st : List Sort3) (d : D) : webF st d = .non ∨ ∃ ks : List Int, webF st d = .tup (ks.map .int) ∧ ks.length ≤ 2 := by
  unfold webF
  split
  · split
    · refine placeD_form ?_
      split
      · exact placeD_form (endsF_form (endsF_form (.inl rfl)))
      · exact .inr ⟨[1], rfl, by simp⟩
    · exact .inr ⟨[0], rfl, by simp⟩
  · exact .inr ⟨[], rfl, by simp⟩
theorem natsD_ints (is : List Nat) : natsD is = (is.map fun (i : Nat) => (i : Int)).map D.int := by
  unfold natsD
  rw [List.map_map]
  rfl
theorem nodup_ints {is : List Nat} : (is.map fun (i : Nat) => (i : Int)).Nodup ↔ is.Nodup := by
  rw [List.Nodup, List.pairwise_map, List.Nodup]
  constructor <;> intro h <;> refine h.imp fun {a b} e => ?_ <;> omega
theorem lenSet_natsT {is : List Nat} (h : is.length ≤ 4000) : lenSetD (.tup (natsD is)) = some (.int (nubI (is.map fun (i : Nat) => (i : Int))).length) := by
  rw [natsD_ints]
  exact lenSet_intsT (by rw [List.length_map]; exact h)
theorem natsD_app {a b : List Nat} : natsD (a ++ b) = natsD a ++ natsD b := by simp [natsD]
theorem natsD_len {is : List Nat} : (natsD is).length = is.length := by simp [natsD]
theorem eqv_nats {is : List Nat} {i : Nat} : ((natsD is).any fun y => D.eqv y (.int (i : Int))) = decide (i ∈ is) := by
  rw [Bool.eq_iff_iff]
  simp [natsD]
  exact ⟨fun ⟨x, m, e⟩ => by
    have e : x = i := by omega
    exact e ▸ m, fun m => ⟨i, m, rfl⟩⟩
theorem wp_compL_nats {f : D → M (Option D)} {g : Nat → D} {is : List Nat} {s : Sto} {Q : List D → Sto → Prop} (h : ∀ i ∈ is, ∀ Q, wp (f (.int (i : Int))) s Q = Q (some (g i)) s) : wp (compL f (natsD is)) s Q = Q (is.map g) s := wp_compL_mapf h
theorem range_nats {n : Nat} : range 0 n = natsD (List.range n) := by
  unfold range natsD
  simp
end Ev
namespace Lw
open PySem Ev
variable {n : Nat} {s : Sto} {Q : D → Sto → Prop}
end Lw


set_option Elab.async false
set_option linter.all false
set_option maxRecDepth 100000
set_option maxHeartbeats 2000000
namespace Ev
open PySem
def sortOf : D → Sort3
  | .tup [.str w, .tup a, .tup b] => (w, strsOf a, strsOf b)
  | _ => (⟨#[]⟩, [], [])
def stockOf : D → List Sort3
  | .tup ds => ds.map sortOf
  | _ => []
@[simp] theorem sortOf_D {t : Sort3} : sortOf (sortD t) = t := by simp [sortD, sortOf]
@[simp] theorem stockOf_D {st : List Sort3} : stockOf (stockD st) = st := by
  have : (st.map sortD).map sortOf = st := by rw [List.map_map]; simp [Function.comp_def]
  simp [stockD, stockOf, this]
def ruleWalk (st : List Sort3) : Nat → List D → D
  | _, [] => .non
  | k, r :: rs => if isNon (ruleF st r) = true then ruleWalk st (k + 1) rs else inSide [1, (k : Int)] (ruleF st r)
def bookF (d : D) : D := match d with
  | .tup [a, b] => if isStock a = true then (match b with
    | .tup rs => if 1 ≤ rs.length ∧ rs.length ≤ 8 then ruleWalk (stockOf a) 0 rs else .tup [.int 1]
    | _ => .tup [.int 1]) else .tup [.int 0]
  | _ => .tup []
theorem ruleF_form (st : List Sort3) (d : D) : ruleF st d = .non ∨ ∃ ks : List Int, ruleF st d = .tup (ks.map .int) ∧ ks.length ≤ 3 := by
  unfold ruleF
  split
  · rename_i a b
    split
    · split
      · split
        · split
          · exact .inl rfl
          · exact .inr ⟨[3], rfl, by simp⟩
        · exact .inr ⟨[2], rfl, by simp⟩
      · rename_i h
        rcases webF_form st b with e | ⟨ks, e, l⟩
        · rw [e] at h; exact (h rfl).elim
        · rw [e]
          exact .inr ⟨1 :: ks, by simp [inSide], by simp; omega⟩
    · rename_i h
      rcases webF_form st a with e | ⟨ks, e, l⟩
      · rw [e] at h; exact (h rfl).elim
      · rw [e]
        exact .inr ⟨0 :: ks, by simp [inSide], by simp; omega⟩
  · exact .inr ⟨[], rfl, by simp⟩
theorem walk_form (st : List Sort3) : ∀ (k : Nat) (rs : List D), ruleWalk st k rs = .non ∨ ∃ ks : List Int, ruleWalk st k rs = .tup (ks.map .int) ∧ ks.length ≤ 5
  | k, [] => .inl rfl
  | k, r :: rs => by
    rw [ruleWalk]
    split
    · exact walk_form st (k + 1) rs
    · rename_i h
      rcases ruleF_form st r with e | ⟨ks, e, l⟩
      · rw [e] at h; exact (h rfl).elim
      · rw [e]
        exact .inr ⟨1 :: (k : Int) :: ks, by simp [inSide], by simp; omega⟩
theorem bookF_form (d : D) : bookF d = .non ∨ ∃ ks : List Int, bookF d = .tup (ks.map .int) ∧ ks.length ≤ 5 := by
  unfold bookF
  split
  · split
    · split
      · split
        · exact walk_form _ _ _
        · exact .inr ⟨[1], rfl, by simp⟩
      · exact .inr ⟨[1], rfl, by simp⟩
    · exact .inr ⟨[0], rfl, by simp⟩
  · exact .inr ⟨[], rfl, by simp⟩
theorem isNon_eq' {d : D} (h : isNon d = true) : d = .non := isNon_of h
theorem atS_default {ws : List Str} : True := trivial
end Ev
namespace Lw
open PySem Ev
variable {n : Nat} {s : Sto} {Q : D → Sto → Prop}
theorem sp_kinds_atW {w : Web3} {is : List Nat} (h : ∀ i ∈ is, i < w.ws.length) : wp (R (n + 1) 9 [.tup (w.ws.map .str), .tup (natsD is)]) s Q = Q (.tup ((kindsAt w.ws is).map .str)) s := sp_kinds_at h
end Lw


set_option Elab.async false
set_option linter.all false
set_option maxRecDepth 100000
set_option maxHeartbeats 2000000
namespace Ev
open PySem
/-- a loop that looks for the first member that is not so -/
theorem wp_forL_find {α : Type} {b : D → Envi → M Fl} {h : α → D} {p : α → Bool} {r : α → D} {I : Envi → Prop} {s : Sto} {Q : Fl → Sto → Prop} : ∀ {xs : List α} {env : Envi}, I env → (∀ a ∈ xs, ∀ env, I env → wp (b (h a) env) s fun fl s' => s' = s ∧ if p a = true then lpk fl I (fun _ => False) else fl = .rt (r a)) →
    (match xs.find? (fun a => !p a) with | none => ∀ env, I env → Q (.nx env) s | some a => Q (.rt (r a)) s) → wp (forL b (xs.map h) env) s Q
  | [], env, i, _, q => by rw [List.map_nil, wp_forL_nil]; exact q env i
  | x :: xs, env, i, hs, q => by
    rw [List.map_cons, wp_forL_cons]
    refine wp_mono (hs x (List.mem_cons_self ..) env i) fun fl s' z => ?_
    obtain ⟨rfl, z⟩ := z
    rw [List.find?_cons] at q
    cases c : p x
    · rw [c] at z q
      have z : fl = .rt (r x) := z
      subst z
      exact q
    · rw [c] at z q
      have z : lpk fl I (fun _ => False) := z
      exact lpk_mono z (fun e i => wp_forL_find i (fun a m => hs a (List.mem_cons_of_mem _ m)) q) (fun f z => z.elim)
theorem firstBad_range {p : D → Bool} : ∀ {ds : List D} {j : Nat}, firstBad p j ds = ((List.range ds.length).find? fun k => !p (ds.getD k .non)).map (· + j)
  | [], j => rfl
  | d :: ds, j => by
    rw [firstBad, List.length_cons, List.range_succ_eq_map, List.find?_cons]
    cases c : p d
    · simp [c]
    · rw [firstBad_range]
      simp [c, List.find?_map, Function.comp_def]
      congr 1
      funext k
      omega
theorem firstBad_range0 {p : D → Bool} {ds : List D} : firstBad p 0 ds = (List.range ds.length).find? fun k => !p (ds.getD k .non) := by
  rw [firstBad_range]
  cases (List.range ds.length).find? fun k => !p (ds.getD k .non) <;> rfl
theorem get_some {ds : List D} {k : Nat} (h : k < ds.length) : ds[k]? = some (ds.getD k .non) := by
  simp [h]
theorem chr_any {c : Nat} : ∀ {cs : List Nat}, ((cs.map fun c => D.str ⟨#[c]⟩).any fun y => D.eqv y (.str ⟨#[c]⟩)) = decide (c ∈ cs)
  | [] => rfl
  | x :: xs => by
    rw [List.map_cons, List.any_cons, chr_any, eqv_str, Bool.eq_iff_iff]
    simp
    constructor
    · rintro (h | h)
      · exact .inl h.symm
      · exact .inr h
    · rintro (h | h)
      · exact .inl h.symm
      · exact .inr h
def isIx (d : D) (m : Int) : Bool := match d with
  | .int i => decide (0 ≤ i) && decide (i < m)
  | _ => false
theorem isIx_bet {d : D} {m : Int} : isIx d m = isBet 0 d (m - 1) := by
  cases d with
  | int i =>
    simp only [isIx, isBet]
    congr 1
    rw [Bool.eq_iff_iff]
    simp
    omega
  | _ => rfl
theorem isSort_false {d : D} (h : isTup 3 d = false) : isSort d = false := by
  unfold isSort
  split
  · cases h
  · rfl
end Ev
namespace Lw
open PySem Ev
variable {n : Nat} {s : Sto} {Q : D → Sto → Prop}
theorem ix_tupK {ds : List D} {k : Nat} (h : k < ds.length) : ixD (.tup ds) (.int (k : Int)) = some (ds.getD k .non) := ix_tup (get_some h)
def wk (ws : List Str) (k : Str) (d : D) : Bool := match d with
  | .int i => decide (ws[i.toNat]? = some k)
  | _ => false
theorem rowRight_find {ws : List Str} : ∀ {ds : List D} {ks : List Str}, ds.length = ks.length → rowRight ws ds ks = ((List.range ds.length).find? fun k => !(isIx (ds.getD k .non) ws.length && wk ws (ks.getD k ⟨#[]⟩) (ds.getD k .non))).isNone
  | [], [], _ => rfl
  | d :: ds, k :: ks, h => by
    have ih := rowRight_find (ws := ws) (ds := ds) (ks := ks) (by simpa using h)
    rw [List.length_cons, List.range_succ_eq_map, List.find?_cons]
    have e : rowRight ws (d :: ds) (k :: ks) = ((isIx d ws.length && wk ws k d) && rowRight ws ds ks) := by
      cases d <;> simp [rowRight, isIx, wk]
      rename_i i
      rw [Bool.eq_iff_iff]
      simp
      intro h0 a b
      have := (List.getElem?_eq_some_iff.mp a).1
      omega
    rw [e, ih]
    simp only [List.getD_cons_zero]
    cases c : (isIx d ws.length && wk ws k d)
    · rfl
    · simp [List.find?_map, Function.comp_def]
theorem pls_sorts {st : List Sort3} {n : Nat} (h : 2 ≤ n) : D.pls (st.map sortD) n = true := pls_map fun t _ => by
  match n, h with
  | n + 2, _ => simp [sortD]
theorem find_filter {α : Type} {p : α → Bool} : ∀ {xs : List α}, xs.find? p = (xs.filter p).head?
  | [] => rfl
  | x :: xs => by
    rw [List.find?_cons, List.filter_cons]
    cases p x
    · exact find_filter
    · rfl
theorem wp_compL_filterf {α : Type} {f : D → M (Option D)} {h g : α → D} {p : α → Bool} {s : Sto} {Q : List D → Sto → Prop} : ∀ {xs : List α}, (∀ a ∈ xs, ∀ Q, wp (f (h a)) s Q = Q (if p a = true then some (g a) else none) s) → wp (compL f (xs.map h)) s Q = Q ((xs.filter p).map g) s
  | [], _ => wp_compL_nil
  | x :: xs, e => by
    rw [List.map_cons, wp_compL_cons, e x (List.mem_cons_self ..), wp_compL_filterf fun a m => e a (List.mem_cons_of_mem _ m), List.filter_cons]
    cases p x <;> rfl
theorem isIx_nat {d : D} {m : Nat} (h : isIx d m = true) : ∃ i : Nat, d = .int (i : Int) ∧ i < m := by
  rw [isIx_bet] at h
  exact isBet_nat h
@[simp] theorem wp_see_sort {t : Sort3} {Q : D → Sto → Prop} {s : Sto} : wp (seeD (sortD t)) s Q = Q (sortD t) s := wp_see_tup
end Lw


set_option Elab.async false
set_option linter.all false
set_option maxRecDepth 100000
set_option maxHeartbeats 2000000
namespace Lw
open PySem Ev
variable {n : Nat} {s : Sto} {Q : D → Sto → Prop}
theorem kinds_comp {ws : List Str} {is : List Nat} (h : ∀ i ∈ is, i < ws.length) {f : D → M (Option D)} {Q : List D → Sto → Prop} (e : ∀ i ∈ is, ∀ Q, wp (f (.int (i : Int))) s Q = Q (some (.str (atS ws i))) s) : wp (compL f (natsD is)) s Q = Q ((kindsAt ws is).map .str) s := by
  rw [wp_compL_nats e, kindsAt, List.map_map]
  rfl
@[simp] theorem seq_webD {w : Web3} {Q : D → Sto → Prop} {s : Sto} : wp (seeD (webD w)) s Q = Q (webD w) s := wp_see_tup
@[simp] theorem ix_web0 {w : Web3} : ixD (webD w) (.int 0) = some (.tup (w.ws.map .str)) := rfl
@[simp] theorem ix_web1 {w : Web3} : ixD (webD w) (.int 1) = some (.tup (w.bs.map boxD)) := rfl
@[simp] theorem ix_web2 {w : Web3} : ixD (webD w) (.int 2) = some (.tup (natsD w.l)) := rfl
@[simp] theorem ix_web3 {w : Web3} : ixD (webD w) (.int 3) = some (.tup (natsD w.r)) := rfl
@[simp] theorem bindT_box {env : Envi} {t : List Nat} {b : Box3} : bindT env t true (boxD b) = putAll env t [.str b.1, .tup (natsD b.2.1), .tup (natsD b.2.2)] := rfl
theorem wp_compL_natsF {f : D → M (Option D)} {p : Nat → Bool} {g : Nat → D} {is : List Nat} {Q : List D → Sto → Prop} (h : ∀ i ∈ is, ∀ Q, wp (f (.int (i : Int))) s Q = Q (if p i = true then some (g i) else none) s) : wp (compL f (natsD is)) s Q = Q ((is.filter p).map g) s := wp_compL_filterf h

end Lw


set_option Elab.async false
set_option linter.all false
set_option maxRecDepth 100000
set_option maxHeartbeats 2000000
namespace Ev
open PySem
/-- cells but some stay as they are -/
def Frm (cs : List Nat) (s s' : Sto) : Prop := s.length ≤ s'.length ∧ ∀ i, i < s.length → i ∉ cs → s'[i]? = s[i]?
theorem Frm.refl {cs : List Nat} {s : Sto} : Frm cs s s := ⟨Nat.le_refl _, fun _ _ _ => rfl⟩
theorem Frm.trans {cs : List Nat} {s s' s'' : Sto} (h : Frm cs s s') (h' : Frm cs s' s'') : Frm cs s s'' := ⟨Nat.le_trans h.1 h'.1, fun i l n => (h'.2 i (by have := h.1; omega) n).trans (h.2 i l n)⟩
theorem Frm.mono {cs cs' : List Nat} {s s' : Sto} (h : Frm cs s s') (m : ∀ i ∈ cs, i ∈ cs') : Frm cs' s s' := ⟨h.1, fun i l n => h.2 i l fun e => n (m i e)⟩
theorem Frm.set {cs : List Nat} {s : Sto} {c : Nat} {x : Cel} (m : c ∈ cs) : Frm cs s (s.set c x) := ⟨by simp, fun i l n => by
  rw [List.getElem?_set_ne]
  exact fun e => n (e ▸ m)⟩
theorem Frm.push {cs : List Nat} {s : Sto} {x : Cel} : Frm cs s (s ++ [x]) := ⟨by simp, fun i l n => by rw [List.getElem?_append_left l]⟩
/-- a well with so many draws left -/
def Well (c k : Nat) (s : Sto) : Prop := ∃ a x y : Int, s[c]? = some (.lst [.int a, .int x, .int y]) ∧ 0 ≤ y ∧ y + k ≤ 2 ^ 40
theorem Well.less {c k k' : Nat} {s : Sto} (h : Well c k s) (l : k' ≤ k) : Well c k' s := by
  obtain ⟨a, x, y, e, h0, h1⟩ := h
  exact ⟨a, x, y, e, h0, by omega⟩
theorem Well.lt {c k : Nat} {s : Sto} (h : Well c k s) : c < s.length := by
  obtain ⟨a, x, y, e, h0, h1⟩ := h
  exact (List.getElem?_eq_some_iff.mp e).1
theorem Well.frm {c k : Nat} {cs : List Nat} {s s' : Sto} (h : Well c k s) (f : Frm cs s s') (n : c ∉ cs) : Well c k s' := by
  have l := h.lt
  obtain ⟨a, x, y, e, h0, h1⟩ := h
  exact ⟨a, x, y, by rw [f.2 c l n, e], h0, h1⟩
theorem mulOk_r {i j : Int} (h : -(2 ^ 64) < j) (h' : j < 2 ^ 64) : mulOk i j = true := by
  unfold mulOk
  rw [decide_eq_true h, decide_eq_true h']
  simp
theorem mul_int {i j : Int} (h : mulOk i j = true) : mulD (.int i) (.int j) = some (.int (i * j)) := by
  show (if _ then _ else _) = _
  rw [if_pos h]
theorem fdiv_int {i j : Int} (h : 0 < j) (h' : j < 2 ^ 100) : fdivD (.int i) (.int j) = some (.int (i / j)) := by
  have key : j.natAbs.log2 < 8000 := by
    by_cases z : j.natAbs = 0
    · rw [z]
      decide
    · refine Nat.lt_of_lt_of_le (show j.natAbs.log2 < 100 from (Nat.log2_lt z).mpr ?_) (by decide)
      omega
  show (if _ then _ else _) = _
  rw [if_pos ⟨h, key⟩]
@[simp] theorem ixN30 : ixN 3 0 = some 0 := rfl
@[simp] theorem ixN31 : ixN 3 1 = some 1 := rfl
@[simp] theorem ixN32 : ixN 3 2 = some 2 := rfl
end Ev
namespace Lw
open PySem Ev
variable {n : Nat} {s : Sto} {Q : D → Sto → Prop}
end Lw


set_option Elab.async false
set_option linter.all false
set_option maxRecDepth 100000
set_option maxHeartbeats 2000000
namespace Ev
open PySem
/-- a well and a list of wires -/
structure St (c w k : Nat) (s : Sto) (ws : List Str) : Prop where
  ne : c ≠ w
  well : Well c k s
  at_ : s[w]? = some (.lst (ws.map .str))
  word : ∀ z ∈ ws, isWordS z = true
theorem St.less {c w k k' : Nat} {s : Sto} {ws : List Str} (h : St c w k s ws) (l : k' ≤ k) : St c w k' s ws := ⟨h.ne, h.well.less l, h.at_, h.word⟩
theorem St.lt {c w k : Nat} {s : Sto} {ws : List Str} (h : St c w k s ws) : w < s.length := (List.getElem?_eq_some_iff.mp h.at_).1
theorem ne_nil_len {α : Type} {xs : List α} (h : xs.isEmpty = false) : 0 < xs.length := by
  cases xs with
  | nil => cases h
  | cons => simp
theorem ix_nats {is : List Nat} {r : Int} (h : 0 ≤ r) (h' : r < is.length) : ∃ i ∈ is, ixD (.lst (natsD is)) (.int r) = some (.int (i : Int)) := by
  obtain ⟨k, rfl⟩ := Int.eq_ofNat_of_zero_le h
  have hk : k < is.length := by omega
  refine ⟨is[k], List.getElem_mem hk, ix_lst ?_⟩
  simp [natsD, hk]
@[simp] theorem eq_nats_nil {is : List Nat} : copD .eq (.lst (natsD is)) (.lst []) = some is.isEmpty := by
  rw [cop_eq (by simp) rfl]
  cases is <;> rfl
theorem map_erase {α β : Type} {f : α → β} : ∀ {xs : List α} {k : Nat}, (xs.map f).eraseIdx k = (xs.eraseIdx k).map f
  | [], _ => rfl
  | x :: xs, 0 => rfl
  | x :: xs, k + 1 => by
    rw [List.map_cons, List.eraseIdx_cons_succ, List.eraseIdx_cons_succ, List.map_cons, map_erase]
theorem perm_erase {α : Type} : ∀ {xs : List α} {k : Nat} (h : k < xs.length), (xs[k] :: xs.eraseIdx k).Perm xs
  | x :: xs, 0, _ => .refl _
  | x :: xs, k + 1, h => by
    rw [List.getElem_cons_succ, List.eraseIdx_cons_succ]
    exact (List.Perm.swap ..).trans (List.Perm.cons x (perm_erase (by simpa using h)))
theorem popAt_nats {is : List Nat} {r : Int} (h : 0 ≤ r) (h' : r < is.length) : ∃ (i : Nat) (js : List Nat), popAt (natsD is) (.int r) = some (.int (i : Int), natsD js) ∧ (i :: js : List Nat).Perm is ∧ js.length + 1 = is.length := by
  obtain ⟨k, rfl⟩ := Int.eq_ofNat_of_zero_le h
  have hk : k < is.length := by omega
  refine ⟨is[k], is.eraseIdx k, ?_, ?_, ?_⟩
  · show (Ev.ixN _ _).bind _ = _
    rw [natsD_len, ixN_nat hk]
    simp [natsD, hk]
    exact map_erase
  · exact perm_erase hk
  · rw [List.length_eraseIdx_of_lt hk]
    omega
end Ev
namespace Lw
open PySem Ev
variable {n : Nat} {s : Sto} {Q : D → Sto → Prop}
end Lw


set_option Elab.async false
set_option linter.all false
set_option maxRecDepth 100000
set_option maxHeartbeats 2000000
namespace Ev
open PySem
/-- pairs of numbers in a dictionary -/
theorem pairsK_nats : ∀ {ps : List (Nat × Nat)} {ks vs : List Nat}, (ks ++ ps.map (·.1)).Nodup → ks.length + ps.length < LIM → pairsK (ps.map fun p => .tup [.int (p.1 : Int), .int (p.2 : Int)]) (natsD ks, natsD vs) = some (natsD (ks ++ ps.map (·.1)), natsD (vs ++ ps.map (·.2)))
  | [], ks, vs, _, _ => by simp [pairsK]
  | p :: ps, ks, vs, nd, hl => by
    rw [List.map_cons, pairsK]
    have h1 : ((natsD ks).any fun y => D.eqv y (.int (p.1 : Int))) = false := by
      rw [eqv_nats, decide_eq_false]
      intro m
      rw [List.map_cons] at nd
      exact (List.nodup_append.mp nd).2.2 _ m _ (List.mem_cons_self ..) rfl
    rw [List.length_cons] at hl
    rw [putM_new rfl (by rw [natsD_len]; omega) h1]
    have e1 : natsD ks ++ [.int (p.1 : Int)] = natsD (ks ++ [p.1]) := by simp [natsD]
    have e2 : natsD vs ++ [.int (p.2 : Int)] = natsD (vs ++ [p.2]) := by simp [natsD]
    show (some _).bind _ = _
    rw [Option.bind_some, e1, e2, pairsK_nats (by simpa using nd) (by simp; omega)]
    simp
theorem keyAt_range {k : Nat} : ∀ {ks : List Nat} {a : Nat}, k ∈ ks → keyAt (natsD ks) (natsD (List.range' a ks.length)) (.int (k : Int)) = some (.int ((a + ks.idxOf k : Nat) : Int))
  | x :: ks, a, m => by
    rw [List.length_cons, List.range'_succ]
    show (if D.eqv (.int (x : Int)) (.int (k : Int)) = true then some (D.int (a : Int)) else keyAt (natsD ks) (natsD (List.range' (a + 1) ks.length)) (.int (k : Int))) = _
    by_cases e : x = k
    · subst e
      simp
    · have m' : k ∈ ks := by
        rcases List.mem_cons.mp m with z | z
        · exact (e z.symm).elim
        · exact z
      rw [if_neg, keyAt_range m', List.idxOf_cons]
      · have : (x == k) = false := by simpa using e
        rw [this]
        simp
        omega
      · rw [eqv_int]
        simp
        omega
  | [], _, m => by cases m
theorem keyAt_perm {k : Nat} {ks : List Nat} (m : k ∈ ks) : keyAt (natsD ks) (natsD (List.range ks.length)) (.int (k : Int)) = some (.int ((ks.idxOf k : Nat) : Int)) := by
  rw [List.range_eq_range', keyAt_range m, Nat.zero_add]
theorem findIdx_nats {k : Nat} : ∀ {ks : List Nat}, k ∈ ks → ((natsD ks).findIdx? fun y => D.eqv y (.int (k : Int))) = some (ks.idxOf k)
  | x :: ks, m => by
    show (List.findIdx? (fun y => D.eqv y (.int (k : Int))) (D.int (x : Int) :: natsD ks)) = _
    rw [List.findIdx?_cons, List.idxOf_cons]
    by_cases e : x = k
    · subst e
      simp
    · have m' : k ∈ ks := by
        rcases List.mem_cons.mp m with z | z
        · exact (e z.symm).elim
        · exact z
      have h1 : D.eqv (.int (x : Int)) (.int (k : Int)) = false := by
        rw [eqv_int]
        simp
        omega
      have h2 : (x == k) = false := by simpa using e
      rw [h1, h2, findIdx_nats m']
      rfl
  | [], m => by cases m
theorem idx_nats {k : Nat} {ks : List Nat} (m : k ∈ ks) : idxD (.lst (natsD ks)) (.int (k : Int)) = some (.int ((ks.idxOf k : Nat) : Int)) := by
  have fl : (natsD ks).all flatD = true := by simp [natsD, flatD]
  show (if _ then _ else _) = _
  rw [if_pos (by rw [fl]; rfl), findIdx_nats m]
  rfl
theorem permR {is : List Nat} {m : Nat} (h : is.Perm (List.range m)) : is.length = m ∧ (∀ i, i ∈ is ↔ i < m) ∧ is.Nodup := by
  refine ⟨by simpa using h.length_eq, fun i => ?_, ?_⟩
  · rw [h.mem_iff]
    simp
  · exact h.nodup_iff.mpr List.nodup_range
def ledRow (p : List Nat) (is : List Nat) : List Nat := is.map fun i => p.getD i 0
theorem getD_nats {p : List Nat} {i : Nat} (h : i < p.length) : ixD (.lst (natsD p)) (.int (i : Int)) = some (.int ((p.getD i 0 : Nat) : Int)) := ix_lst (by simp [natsD, h])
theorem getD_lt {p : List Nat} {i m : Nat} (h : i < p.length) (hp : ∀ j ∈ p, j < m) : p.getD i 0 < m := by
  simp [h]
  exact hp _ (List.getElem_mem h)
def ledBox (p : List Nat) (y : Box3) : Box3 := (y.1, ledRow p y.2.1, ledRow p y.2.2)
/-- one web led to another one -/
structure Led (w v : Web3) (p : List Nat) : Prop where
  perm : p.Perm (List.range w.ws.length)
  len : v.ws.length = w.ws.length
  ws : ∀ j, j < w.ws.length → v.ws[p.getD j 0]? = w.ws[j]?
  l : v.l = ledRow p w.l
  r : v.r = ledRow p w.r
  b1 : ∀ x ∈ v.bs, ∃ y ∈ w.bs, x = ledBox p y
  b2 : ∀ y ∈ w.bs, ledBox p y ∈ v.bs
  bl : v.bs.length = w.bs.length
end Ev
namespace Lw
open PySem Ev
variable {n : Nat} {s : Sto} {Q : D → Sto → Prop}
theorem row_comp {f : D → M (Option D)} {p is : List Nat} {Q : List D → Sto → Prop} (h : ∀ i ∈ is, i < p.length) (e : ∀ i ∈ is, ∀ Q, wp (f (.int (i : Int))) s Q = Q (some (.int ((p.getD i 0 : Nat) : Int))) s) : wp (compL f (natsD is)) s Q = Q (natsD (ledRow p is)) s := by
  rw [wp_compL_nats e, ledRow, natsD, List.map_map]
  rfl
end Lw

set_option Elab.async false
set_option linter.all false
set_option maxRecDepth 100000
set_option maxHeartbeats 2000000
namespace Ev
open PySem
/-- such kinds at such places -/
structure Kat (ws : List Str) (is : List Nat) (ks : List Str) : Prop where
  lt : ∀ i ∈ is, i < ws.length
  k : kindsAt ws is = ks
theorem Kat.len {ws : List Str} {is : List Nat} {ks : List Str} (h : Kat ws is ks) : is.length = ks.length := by
  rw [← h.k]
  simp [kindsAt]
theorem atS_pre {ws ws' : List Str} (p : ws <+: ws') {i : Nat} (h : i < ws.length) : atS ws' i = atS ws i := by
  obtain ⟨e, rfl⟩ := p
  simp [atS, List.getElem?_append_left h]
theorem Kat.more {ws ws' : List Str} {is : List Nat} {ks : List Str} (h : Kat ws is ks) (p : ws <+: ws') : Kat ws' is ks := by
  refine ⟨fun i m => Nat.lt_of_lt_of_le (h.lt i m) p.length_le, ?_⟩
  rw [← h.k]
  exact List.map_congr_left fun i m => atS_pre p (h.lt i m)
theorem Kat.nil {ws : List Str} : Kat ws [] [] := ⟨by simp, rfl⟩
theorem Kat.cons {ws : List Str} {i : Nat} {k : Str} {is : List Nat} {ks : List Str} (h : ws[i]? = some k) (t : Kat ws is ks) : Kat ws (i :: is) (k :: ks) := by
  have hi := (List.getElem?_eq_some_iff.mp h).1
  have e : atS ws i = k := by
    have := atS_get hi
    rw [h] at this
    exact (Option.some.inj this).symm
  refine ⟨fun j m => ?_, ?_⟩
  · rcases List.mem_cons.mp m with rfl | m
    · exact hi
    · exact t.lt j m
  · show atS ws i :: kindsAt ws is = _
    rw [e, t.k]
theorem row_draw {α : Type} {c w : Nat} {f : D → M (Option D)} {h : α → D} {P : α → Prop} {κ : α → Str} (hf : ∀ (z : α) (s : Sto) (k : Nat) (ws : List Str) (Q : Option D → Sto → Prop), P z → St c w (k + 2) s ws → ws.length < 1000 → (∀ (i : Nat) s' ws', St c w k s' ws' → ws'[i]? = some (κ z) → ws <+: ws' → ws'.length ≤ ws.length + 1 → (∀ j, j < ws'.length → j < ws.length ∨ j = i) → Frm [c, w] s s' → Q (some (.int (i : Int))) s') → wp (f (h z)) s Q) :
    ∀ {ks : List α} {s : Sto} {k : Nat} {ws : List Str} {Q : List D → Sto → Prop}, (∀ z ∈ ks, P z) → St c w (k + 2 * ks.length) s ws → ws.length + ks.length ≤ 1000 → (∀ (is : List Nat) s' ws', St c w k s' ws' → Kat ws' is (ks.map κ) → ws <+: ws' → ws'.length ≤ ws.length + ks.length → (∀ j, j < ws'.length → j < ws.length ∨ j ∈ is) → Frm [c, w] s s' → Q (natsD is) s') → wp (compL f (ks.map h)) s Q
  | [], s, k, ws, Q, _, h, _, q => by
    rw [List.map_nil, wp_compL_nil]
    exact q [] s ws h .nil (List.prefix_refl _) (Nat.le_refl _) (fun j hj => .inl hj) .refl
  | z :: ks, s, k, ws, Q, hz, h, hl, q => by
    rw [List.length_cons] at h hl
    rw [List.map_cons, wp_compL_cons]
    have h' : St c w ((k + 2 * ks.length) + 2) s ws := h.less (by omega)
    refine hf z s _ ws _ (hz z (List.mem_cons_self ..)) h' (by omega) fun i s1 ws1 h1 hi p1 l2 n1 f1 => ?_
    refine row_draw hf (fun y m => hz y (List.mem_cons_of_mem _ m)) h1 (by omega) fun is s2 ws2 h2 hk p2 l4 n2 f2 => ?_
    have e : natsD (i :: is) = .int (i : Int) :: natsD is := rfl
    show Q (.int (i : Int) :: natsD is) s2
    rw [← e]
    have hi2 : ws2[i]? = some (κ z) := by
      obtain ⟨e, rfl⟩ := p2
      rw [List.getElem?_append_left (List.getElem?_eq_some_iff.mp hi).1, hi]
    refine q (i :: is) s2 ws2 h2 (hk.cons hi2) (p1.trans p2) (by rw [List.length_cons]; omega) (fun j hj => ?_) (f1.trans f2)
    rcases n2 j hj with a | a
    · rcases n1 j a with b | b
      · exact .inl b
      · exact .inr (by simp [b])
    · exact .inr (by simp [a])
/-- a stock whose boxes have at most two feet a side -/
def smallStock (st : List Sort3) : Prop := 1 ≤ st.length ∧ st.length ≤ 4 ∧ ∀ t ∈ st, okS t ∧ t.2.1.length ≤ 2 ∧ t.2.2.length ≤ 2
theorem ix_stock {st : List Sort3} {r : Int} (h : 0 ≤ r) (h' : r < st.length) : ∃ t ∈ st, ixD (stockD st) (.int r) = some (sortD t) := by
  obtain ⟨k, rfl⟩ := Int.eq_ofNat_of_zero_le h
  have hk : k < st.length := by omega
  exact ⟨st[k], List.getElem_mem hk, ix_tup (by simp [hk])⟩
@[simp] theorem wp_see_stock {st : List Sort3} {Q : D → Sto → Prop} {s : Sto} : wp (seeD (stockD st)) s Q = Q (stockD st) s := wp_see_tup
@[simp] theorem len_stock {st : List Sort3} : lenD (stockD st) = some (.int st.length) := by simp [stockD]
@[simp] theorem bindT_sort {env : Envi} {t : List Nat} {b : Sort3} : bindT env t true (sortD b) = putAll env t [.str b.1, .tup (b.2.1.map .str), .tup (b.2.2.map .str)] := rfl
/-- boxes of the stock over such wires -/
def okBs (st : List Sort3) (ws : List Str) (bs : List Box3) : Prop := ∀ x ∈ bs, ∃ t ∈ st, x.1 = t.1 ∧ Kat ws x.2.1 t.2.1 ∧ Kat ws x.2.2 t.2.2
theorem okBs.more {st : List Sort3} {ws ws' : List Str} {bs : List Box3} (h : okBs st ws bs) (p : ws <+: ws') : okBs st ws' bs := fun x m => by
  obtain ⟨t, mt, a, b, c⟩ := h x m
  exact ⟨t, mt, a, b.more p, c.more p⟩
def plsOf (bs : List Box3) : List Nat := (bs.map fun b => b.2.1 ++ b.2.2).flatten
theorem plsOf_app {a b : List Box3} : plsOf (a ++ b) = plsOf a ++ plsOf b := by simp [plsOf]
end Ev
namespace Lw
open PySem Ev
variable {n : Nat} {s : Sto} {Q : D → Sto → Prop}
end Lw

set_option Elab.async false
set_option linter.all false
set_option maxRecDepth 100000
set_option maxHeartbeats 2000000
namespace Ev
open PySem
theorem cut_map {α β : Type} {f : α → β} {xs : List α} {lo hi : Option Int} : cut (xs.map f) lo hi = (cut xs lo hi).map f := by
  simp [cut]
@[simp] theorem cut_nats {xs : List Nat} {lo hi : Option Int} : cut (natsD xs) lo hi = natsD (cut xs lo hi) := cut_map
theorem cut_mem {α : Type} {xs : List α} {lo hi : Option Int} {x : α} (h : x ∈ cut xs lo hi) : x ∈ xs := List.mem_of_mem_drop (List.mem_of_mem_take h)
theorem cut_le {α : Type} {xs : List α} {lo hi : Option Int} : (cut xs lo hi).length ≤ xs.length := by
  unfold cut
  rw [List.length_take, List.length_drop]
  omega
theorem cut_take {α : Type} {xs : List α} {k : Int} (h : 0 ≤ k) : cut xs none (some k) = xs.take k.toNat := by
  unfold cut
  simp only [sIx]
  rw [if_neg (by omega), List.drop_zero, Nat.sub_zero]
  rcases Nat.le_total k.toNat xs.length with l | l
  · rw [Nat.min_eq_left l]
  · rw [Nat.min_eq_right l, List.take_length, List.take_of_length_le l]
theorem cut_drop {α : Type} {xs : List α} {k : Int} (h : 0 ≤ k) : cut xs (some k) none = xs.drop k.toNat := by
  unfold cut
  simp only [sIx]
  rw [if_neg (by omega)]
  rcases Nat.le_total k.toNat xs.length with l | l
  · rw [Nat.min_eq_left l]
    exact List.take_of_length_le (by rw [List.length_drop]; omega)
  · rw [Nat.min_eq_right l, List.drop_length, List.drop_of_length_le l]
    simp
theorem cut_to {α : Type} {xs : List α} {k : Int} (h : 0 ≤ k) : (cut xs none (some k)).length ≤ k.toNat := by
  rw [cut_take h, List.length_take]
  omega
theorem cut_split {α : Type} {xs : List α} {r : Int} (h : 0 ≤ r) : (cut (cut xs none (some r)) none (some 5) ++ cut (cut xs (some r) none) none (some 5)).Sublist xs := by
  rw [cut_take h, cut_drop h, cut_take (by decide), cut_take (by decide)]
  have := List.Sublist.append (List.take_sublist 5 (xs.take r.toNat)) (List.take_sublist 5 (xs.drop r.toNat))
  rw [List.take_append_drop] at this
  exact this
structure small (w : Web3) : Prop where
  ok : okWeb w
  ws : w.ws.length ≤ 100
  bs : w.bs.length ≤ 100
  l : w.l.length ≤ 10
  r : w.r.length ≤ 10
  z : ∀ z ∈ w.ws, isWordS z = true
  x : ∀ x ∈ w.bs, isWordS x.1 = true
/-- a web of the stock -/
structure sound (st : List Sort3) (w : Web3) : Prop where
  s : small w
  b : okBs st w.ws w.bs
theorem okBs.okWeb {st : List Sort3} (o : smallStock st) {ws : List Str} {bs : List Box3} {l r : List Nat} (h : okBs st ws bs) (hl : ∀ i ∈ l, i < ws.length) (hr : ∀ i ∈ r, i < ws.length) : Ev.okWeb ⟨ws, bs, l, r⟩ := ⟨fun x m => by
  obtain ⟨t, mt, e, k1, k2⟩ := h x m
  obtain ⟨_, l1, l2⟩ := o.2.2 t mt
  exact ⟨k1.lt, k2.lt, by rw [k1.len]; omega, by rw [k2.len]; omega⟩, hl, hr⟩
theorem okBs.word {st : List Sort3} (o : smallStock st) {ws : List Str} {bs : List Box3} (h : okBs st ws bs) : ∀ x ∈ bs, isWordS x.1 = true := fun x m => by
  obtain ⟨t, mt, e, _⟩ := h x m
  rw [e]
  exact (o.2.2 t mt).1.1
theorem find_word {t : Sort3} : ∀ {st : List Sort3}, t ∈ st → (st.map (·.1)).Nodup → (st.find? fun u => u.1 == t.1) = some t
  | u :: st, m, nd => by
    rw [List.find?_cons]
    rw [List.map_cons, List.nodup_cons] at nd
    rcases List.mem_cons.mp m with rfl | m
    · simp
    · have : (u.1 == t.1) = false := by
        have : u.1 ≠ t.1 := fun e => nd.1 (e ▸ List.mem_map_of_mem m)
        simpa using this
      rw [this]
      exact find_word m nd.2
theorem webF_sound {st : List Sort3} (o : okStock st) {w : Web3} (h : sound st w) : webF st (webD w) = .non := by
  have h1 : firstBad isWord 0 (w.ws.map .str) = none := by
    rw [firstBad_none, List.all_eq_true]
    intro d m
    obtain ⟨z, mz, rfl⟩ := List.mem_map.mp m
    exact h.s.z z mz
  have h2 : firstBad (boxRight st w.ws) 0 (w.bs.map boxD) = none := by
    rw [firstBad_none, List.all_eq_true]
    intro d m
    obtain ⟨x, mx, rfl⟩ := List.mem_map.mp m
    obtain ⟨t, mt, e, k1, k2⟩ := h.b x mx
    have := boxRight_form o (ws := w.ws) (w := x.1) k1.lt k2.lt
    unfold boxD
    rw [this, e, find_word mt o.2.2.2]
    simp [k1.k, k2.k]
  have h3 : ∀ is : List Nat, (∀ i ∈ is, i < w.ws.length) → firstBad (fun e => isBet 0 e (w.ws.length - 1)) 0 (natsD is) = none := fun is hi => by
    rw [firstBad_none, List.all_eq_true]
    intro d m
    obtain ⟨i, mi, rfl⟩ := List.mem_map.mp m
    have := hi i mi
    simp only [isBet, Bool.and_eq_true, decide_eq_true_eq]
    omega
  show placeD 0 (firstBad isWord 0 (w.ws.map .str)) (placeD 1 (firstBad (boxRight st (strsOf (w.ws.map .str))) 0 (w.bs.map boxD)) (placeD 2 (firstBad (fun e => isBet 0 e ((strsOf (w.ws.map .str)).length - 1)) 0 (natsD w.l)) (placeD 3 (firstBad (fun e => isBet 0 e ((strsOf (w.ws.map .str)).length - 1)) 0 (natsD w.r)) .non))) = .non
  rw [strsOf_map, h1, h2, h3 _ h.s.ok.l, h3 _ h.s.ok.r]
  rfl
/-! ### webs led -/
theorem Led.pl {w v : Web3} {p : List Nat} (d : Led w v p) : p.length = w.ws.length := by simpa using d.perm.length_eq
theorem Led.plt {w v : Web3} {p : List Nat} (d : Led w v p) : ∀ i ∈ p, i < w.ws.length := fun i m => by simpa using (d.perm.mem_iff.mp m)
theorem Led.kinds {w v : Web3} {p : List Nat} (d : Led w v p) {is : List Nat} (h : ∀ i ∈ is, i < w.ws.length) : Kat v.ws (ledRow p is) (kindsAt w.ws is) := by
  refine ⟨fun i m => ?_, ?_⟩
  · obtain ⟨j, mj, rfl⟩ := List.mem_map.mp m
    rw [d.len]
    exact getD_lt (by rw [d.pl]; exact h j mj) d.plt
  · unfold kindsAt ledRow
    rw [List.map_map]
    refine List.map_congr_left fun j mj => ?_
    have hj := h j mj
    have e := d.ws j hj
    have hp : p.getD j 0 < v.ws.length := by
      rw [d.len]
      exact getD_lt (by rw [d.pl]; exact hj) d.plt
    rw [atS_get hp, atS_get hj] at e
    exact Option.some.inj e
theorem Kat.led {w v : Web3} {p : List Nat} (d : Led w v p) {is : List Nat} {ks : List Str} (h : Kat w.ws is ks) : Kat v.ws (ledRow p is) ks := by
  have := d.kinds h.lt
  rw [h.k] at this
  exact this
theorem Led.sound {st : List Sort3} (o : smallStock st) {w v : Web3} {p : List Nat} (d : Led w v p) (h : sound st w) : Ev.sound st v := by
  have hb : okBs st v.ws v.bs := fun x m => by
    obtain ⟨y, my, rfl⟩ := d.b1 x m
    obtain ⟨t, mt, e, k1, k2⟩ := h.b y my
    exact ⟨t, mt, e, k1.led d, k2.led d⟩
  have hl : ∀ i ∈ v.l, i < v.ws.length := by
    rw [d.l]
    exact (d.kinds h.s.ok.l).lt
  have hr : ∀ i ∈ v.r, i < v.ws.length := by
    rw [d.r]
    exact (d.kinds h.s.ok.r).lt
  refine ⟨⟨hb.okWeb o hl hr, by rw [d.len]; exact h.s.ws, by rw [d.bl]; exact h.s.bs, by rw [d.l]; simp [ledRow]; exact h.s.l, by rw [d.r]; simp [ledRow]; exact h.s.r, fun z m => ?_, hb.word o⟩, hb⟩
  obtain ⟨i, hi, rfl⟩ := List.getElem_of_mem m
  rw [d.len] at hi
  have mi : i ∈ p := d.perm.mem_iff.mpr (by simpa using hi)
  obtain ⟨j, hj, e⟩ := List.getElem_of_mem mi
  have hj' : j < w.ws.length := by rw [← d.pl]; exact hj
  have ew := d.ws j hj'
  have eg : p.getD j 0 = i := by simp [hj, e]
  rw [eg] at ew
  refine h.s.z _ (List.mem_of_getElem? (i := j) ?_)
  rw [← ew]
  simp
theorem Led.canLeft {w v : Web3} {p : List Nat} (d : Led w v p) (o : okWeb w) (h : canLeft w = true) : Ev.canLeft v = true := by
  simp only [Ev.canLeft, Bool.and_eq_true, Bool.not_eq_true', decide_eq_true_eq, List.all_eq_true, List.mem_range] at h ⊢
  obtain ⟨⟨h1, h2⟩, h3⟩ := h
  refine ⟨⟨?_, ?_⟩, fun i hi => ?_⟩
  · have := d.bl
    cases hv : v.bs with
    | nil =>
      rw [hv] at this
      have : w.bs = [] := List.eq_nil_of_length_eq_zero this.symm
      rw [this] at h1
      cases h1
    | cons => rfl
  · rw [d.l, d.r]
    have : ledRow p w.l ++ ledRow p w.r = (w.l ++ w.r).map fun i => p.getD i 0 := by simp [ledRow]
    rw [this, List.Nodup, List.pairwise_map]
    refine h2.imp_of_mem fun {a b} ma mb ne e => ?_
    have la : a < p.length := by
      rw [d.pl]
      rcases List.mem_append.mp ma with m | m
      · exact o.l a m
      · exact o.r a m
    have lb : b < p.length := by
      rw [d.pl]
      rcases List.mem_append.mp mb with m | m
      · exact o.l b m
      · exact o.r b m
    have nd : p.Nodup := d.perm.nodup_iff.mpr List.nodup_range
    simp [la, lb] at e
    have e1 := nd.idxOf_getElem a la
    have e2 := nd.idxOf_getElem b lb
    rw [e] at e1
    exact ne (e1.symm.trans e2)
  · rw [d.len] at hi
    have mi : i ∈ p := d.perm.mem_iff.mpr (by simpa using hi)
    obtain ⟨j, hj, e⟩ := List.getElem_of_mem mi
    have hj' : j < w.ws.length := by rw [← d.pl]; exact hj
    have m := h3 j hj'
    unfold allPlaces at m ⊢
    rw [List.mem_flatten] at m ⊢
    obtain ⟨l, ml, mj⟩ := m
    obtain ⟨y, my, rfl⟩ := List.mem_map.mp ml
    refine ⟨_, List.mem_map_of_mem (d.b2 y my), ?_⟩
    have eg : p.getD j 0 = i := by simp [hj, e]
    show i ∈ ledRow p y.2.1 ++ ledRow p y.2.2
    rw [← eg]
    rcases List.mem_append.mp mj with m | m
    · exact List.mem_append_left _ (List.mem_map_of_mem (f := fun i => p.getD i 0) m)
    · exact List.mem_append_right _ (List.mem_map_of_mem (f := fun i => p.getD i 0) m)
end Ev
namespace Lw
open PySem Ev
variable {n : Nat} {s : Sto} {Q : D → Sto → Prop}
end Lw

set_option Elab.async false
set_option linter.all false
set_option maxRecDepth 100000
set_option maxHeartbeats 2000000
namespace Ev
open PySem
structure Rp (d : D) (W : Nat) : Prop where
  s : d.toP.showable = true
  l : d.toP.leavesShort 13 = true
  w : d.toP.weight ≤ W
theorem toPs_map {α : Type} {f : α → D} : ∀ {xs : List α}, D.toPs (xs.map f) = xs.map fun x => (f x).toP
  | [] => rfl
  | x :: xs => by
    rw [List.map_cons, D.toPs, toPs_map]
    rfl
theorem Rp.more {d : D} {W W' : Nat} (h : Rp d W) (l : W ≤ W') : Rp d W' := ⟨h.s, h.l, Nat.le_trans h.w l⟩
theorem Rp.tups {W : Nat} : ∀ {ds : List D}, (∀ d ∈ ds, Rp d W) → PyData.showableAll (D.toPs ds) = true ∧ PyData.leavesShortAll 13 (D.toPs ds) = true ∧ PyData.weightAll (D.toPs ds) ≤ ds.length * (W + 1)
  | [], _ => ⟨by simp [D.toPs, PyData.showableAll], by simp [D.toPs, PyData.leavesShortAll], by simp [D.toPs, PyData.weightAll]⟩
  | d :: ds, h => by
    obtain ⟨a, b, c⟩ := Rp.tups fun d m => h d (List.mem_cons_of_mem _ m)
    have hd := h d (List.mem_cons_self ..)
    refine ⟨by simp [D.toPs, PyData.showableAll, hd.s, a], by simp [D.toPs, PyData.leavesShortAll, hd.l, b], ?_⟩
    have := hd.w
    simp only [D.toPs, PyData.weightAll, List.length_cons, Nat.succ_mul]
    omega
theorem Rp.tup {W N : Nat} {ds : List D} (h : ∀ d ∈ ds, Rp d W) (l : ds.length ≤ N) : Rp (.tup ds) (N * (W + 1)) := by
  obtain ⟨a, b, c⟩ := Rp.tups h
  refine ⟨by simpa [D.toP, PyData.showable] using a, by simpa [D.toP, PyData.leavesShort] using b, ?_⟩
  simp only [D.toP, PyData.weight]
  exact Nat.le_trans c (Nat.mul_le_mul_right _ l)
theorem Rp.word {z : Str} (h : isWordS z = true) : Rp (.str z) 8 := by
  refine ⟨by simp [D.toP, PyData.showable], ?_, ?_⟩
  · simp only [D.toP, PyData.leavesShort, List.all_eq_true, decide_eq_true_eq]
    simp only [isWordS, Bool.and_eq_true, List.all_eq_true, decide_eq_true_eq] at h
    have hl : ∀ c ∈ letters.cps.toList, c < 16 ^ 8 := by decide +kernel
    exact fun c m => hl c (h.2 c m)
  · simp only [isWordS, Bool.and_eq_true, decide_eq_true_eq] at h
    simp only [D.toP, PyData.weight]
    exact h.1.2
theorem Rp.nat {i : Nat} (h : i < 1000) : Rp (.int (i : Int)) 10 := by
  have hl : i.log2 ≤ 9 := by
    by_cases z : i = 0
    · subst z; decide
    · have := (Nat.log2_lt z).mpr (show i < 2 ^ 10 by omega)
      omega
  refine ⟨?_, ?_, ?_⟩
  · simp only [D.toP, PyData.showable, decide_eq_true_eq, Int.natAbs_natCast]
    omega
  · simp only [D.toP, PyData.leavesShort, decide_eq_true_eq]
    refine PyData.shown_int_le ?_
    have : (10 : Nat) ^ 12 = 1000000000000 := by decide
    rw [Int.natAbs_natCast]
    omega
  · simp only [D.toP, PyData.weight, Int.natAbs_natCast]
    split <;> omega
theorem Rp.nats {is : List Nat} {N : Nat} (h : ∀ i ∈ is, i < 1000) (l : is.length ≤ N) : Rp (.tup (natsD is)) (N * 11) := Rp.tup (W := 10) (fun d m => by
  obtain ⟨i, mi, rfl⟩ := List.mem_map.mp m
  exact Rp.nat (h i mi)) (by rw [natsD_len]; exact l)
theorem Rp.words {zs : List Str} {N : Nat} (h : ∀ i ∈ zs, isWordS i = true) (l : zs.length ≤ N) : Rp (.tup (zs.map .str)) (N * 9) := Rp.tup (W := 8) (fun d m => by
  obtain ⟨i, mi, rfl⟩ := List.mem_map.mp m
  exact Rp.word (h i mi)) (by rw [List.length_map]; exact l)
theorem Rp.web {w : Web3} (h : small w) : Rp (webD w) 61000 := by
  have hb : ∀ i, i < w.ws.length → i < 1000 := fun i l => by have := h.ws; omega
  refine (Rp.tup (N := 4) (W := 15100) (fun d m => ?_) (by simp)).more (by omega)
  simp at m
  rcases m with rfl | rfl | rfl | rfl
  · exact (Rp.words h.z h.ws).more (by omega)
  · refine (Rp.tup (N := 100) (W := 150) (fun d m => ?_) (by rw [List.length_map]; exact h.bs)).more (by omega)
    obtain ⟨b, mb, rfl⟩ := List.mem_map.mp m
    obtain ⟨b1, b2, l1, l2⟩ := h.ok.b b mb
    refine (Rp.tup (N := 3) (W := 44) (fun d m => ?_) (by simp)).more (by omega)
    simp at m
    rcases m with rfl | rfl | rfl
    · exact (Rp.word (h.x b mb)).more (by omega)
    · exact (Rp.nats (fun i m => hb i (b1 i m)) l1).more (by omega)
    · exact (Rp.nats (fun i m => hb i (b2 i m)) l2).more (by omega)
  · exact (Rp.nats (fun i m => hb i (h.ok.l i m)) h.l).more (by omega)
  · exact (Rp.nats (fun i m => hb i (h.ok.r i m)) h.r).more (by omega)
theorem gl_webS {w : Web3} (h : small w) : (webD w).gl 100 4 = true := by
  have gw : ∀ {zs : List Str} {n : Nat}, (∀ z ∈ zs, isWordS z = true) → zs.length ≤ 100 → (D.tup (zs.map .str)).gl 100 (n + 1) = true := fun {zs n} hz hl => gl_tup.mpr ⟨by rw [List.length_map]; exact hl, fun d m => by
    obtain ⟨z, mz, rfl⟩ := List.mem_map.mp m
    have := hz z mz
    unfold isWordS at this
    simp only [Bool.and_eq_true, decide_eq_true_eq] at this
    simp [D.gl]
    omega⟩
  have gn : ∀ {is : List Nat} {n : Nat}, is.length ≤ 100 → (D.tup (natsD is)).gl 100 (n + 1) = true := fun {is n} hl => gl_tup.mpr ⟨by rw [natsD_len]; exact hl, fun d m => by
    obtain ⟨z, mz, rfl⟩ := List.mem_map.mp m
    rfl⟩
  refine gl_tup.mpr ⟨by simp, fun d m => ?_⟩
  simp only [List.mem_cons, List.not_mem_nil, or_false] at m
  rcases m with rfl | rfl | rfl | rfl
  · exact gw h.z h.ws
  · refine gl_tup.mpr ⟨by rw [List.length_map]; exact h.bs, fun d m => ?_⟩
    obtain ⟨b, mb, rfl⟩ := List.mem_map.mp m
    obtain ⟨b1, b2, l1, l2⟩ := h.ok.b b mb
    refine gl_tup.mpr ⟨by simp, fun d m => ?_⟩
    simp only [List.mem_cons, List.not_mem_nil, or_false] at m
    rcases m with rfl | rfl | rfl
    · have := h.x b mb
      unfold isWordS at this
      simp only [Bool.and_eq_true, decide_eq_true_eq] at this
      simp [D.gl]
      omega
    · exact gn (by omega)
    · exact gn (by omega)
  · exact gn (Nat.le_trans h.l (by decide))
  · exact gn (Nat.le_trans h.r (by decide))
theorem repr_web {w : Web3} (h : small w) : ∃ z, reprD (webD w) = some (.str z) := by
  have rp := Rp.web h
  have ll := PyData.shown_le 13 (by decide) _ rp.l
  have wt := rp.w
  have p : (webD w).plain = true := gl_pl _ 4 40 (by decide) (gl_webS h)
  refine ⟨(webD w).toP.shown, ?_⟩
  show (if ((webD w).plain && (webD w).toP.showable && decide ((webD w).toP.shown.length ≤ LIM)) = true then _ else none) = _
  rw [if_pos]
  rw [p, rp.s, decide_eq_true]
  · rfl
  · rw [LIM_val]
    omega
end Ev

set_option Elab.async false
set_option linter.all false
set_option maxRecDepth 100000
set_option maxHeartbeats 2000000
namespace Lw
open PySem Ev
variable {n : Nat} {s : Sto} {Q : D → Sto → Prop}
@[simp] theorem cop_eq_non : copD .eq .non .non = some true := rfl
end Lw

set_option Elab.async false
set_option linter.all false
set_option maxRecDepth 100000
set_option maxHeartbeats 2000000
namespace Ev
open PySem
/-- the loom: what great cells hold, a number, how many draws -/
def Loom (s : Sto) : Prop := ∃ (ds : List Int) (t c : Int), s = [.lst (ds.map .int), .lst [.cell 0, .int t, .int c]] ∧ ds.length ≤ 63 ∧ ∀ d ∈ ds, 0 ≤ d
theorem mulC {i j : Int} (h : -(2 ^ 64) < j) (h' : j < 2 ^ 64) : mulOk i j = true := by
  unfold mulOk
  simp only [Bool.or_eq_true, Bool.and_eq_true, decide_eq_true_eq]
  exact .inl (.inr ⟨h, h'⟩)
theorem mul_intC {i j : Int} (h : -(2 ^ 64) < j) (h' : j < 2 ^ 64) : mulD (.int i) (.int j) = some (.int (i * j)) := by
  show (if mulOk i j = true then _ else _) = _
  rw [if_pos (mulC h h')]
theorem fdiv_intP {i j : Int} (h : 0 < j) (h' : j.natAbs.log2 < 8000) : fdivD (.int i) (.int j) = some (.int (i / j)) := by
  show (if 0 < j ∧ j.natAbs.log2 < 8000 then _ else _) = _
  rw [if_pos ⟨h, h'⟩]
theorem pow_intC {i j : Int} (h : 0 ≤ j ∧ j ≤ 1000000 ∧ i.natAbs < 2 ^ 64) : powD (.int i) (.int j) = some (.int (i ^ j.toNat)) := by
  show (if 0 ≤ j ∧ j ≤ 1000000 ∧ i.natAbs < 2 ^ 64 then _ else _) = _
  rw [if_pos h]
theorem log_small {m : Nat} (h : m < 2 ^ 70) : (m : Int).natAbs.log2 < 8000 := by
  rw [Int.natAbs_natCast]
  have := Nat.log2_lt (n := m) (k := 70)
  by_cases z : m = 0
  · subst z; decide
  · have := (this z).mpr h
    omega
theorem ixD_0 {d : D} {ds : List D} : ixD (.lst (d :: ds)) (.int 0) = some d := ix_lst0
@[simp] theorem ne_ints_nil {ds : List Int} : copD .ne (.lst (ds.map .int)) (.lst []) = some (!ds.isEmpty) := by
  rw [cop_ne (by simp) rfl]
  cases ds <;> rfl
@[simp] theorem see0 {b : Cel} {Q : D → Sto → Prop} {ds : List D} : wp (seeD (.cell 0)) [.lst ds, b] Q = Q (.lst ds) [.lst ds, b] := wp_see_cell rfl
@[simp] theorem see1 {a : Cel} {Q : D → Sto → Prop} {ds : List D} : wp (seeD (.cell 1)) [a, .lst ds] Q = Q (.lst ds) [a, .lst ds] := wp_see_cell rfl
theorem ixN_zero {n : Nat} (h : 0 < n) : ixN n 0 = some 0 := by
  unfold ixN
  rw [if_pos (by omega), if_pos (by omega)]
  rfl
end Ev
namespace Lw
open PySem Ev
variable {n : Nat} {s : Sto} {Q : D → Sto → Prop}
theorem draw_loop {L : Cel} {e0 e1 e3 : Sl} : ∀ (fuel : Nat) (ds : List Int) {Q : Fl → Sto → Prop}, ds.length < fuel → (∀ d ∈ ds, 0 ≤ d) → (∀ ds' : List Int, ds'.length ≤ ds.length → (∀ d ∈ ds', 0 ≤ d) → Q (.nx [e0, e1, .val (.cell 0), e3]) [.lst (ds'.map .int), L]) →
    wp (loopW (fun env => tst (ev (R n) (.and (.cmp .ne (.var 2) (.lst .nil)) (.cmp .eq (.ix (.var 2) (.con (.int 0))) (.con (.int 0)))) env)) (fun env => exs (R n) 100 lp__law_drop_0 env) fuel [e0, e1, .val (.cell 0), e3]) [.lst (ds.map .int), L] Q
  | 0, ds, Q, h, _, _ => by omega
  | fuel + 1, ds, Q, h, hp, q => by
    rw [wp_loopW_succ]
    simp
    cases ds with
    | nil =>
      simp
      exact q [] (Nat.le_refl _) (by simp)
    | cons d ds =>
      simp [ixD, ixN_zero]
      by_cases c : d = 0
      · subst c
        simp [lp__law_drop_0]
        rw [wp_recv_cell rfl (ds := (.int 0 :: ds.map .int)) rfl]
        rw [wp_pop_cell (n := 0) (ds := (.int 0 :: ds.map .int)) rfl rfl]
        simp [popAt, ixN_zero]
        exact draw_loop fuel ds (by simp at h; omega) (fun x m => hp x (List.mem_cons_of_mem _ m)) fun ds' l p => q ds' (by simp; omega) p
      · have : (d == (0 : Int)) = false := by simpa using c
        simp [c]
        exact q (d :: ds) (Nat.le_refl _) hp
theorem sp_draw {m : Nat} (hm : 0 < m) (hb : m < 2 ^ 70) (h : Loom s) (q : ∀ (r : Nat) s', r < m → Loom s' → Q (.int (r : Int)) s') : wp (R (n + 1) 18 [.cell 1, .int (m : Int)]) s Q := by
  obtain ⟨ds, t, c, rfl, hl, hp⟩ := h
  have hm' : (0 : Int) < (m : Int) := by omega
  have rem : ∀ i : Int, ∃ r : Nat, i % (m : Int) = (r : Int) ∧ r < m := fun i => by
    have h1 := Int.emod_nonneg i (b := (m : Int)) (by omega)
    have h2 := Int.emod_lt_of_pos i hm'
    exact ⟨(i % (m : Int)).toNat, by omega, by omega⟩
  rw [R, wp_run T__law_drop rfl]
  simp [bd__law_drop, startE, ixD_0]
  refine draw_loop 100 ds (by omega) hp fun ds' l p => ?_
  simp
  cases ds' with
  | nil =>
    simp
    rw [wp_set_cell (n := 1) rfl rfl]
    have e1 : ∀ x : Int, mulD (.int x) (.int 6364136223846793005) = some (.int (x * 6364136223846793005)) := fun x => mul_intC (by decide) (by decide)
    have e2 : ∀ x : Int, mulD (.int x) (.int 1442695040888963407) = some (.int (x * 1442695040888963407)) := fun x => mul_intC (by decide) (by decide)
    have e5 : ∀ x : Int, modD (.int x) (.int 2305843009213693951) = some (.int (x % 2305843009213693951)) := fun x => mod_int (by decide)
    have e6 : ∀ x : Int, modD (.int x) (.int 2305843009213693921) = some (.int (x % 2305843009213693921)) := fun x => mod_int (by decide)
    have e8 : ∀ x : Int, fdivD (.int x) (.int 1048576) = some (.int (x / 1048576)) := fun x => fdiv_intP (by decide) (by decide)
    have e9 : ∀ x : Int, modD (.int x) (.int (m : Int)) = some (.int (x % (m : Int))) := fun x => mod_int hm'
    have x3 : ixN 3 2 = some 2 := rfl
    have x4 : ixN 3 1 = some 1 := rfl
    have i1 : ∀ a b c : D, ixD (.lst [a, b, c]) (.int 1) = some b := fun _ _ _ => rfl
    have i2 : ∀ a b c : D, ixD (.lst [a, b, c]) (.int 2) = some c := fun _ _ _ => rfl
    simp only [List.length_cons, List.length_nil, Nat.zero_add, Nat.reduceAdd, x3, ov_some, List.set_cons_succ, List.set_cons_zero, flk_nx, wp_exs_cons, wp_setix, wp_bin, wp_bi, wp_evs_cons, wp_evs_nil, wp_seeOne1, wp_ixE, wp_var, wp_con, getV_0v, getV_s, see1, i1, i2, bop_mul, bop_add, bop_sub, bop_mod, bop_fdiv, bop_pow, wp_see_int, e1, e2, e5, add_int, sub_int, bw_int, int_int]
    rw [wp_set_cell (n := 1) rfl rfl]
    have b1 := Int.emod_nonneg (t * 6364136223846793005 + (c + 1) * 1442695040888963407) (b := 2305843009213693951) (by decide)
    have b2 := Int.emod_lt_of_pos (t * 6364136223846793005 + (c + 1) * 1442695040888963407) (b := 2305843009213693951) (by decide)
    generalize (t * 6364136223846793005 + (c + 1) * 1442695040888963407) % 2305843009213693951 = t' at b1 b2 ⊢
    have e10 : mulD (.int t') (.int t') = some (.int (t' * t')) := mul_intC (by omega) (by omega)
    simp only [List.length_cons, List.length_nil, Nat.zero_add, Nat.reduceAdd, x4, ov_some, List.set_cons_succ, List.set_cons_zero, flk_nx, flk_rt, wp_exs_cons, wp_retS, wp_bin, wp_bi, wp_evs_cons, wp_evs_nil, wp_seeOne1, wp_ixE, wp_var, wp_con, getV_0v, getV_s, see1, i1, i2, bop_mul, bop_add, bop_sub, bop_mod, bop_fdiv, bop_pow, wp_see_int, e6, e8, e9, e10, add_int, sub_int, bw_int, int_int]
    obtain ⟨r, e, hr⟩ := rem ((t' * t') % 2305843009213693921 / 1048576)
    rw [e]
    exact q r _ hr ⟨[], t', c + 1, rfl, by simp, by simp⟩
  | cons d ds' =>
    have hd := p d (List.mem_cons_self ..)
    have e1 : modD (.int d) (.int (m : Int)) = some (.int (d % (m : Int))) := mod_int hm'
    have e2 : fdivD (.int d) (.int (m : Int)) = some (.int (d / (m : Int))) := fdiv_intP hm' (log_small hb)
    simp [ixD_0, e1, e2]
    rw [wp_set_cell (n := 0) (ds := (.int d :: ds'.map .int)) rfl rfl]
    obtain ⟨r, e, hr⟩ := rem d
    simp [ixN_zero, e]
    refine q r _ hr ⟨d / (m : Int) :: ds', t, c, rfl, by simp at l ⊢; omega, fun x mx => ?_⟩
    rcases List.mem_cons.mp mx with rfl | mx
    · exact Int.ediv_nonneg hd (by omega)
    · exact p x (List.mem_cons_of_mem _ mx)
end Lw


set_option Elab.async false
set_option linter.all false
set_option maxRecDepth 100000
set_option maxHeartbeats 2000000
namespace Ev
open PySem
/-- a comprehension whose steps draw -/
theorem comp_draw {α β : Type} {I : Sto → Prop} {P : α → β → Prop} {h : α → D} {g : β → D} {f : D → M (Option D)} : ∀ {as : List α} {s : Sto} {Q : List D → Sto → Prop}, I s → (∀ a ∈ as, ∀ (s : Sto) (Q : Option D → Sto → Prop), I s → (∀ b s', P a b → I s' → Q (some (g b)) s') → wp (f (h a)) s Q) →
    (∀ (bs : List β) s', bs.length = as.length → (∀ p ∈ as.zip bs, P p.1 p.2) → I s' → Q (bs.map g) s') → wp (compL f (as.map h)) s Q
  | [], s, Q, hs, _, q => by
    rw [List.map_nil, wp_compL_nil]
    exact q [] s rfl (by simp) hs
  | a :: as, s, Q, hs, hf, q => by
    rw [List.map_cons, wp_compL_cons]
    refine hf a (List.mem_cons_self ..) s _ hs fun b s1 hb h1 => ?_
    refine comp_draw h1 (fun a' m => hf a' (List.mem_cons_of_mem _ m)) fun bs s2 hl hp h2 => ?_
    refine q (b :: bs) s2 (by simp [hl]) (fun p m => ?_) h2
    rw [List.zip_cons_cons] at m
    rcases List.mem_cons.mp m with rfl | m
    · exact hb
    · exact hp p m
/-- so many draws -/
theorem comp_draws {β : Type} {I : Sto → Prop} {P : β → Prop} {g : β → D} {f : D → M (Option D)} {ds : List D} {s : Sto} {Q : List D → Sto → Prop} (hs : I s) (hf : ∀ d ∈ ds, ∀ (s : Sto) (Q : Option D → Sto → Prop), I s → (∀ b s', P b → I s' → Q (some (g b)) s') → wp (f d) s Q)
    (q : ∀ (bs : List β) s', bs.length = ds.length → (∀ b ∈ bs, P b) → I s' → Q (bs.map g) s') : wp (compL f ds) s Q := by
  have := comp_draw (h := id) (P := fun _ b => P b) (as := ds) (g := g) (f := f) (s := s) (Q := Q) hs hf fun bs s' hl hp hs' => q bs s' hl (fun b m => ?_) hs'
  · rw [List.map_id] at this
    exact this
  · obtain ⟨i, hi, e⟩ := List.getElem_of_mem m
    exact hp (ds[i]'(by omega), b) (by
      rw [List.mem_iff_getElem]
      exact ⟨i, by simp; omega, by simp [e]⟩)
/-- a for whose turns draw -/
theorem for_draw {I : Nat → Envi → Sto → Prop} {b : D → Envi → M Fl} {ds : List D} {env : Envi} {s : Sto} {Q : Fl → Sto → Prop} (h0 : I 0 env s) (hf : ∀ (k : Nat) (h : k < ds.length) (env : Envi) (s : Sto) (Q : Fl → Sto → Prop), I k env s → (∀ env' s', I (k + 1) env' s' → Q (.nx env') s') → wp (b ds[k] env) s Q)
    (q : ∀ env' s', I ds.length env' s' → Q (.nx env') s') : wp (forL b ds env) s Q := by
  have go : ∀ (m k : Nat) (env : Envi) (s : Sto), k + m = ds.length → I k env s → wp (forL b (ds.drop k) env) s Q := by
    intro m
    induction m with
    | zero =>
      intro k env s l h
      rw [List.drop_eq_nil_of_le (by omega), wp_forL_nil]
      have : k = ds.length := by omega
      subst this
      exact q env s h
    | succ m ih =>
      intro k env s l h
      rw [List.drop_eq_getElem_cons (by omega), wp_forL_cons]
      refine hf k (by omega) env s _ h fun env' s' h' => ?_
      rw [lpk_nx]
      exact ih (k + 1) env' s' (by omega) h'
  exact go ds.length 0 env s (by omega) h0
@[simp] theorem range_at {n k : Nat} {h : k < (range 0 n).length} : (range 0 n)[k] = .int (k : Int) := by simp [range]
@[simp] theorem len_range {n : Nat} : (range 0 n).length = n := by simp [range]
/-! ### drawn words -/
def fives : List Str := ["xxxxx", "yyyyy", "zzzzz", "uuuuu", "vvvvv", "wwwww", "rrrrr", "sssss", "ttttt", "ooooo", "ppppp", "qqqqq"]
def fiveAt (k : Nat) : Str := fives.getD k "x"
/-- the word at place k of a drawn row -/
def wordAt (k : Nat) (z : Str) : Prop := isWordS z = true ∧ (z.length ≠ 5 ∨ z = fiveAt k)
theorem five_ok : ∀ k, k < 12 → isWordS (fiveAt k) = true := by decide +kernel
theorem five_inj : ∀ i, i < 12 → ∀ j, j < 12 → fiveAt i = fiveAt j → i = j := by decide +kernel
theorem five_len : ∀ k, k < 12 → (fiveAt k).length = 5 := by decide +kernel
theorem join_chars (cs : List Nat) : Txt.join "" (cs.map fun c => ⟨#[c]⟩) = ⟨cs.toArray⟩ := by
  have h := PyProof.Rows.join_nil_signs ⟨cs.toArray⟩
  have e : PyProof.Rows.signs ⟨cs.toArray⟩ = cs.map fun c => (⟨#[c]⟩ : Str) := by unfold PyProof.Rows.signs; simp
  rw [e] at h
  have j := eq_of_beq (PyProof.Rows.join_closes (sep := "") (sep' := ⟨#[]⟩) (ys := cs.map fun c => (⟨#[c]⟩ : Str)) rfl)
  rw [j, h]
theorem inD_strs {zs : List Str} {z : Str} : inD (.str z) (.lst (zs.map .str)) = some (decide (z ∈ zs)) := by
  show (if (D.str z).plain && D.plains (zs.map .str) then some ((zs.map .str).any fun y => D.eqv y (.str z)) else none) = _
  rw [if_pos (by rw [Bool.and_eq_true]; exact ⟨rfl, pls_map fun _ _ => rfl⟩)]
  congr 1
  rw [Bool.eq_iff_iff, List.any_eq_true, decide_eq_true_eq]
  constructor
  · rintro ⟨d, md, e⟩
    obtain ⟨y, my, rfl⟩ := List.mem_map.mp md
    have : y = z := by simpa using e
    exact this ▸ my
  · exact fun m => ⟨.str z, List.mem_map.mpr ⟨z, m, rfl⟩, by simp⟩
/-- words in a row, unlike -/
structure wordsOk (zs : List Str) : Prop where
  w : ∀ (i : Nat) (z : Str), zs[i]? = some z → wordAt i z
  n : zs.Nodup
  l : zs.length ≤ 12
theorem wordsOk.nil : wordsOk [] := ⟨by simp, by simp, by simp⟩
theorem wordsOk.add {zs : List Str} (h : wordsOk zs) (l : zs.length < 12) {z : Str} (hz : isWordS z = true) (h5 : z.length ≠ 5) (c : z ∉ zs) : wordsOk (zs ++ [z]) := by
  refine ⟨fun i y e => ?_, ?_, by simp; omega⟩
  · rcases Nat.lt_or_ge i zs.length with g | g
    · rw [List.getElem?_append_left g] at e
      exact h.w i y e
    · rw [List.getElem?_append_right g] at e
      have : y = z := by
        cases hi : i - zs.length with
        | zero => rw [hi] at e; simpa using e.symm
        | succ j => rw [hi] at e; simp at e
      subst this
      exact ⟨hz, .inl h5⟩
  · rw [List.nodup_append]
    exact ⟨h.n, by simp, fun a ma b mb e => by simp at mb; subst mb; subst e; exact c ma⟩
theorem wordsOk.five {zs : List Str} (h : wordsOk zs) (l : zs.length < 12) : wordsOk (zs ++ [fiveAt zs.length]) := by
  refine ⟨fun i y e => ?_, ?_, by simp; omega⟩
  · rcases Nat.lt_or_ge i zs.length with g | g
    · rw [List.getElem?_append_left g] at e
      exact h.w i y e
    · rw [List.getElem?_append_right g] at e
      have : y = fiveAt zs.length ∧ i = zs.length := by
        cases hi : i - zs.length with
        | zero => rw [hi] at e; exact ⟨by simpa using e.symm, by omega⟩
        | succ j => rw [hi] at e; simp at e
      obtain ⟨rfl, rfl⟩ := this
      exact ⟨five_ok _ l, .inr rfl⟩
  · rw [List.nodup_append]
    refine ⟨h.n, by simp, fun a ma b mb e => ?_⟩
    simp at mb
    subst mb
    subst e
    obtain ⟨i, hi, e⟩ := List.getElem_of_mem ma
    have w := h.w i _ (by rw [List.getElem?_eq_getElem hi])
    rw [e] at w
    rcases w.2 with w | w
    · exact w (five_len _ l)
    · have := five_inj _ l _ (by omega) w
      omega
theorem wordsOk.word {zs : List Str} (h : wordsOk zs) : ∀ z ∈ zs, isWordS z = true := fun z m => by
  obtain ⟨i, hi, e⟩ := List.getElem_of_mem m
  have := (h.w i _ (by rw [List.getElem?_eq_getElem hi])).1
  rw [e] at this
  exact this
def azL : List Nat := letters.cps.toList
theorem az_len : azL.length = 26 := by decide +kernel
theorem ix_az {r : Nat} (h : r < 26) : ixD (.str "abcdefghijklmnopqrstuvwxyz") (.int (r : Int)) = some (.str ⟨#[azL.getD r 0]⟩) ∧ azL.getD r 0 ∈ azL := by
  have hr : r < azL.length := by rw [az_len]; exact h
  have e : azL[r]? = some (azL.getD r 0) := by simp [List.getD_eq_getElem?_getD, List.getElem?_eq_getElem hr]
  refine ⟨?_, List.mem_of_getElem? e⟩
  show (if (letters : Str).length ≤ LIM then ((ixN azL.length (r : Int)).bind fun j => (azL[j]?).map fun c => D.str ⟨#[c]⟩) else none) = _
  rw [if_pos (by decide +kernel)]
  have : ixN azL.length (r : Int) = some r := by
    unfold ixN
    rw [if_pos (by omega), if_pos (by omega)]
    rfl
  rw [this]
  show (azL[r]?).map _ = _
  rw [e]
  rfl
theorem word_of {cs : List Nat} (h : ∀ c ∈ cs, c ∈ azL) (l : 1 ≤ cs.length) (l8 : cs.length ≤ 8) : isWordS ⟨cs.toArray⟩ = true := by
  unfold isWordS
  rw [Bool.and_eq_true, Bool.and_eq_true, decide_eq_true_eq, decide_eq_true_eq, List.all_eq_true]
  exact ⟨⟨l, l8⟩, fun c m => decide_eq_true (h c m)⟩
theorem ix_xyz {k : Nat} (h : k < 12) : ∃ d, ixD (.str "xyzuvwrstopq") (.int (k : Int)) = some (.str d) ∧ mulD (.str d) (.int 5) = some (.str (fiveAt k)) := by
  have : k = 0 ∨ k = 1 ∨ k = 2 ∨ k = 3 ∨ k = 4 ∨ k = 5 ∨ k = 6 ∨ k = 7 ∨ k = 8 ∨ k = 9 ∨ k = 10 ∨ k = 11 := by omega
  rcases this with rfl | rfl | rfl | rfl | rfl | rfl | rfl | rfl | rfl | rfl | rfl | rfl
  · exact ⟨"x", rfl, rfl⟩
  · exact ⟨"y", rfl, rfl⟩
  · exact ⟨"z", rfl, rfl⟩
  · exact ⟨"u", rfl, rfl⟩
  · exact ⟨"v", rfl, rfl⟩
  · exact ⟨"w", rfl, rfl⟩
  · exact ⟨"r", rfl, rfl⟩
  · exact ⟨"s", rfl, rfl⟩
  · exact ⟨"t", rfl, rfl⟩
  · exact ⟨"o", rfl, rfl⟩
  · exact ⟨"p", rfl, rfl⟩
  · exact ⟨"q", rfl, rfl⟩
end Ev
namespace Lw
open PySem Ev
variable {n : Nat} {s : Sto} {Q : D → Sto → Prop}
theorem sp_loom {ns : List Int} (hl : ns.length ≤ 63) (q : ∀ s', Loom s' → Q (.cell 1) s') : wp (R (n + 1) 17 [.lst (ns.map .int)]) [] Q := by
  rw [R, wp_run T__law_spring rfl]
  have p18 : powD (.int 10) (.int 18) = some (.int (10 ^ 18)) := pow_intC (by decide)
  simp [bd__law_spring, startE, p18]
  rw [wp_compL_filterf (h := D.int) (g := fun i : Int => .int (i - 1000000000000000000)) (p := fun i : Int => decide (1000000000000000000 ≤ i)) (fun i _ Q => by
    simp [p18]
    by_cases c : (1000000000000000000 : Int) ≤ i <;> simp [c])]
  simp
  have e0 : ∀ x : Int, mulD (.int 2) (.int x) = some (.int (2 * x)) := fun x => mul_int (by unfold mulOk; simp)
  have e1 : ∀ x : Int, mulD (.int x) (.int 982451653) = some (.int (x * 982451653)) := fun x => mul_intC (by decide) (by decide)
  have e2 : ∀ x : Int, mulD (.int x) (.int 49979687) = some (.int (x * 49979687)) := fun x => mul_intC (by decide) (by decide)
  have e5 : ∀ x : Int, modD (.int x) (.int 2305843009213693951) = some (.int (x % 2305843009213693951)) := fun x => mod_int (by decide)
  simp [e0]
  have big : ((ns.filter fun i : Int => decide (1000000000000000000 ≤ i)).map fun i => D.int (i - 1000000000000000000)) = ((ns.filter fun i : Int => decide (1000000000000000000 ≤ i)).map fun i => i - 1000000000000000000).map .int := by rw [List.map_map]; rfl
  rw [big]
  have lb : ((ns.filter fun i : Int => decide (1000000000000000000 ≤ i)).map fun i => i - 1000000000000000000).length ≤ 63 := by
    rw [List.length_map]
    exact Nat.le_trans (List.length_filter_le _ _) hl
  have pb : ∀ d ∈ (ns.filter fun i : Int => decide (1000000000000000000 ≤ i)).map (fun i => i - 1000000000000000000), 0 ≤ d := fun d m => by
    obtain ⟨i, mi, rfl⟩ := List.mem_map.mp m
    have := of_decide_eq_true (List.mem_filter.mp mi).2
    omega
  generalize (ns.filter fun i : Int => decide (1000000000000000000 ≤ i)).map (fun i => i - 1000000000000000000) = gs at lb pb ⊢
  refine wp_forL (fun rest env s' => s' = [.lst (gs.map .int)] ∧ (∀ d ∈ rest, ∃ i, d = .int i) ∧ ∃ a t x, env = [a, .val (.cell 0), .val (.int t), x]) ⟨rfl, fun d m => by obtain ⟨i, _, e⟩ := List.mem_map.mp m; exact ⟨i, e.symm⟩, _, _, _, rfl⟩ ?_ ?_
  · rintro d rest env s' ⟨rfl, hr, a, t, x, rfl⟩
    obtain ⟨i, rfl⟩ := hr d (List.mem_cons_self ..)
    simp [lp__law_spring_0, bindT, e1, e2, e5]
    exact fun d m => hr d (List.mem_cons_of_mem _ m)
  · rintro env s' ⟨rfl, _, a, t, x, rfl⟩
    simp
    exact q _ ⟨gs, t, 0, rfl, lb, pb⟩
theorem sp_words {m : Nat} (hm : m ≤ 12) (hs : Loom s) (q : ∀ zs s', wordsOk zs → zs.length = m → Loom s' → Q (.tup (zs.map .str)) s') : wp (R (n + 2) 21 [.cell 1, .int (m : Int)]) s Q := by
  rw [R, wp_run T__law_words rfl]
  have lm : (m : Int) < LIM := by rw [LIM_val]; omega
  simp [bd__law_words, startE, lm]
  refine for_draw (I := fun k env s => ∃ (zs : List Str) (x1 x3 x4 x5 x6 : Sl), env = [.val (.cell 1), x1, .own (.lst (zs.map .str)), x3, x4, x5, x6] ∧ Loom s ∧ zs.length = k ∧ wordsOk zs) ⟨[], _, _, _, _, _, rfl, hs, rfl, .nil⟩ (fun k hk env s Q => ?_) (fun env s => ?_)
  · rintro ⟨zs, x1, x3, x4, x5, x6, rfl, hs, rfl, ok⟩ q
    rw [len_range] at hk
    simp [lp__law_words_0, bindT]
    refine sp_draw (m := 4) (by decide) (by decide) hs fun r s1 hr h1 => ?_
    obtain ⟨z, ez, z1, z8, z5⟩ : ∃ z : Nat, ixD (.lst [.int 1, .int 1, .int 2, .int 8]) (.int (r : Int)) = some (.int (z : Int)) ∧ 1 ≤ z ∧ z ≤ 8 ∧ z ≠ 5 := by
      have : r = 0 ∨ r = 1 ∨ r = 2 ∨ r = 3 := by omega
      rcases this with rfl | rfl | rfl | rfl
      · exact ⟨1, rfl, by decide⟩
      · exact ⟨1, rfl, by decide⟩
      · exact ⟨2, rfl, by decide⟩
      · exact ⟨8, rfl, by decide⟩
    simp [ez]
    refine ⟨by rw [LIM_val]; omega, ?_⟩
    refine comp_draws (β := Nat) (P := fun c => c ∈ azL) (g := fun c => .str ⟨#[c]⟩) h1 (fun d _ s Q hs q => ?_) fun cs s2 lc hc h2 => ?_
    · simp [bindT]
      refine sp_draw (m := 2) (by decide) (by decide) hs fun r s1 hr h1 => ?_
      obtain ⟨b, eb, b0, b26⟩ : ∃ b : Nat, ixD (.lst [.int 3, .int 26]) (.int (r : Int)) = some (.int (b : Int)) ∧ 0 < b ∧ b ≤ 26 := by
        have : r = 0 ∨ r = 1 := by omega
        rcases this with rfl | rfl
        · exact ⟨3, rfl, by decide⟩
        · exact ⟨26, rfl, by decide⟩
      simp [eb]
      refine sp_draw b0 (by omega) h1 fun r2 s2 hr2 h2 => ?_
      obtain ⟨e, m⟩ := ix_az (r := r2) (by omega)
      have e' : ixD (.str (Str.ofString "abcdefghijklmnopqrstuvwxyz")) (.int (r2 : Int)) = some (.str ⟨#[azL.getD r2 0]⟩) := e
      rw [ov_eq e']
      exact q _ s2 m h2
    · rw [len_range] at lc
      have ea : allS (cs.map fun c => D.str ⟨#[c]⟩) = some (cs.map fun c => (⟨#[c]⟩ : Str)) := by
        have := allS_map (xs := cs.map fun c => (⟨#[c]⟩ : Str))
        rw [List.map_map] at this
        exact this
      rw [ov_eq ea]
      have ej : Txt.join (Str.ofString "") (cs.map fun c => (⟨#[c]⟩ : Str)) = ⟨cs.toArray⟩ := join_chars cs
      rw [ej]
      have wz := word_of (cs := cs) hc (by omega) (by omega)
      have lz : (⟨cs.toArray⟩ : Str).length = cs.length := by simp [Str.length]
      refine ⟨?_, ?_⟩
      · have e0 : (Str.ofString "").length = 0 := rfl
        rw [e0, Nat.mul_zero, Nat.add_zero, List.map_map, LIM_val]
        have : ∀ cs : List Nat, ((cs.map ((fun x : Str => x.length) ∘ fun c => (⟨#[c]⟩ : Str))).sum) = cs.length := fun cs => by
          induction cs with
          | nil => rfl
          | cons c cs ih => rw [List.map_cons, List.sum_cons, ih, List.length_cons]; simp [Str.length]; omega
        rw [this]
        omega
      · generalize (⟨cs.toArray⟩ : Str) = y at wz lz ⊢
        rw [ov_eq inD_strs]
        by_cases c : y ∈ zs
        · simp [c]
          obtain ⟨d, e1, e2⟩ := ix_xyz (k := zs.length) (by omega)
          have e1' : ixD (.str (Str.ofString "xyzuvwrstopq")) (.int (zs.length : Int)) = some (.str d) := e1
          rw [ov_eq e1', wp_see_str, ov_eq e2, wp_recv_own (ds := zs.map .str) rfl, wp_app_own (ds := zs.map .str) rfl]
          refine ⟨by rw [List.length_map, LIM_val]; omega, q _ s2 ⟨zs ++ [fiveAt zs.length], _, _, _, _, _, by rw [List.map_append]; rfl, h2, by simp, ok.five (by omega)⟩⟩
        · simp [c]
          rw [wp_recv_own (ds := zs.map .str) rfl, wp_app_own (ds := zs.map .str) rfl]
          refine ⟨by rw [List.length_map, LIM_val]; omega, q _ s2 ⟨zs ++ [y], _, _, _, _, _, by rw [List.map_append]; rfl, h2, by simp, ok.add (by omega) wz (by omega) c⟩⟩
  · rintro ⟨zs, x1, x3, x4, x5, x6, rfl, hs, l, ok⟩
    rw [len_range] at l
    simp
    exact q zs _ ok l hs
end Lw


set_option Elab.async false
set_option linter.all false
set_option maxRecDepth 100000
set_option maxHeartbeats 2000000
namespace Ev
open PySem
theorem one_add (r : Nat) : addD (.int 1) (.int (r : Int)) = some (.int ((1 + r : Nat) : Int)) := by
  rw [add_int]
  congr 2
/-- a stock of at most so many words that are unlike -/
def sprStock (m : Nat) (st : List Sort3) : Prop := okStock st ∧ st.length ≤ m
end Ev
namespace Lw
open PySem Ev
variable {n : Nat} {s : Sto} {Q : D → Sto → Prop}
/-- the two sides of a sort -/
theorem stock_sides {ks : List Str} (kl : 0 < ks.length) (kl3 : ks.length ≤ 3) (kw : ∀ z ∈ ks, isWordS z = true) {x1 x3 x4 x6 x7 : Sl} {Q : Fl → Sto → Prop} (hs : Loom s) (q : ∀ (a b : List Str) x6 x7 s', (a.length ≤ 4 ∧ ∀ z ∈ a, isWordS z = true) → (b.length ≤ 4 ∧ ∀ z ∈ b, isWordS z = true) → Loom s' → Q (.nx [.val (.cell 1), x1, .val (.tup (ks.map .str)), x3, x4, .own (.lst [.tup (a.map .str), .tup (b.map .str)]), x6, x7]) s') :
    wp (forL (forB (R (n + 2)) 100 [6] false lp__law_stock_0) (range 0 2) [.val (.cell 1), x1, .val (.tup (ks.map .str)), x3, x4, .own (.lst []), x6, x7]) s Q := by
  refine for_draw (I := fun k env s => ∃ (sd : List (List Str)) (x6 x7 : Sl), env = [.val (.cell 1), x1, .val (.tup (ks.map .str)), x3, x4, .own (.lst (sd.map fun a => .tup (a.map .str))), x6, x7] ∧ Loom s ∧ sd.length = k ∧ ∀ a ∈ sd, a.length ≤ 4 ∧ ∀ z ∈ a, isWordS z = true) ⟨[], _, _, rfl, hs, rfl, by simp⟩ (fun k hk env s Q => ?_) (fun env s => ?_)
  · rintro ⟨sd, x6, x7, rfl, hs, rfl, ok⟩ q
    rw [len_range] at hk
    simp [lp__law_stock_0, bindT]
    rw [wp_recv_own (ds := sd.map fun a => .tup (a.map .str)) rfl]
    refine sp_draw (m := 7) (by decide) (by decide) hs fun r s1 hr h1 => ?_
    obtain ⟨z, ez, z4⟩ : ∃ z : Nat, ixD (.lst [.int 0, .int 1, .int 1, .int 2, .int 2, .int 3, .int 4]) (.int (r : Int)) = some (.int (z : Int)) ∧ z ≤ 4 := by
      have : r = 0 ∨ r = 1 ∨ r = 2 ∨ r = 3 ∨ r = 4 ∨ r = 5 ∨ r = 6 := by omega
      rcases this with rfl | rfl | rfl | rfl | rfl | rfl | rfl
      · exact ⟨0, rfl, by decide⟩
      · exact ⟨1, rfl, by decide⟩
      · exact ⟨1, rfl, by decide⟩
      · exact ⟨2, rfl, by decide⟩
      · exact ⟨2, rfl, by decide⟩
      · exact ⟨3, rfl, by decide⟩
      · exact ⟨4, rfl, by decide⟩
    simp [ez]
    refine ⟨by rw [LIM_val]; omega, ?_⟩
    refine comp_draws (β := Str) (P := fun c => isWordS c = true) (g := .str) h1 (fun d _ s Q hs q => ?_) fun cs s2 lc hc h2 => ?_
    · simp [bindT]
      refine sp_draw kl (by omega) hs fun r s1 hr h1 => ?_
      have e : ixD (.tup (ks.map .str)) (.int (r : Int)) = some (.str ks[r]) := ix_tup (by simp [hr])
      rw [ov_eq e]
      exact q _ s1 (kw _ (List.getElem_mem hr)) h1
    · rw [len_range] at lc
      try simp
      rw [wp_app_own (ds := sd.map fun a => .tup (a.map .str)) rfl]
      refine ⟨by rw [List.length_map, LIM_val]; omega, q _ s2 ⟨sd ++ [cs], _, _, by rw [List.map_append]; rfl, h2, by simp, fun a m => ?_⟩⟩
      rcases List.mem_append.mp m with m | m
      · exact ok a m
      · simp at m
        subst m
        exact ⟨by omega, hc⟩
  · rintro ⟨sd, x6, x7, rfl, hs, l, ok⟩
    rw [len_range] at l
    match sd, l with
    | [a, b], _ => exact q a b _ _ s (ok a (by simp)) (ok b (by simp)) hs
theorem sp_stock {most : Nat} (h0 : 0 < most) (hm : most ≤ 12) (hs : Loom s) (q : ∀ st s', sprStock most st → Loom s' → Q (stockD st) s') : wp (R (n + 3) 22 [.cell 1, .int (most : Int)]) s Q := by
  rw [R, wp_run T__law_stock rfl]
  simp [bd__law_stock, startE]
  refine sp_draw (m := 3) (by decide) (by decide) hs fun r s1 hr h1 => ?_
  rw [wp_see_int, ov_eq (one_add r)]
  refine sp_words (m := 1 + r) (by omega) h1 fun ks s2 ok l h2 => ?_
  try simp
  refine sp_draw h0 (by omega) h2 fun r2 s3 hr2 h3 => ?_
  rw [wp_see_int, ov_eq (one_add r2)]
  refine sp_words (m := 1 + r2) (by omega) h3 fun ws s4 okw lw h4 => ?_
  try simp
  refine for_draw (I := fun k env s => ∃ (st : List Sort3) (x1 x4 x5 x6 x7 : Sl), env = [.val (.cell 1), x1, .val (.tup (ks.map .str)), .own (.lst (st.map sortD)), x4, x5, x6, x7] ∧ Loom s ∧ st.length = k ∧ st.map (·.1) = ws.take k ∧ ∀ t ∈ st, okS t) ⟨[], _, _, _, _, _, rfl, h4, rfl, rfl, by simp⟩ (fun k hk env s Q => ?_) (fun env s => ?_)
  · rintro ⟨st, x1, x4, x5, x6, x7, rfl, hs, rfl, hw, ok2⟩ q
    rw [List.length_map] at hk
    have ek : (ws.map D.str)[st.length]'(by rw [List.length_map]; exact hk) = .str ws[st.length] := by simp
    simp [lp__law_stock_1, bindT, ek]
    refine ⟨by rw [LIM_val]; decide, ?_⟩
    refine stock_sides (n := n) (by omega) (by omega) ok.word hs fun a b x6 x7 s1 ha hb h1 => ?_
    simp
    rw [wp_recv_own (ds := st.map sortD) rfl, wp_app_own (ds := st.map sortD) rfl]
    refine ⟨by rw [List.length_map, LIM_val]; omega, q _ s1 ⟨st ++ [(ws[st.length], a, b)], _, _, _, _, _, by rw [List.map_append]; rfl, h1, by simp, ?_, fun t mt => ?_⟩⟩
    · rw [List.map_append, hw, List.map_cons, List.map_nil, List.take_succ, List.getElem?_eq_getElem hk]
      rfl
    · rcases List.mem_append.mp mt with mt | mt
      · exact ok2 t mt
      · simp at mt
        subst mt
        exact ⟨okw.word _ (List.getElem_mem _), ha, hb⟩
  · rintro ⟨st, x1, x4, x5, x6, x7, rfl, hs, l, hw, ok2⟩
    rw [List.length_map] at l
    simp
    refine q st s ⟨⟨by omega, by omega, ok2, ?_⟩, by omega⟩ hs
    rw [hw]
    exact List.Nodup.sublist (List.take_sublist ..) okw.n
end Lw


set_option Elab.async false
set_option linter.all false
set_option maxRecDepth 100000
set_option maxHeartbeats 2000000
namespace Ev
open PySem
@[simp] theorem bindT_sortL {env : Envi} {t : List Nat} {b : Sort3} : bindT env t true (sortD b) = putAll env t [.str b.1, .tup (b.2.1.map .str), .tup (b.2.2.map .str)] := rfl
@[simp] theorem it_stockL {st : List Sort3} : itD (stockD st) = some (st.map sortD) := rfl
@[simp] theorem len_stockL {st : List Sort3} : lenD (stockD st) = some (.int st.length) := by simp [stockD]
def footKinds (st : List Sort3) : List Str := (st.map fun t => t.2.1 ++ t.2.2).flatten
def kindsL (st : List Sort3) : List Str := sortS (nubS (Str.ofString "n" :: footKinds st))
theorem footKinds_len {m : Nat} : ∀ {st : List Sort3}, (∀ t ∈ st, okS t) → st.length ≤ m → (footKinds st).length ≤ 8 * m
  | [], _, _ => by simp [footKinds]
  | t :: st, h, l => by
    have h1 := h t (List.mem_cons_self ..)
    match m with
    | 0 => simp at l
    | m + 1 =>
      have ih := footKinds_len (m := m) (fun x mx => h x (List.mem_cons_of_mem _ mx)) (by simpa using l)
      have e : footKinds (t :: st) = (t.2.1 ++ t.2.2) ++ footKinds st := by simp [footKinds]
      have a := h1.2.1.1
      have b := h1.2.2.1
      rw [e, List.length_append, List.length_append]
      omega
theorem footKinds_word {st : List Sort3} (h : ∀ t ∈ st, okS t) : ∀ z ∈ footKinds st, isWordS z = true := fun z m => by
  obtain ⟨l, ml, mz⟩ := List.mem_flatten.mp m
  obtain ⟨t, mt, rfl⟩ := List.mem_map.mp ml
  have o := h t mt
  rcases List.mem_append.mp mz with mz | mz
  · exact o.2.1.2 z mz
  · exact o.2.2.2 z mz
theorem kindsL_mem {st : List Sort3} {z : Str} : z ∈ kindsL st ↔ z = Str.ofString "n" ∨ z ∈ footKinds st := by
  unfold kindsL
  rw [(sortS_perm _).mem_iff, nubS_mem, List.mem_cons]
theorem kindsL_ok {st : List Sort3} (h : ∀ t ∈ st, okS t) (l : st.length ≤ 12) : 0 < (kindsL st).length ∧ (kindsL st).length ≤ 97 ∧ ∀ z ∈ kindsL st, isWordS z = true := by
  have fl := footKinds_len h l
  refine ⟨?_, ?_, fun z m => ?_⟩
  · exact List.length_pos_of_mem (kindsL_mem.mpr (.inl rfl))
  · unfold kindsL
    rw [(sortS_perm _).length_eq]
    have := nubS_le (Str.ofString "n" :: footKinds st)
    rw [List.length_cons] at this
    omega
  · rcases kindsL_mem.mp m with rfl | m
    · decide +kernel
    · exact footKinds_word h z m
theorem sortedSet_strs {zs : List Str} (h : zs.length ≤ 4000) (hn : zs ≠ []) : sortedSetD (.lst (zs.map .str)) = some (.lst ((sortS (nubS zs)).map .str)) := by
  have l : (zs.map D.str).length ≤ 4000 := by rw [List.length_map]; exact h
  have hn2 : nubS zs ≠ [] := fun e => by
    cases zs with
    | nil => exact hn rfl
    | cons z zs =>
      have : z ∈ nubS (z :: zs) := (nubS_mem _ _).mpr (List.mem_cons_self ..)
      rw [e] at this
      cases this
  have a1 : ∀ {zs : List Str}, zs ≠ [] → allI (zs.map D.str) = none := fun {zs} h => by
    cases zs with
    | nil => exact absurd rfl h
    | cons z zs => rfl
  show (((if (zs.map D.str).length ≤ 4000 then nubA (zs.map D.str) else none).bind srtD).map D.lst) = _
  rw [if_pos l]
  unfold nubA
  rw [a1 hn]
  simp only [allS_map, Option.bind_some]
  unfold srtD
  rw [a1 hn2]
  simp
theorem Kat.of {ws : List Str} : ∀ {ks : List Str} {is : List Nat}, is.length = ks.length → (∀ p ∈ ks.zip is, ws[p.2]? = some p.1) → Kat ws is ks
  | [], [], _, _ => ⟨by simp, rfl⟩
  | k :: ks, i :: is, l, h => by
    have t := Kat.of (ks := ks) (is := is) (by simpa using l) fun p m => h p (by rw [List.zip_cons_cons]; exact List.mem_cons_of_mem _ m)
    have h0 := h (k, i) (by simp)
    have hi := (List.getElem?_eq_some_iff.mp h0).1
    have e : atS ws i = k := by
      have := atS_get hi
      rw [h0] at this
      exact (Option.some.inj this).symm
    refine ⟨fun j m => ?_, ?_⟩
    · rcases List.mem_cons.mp m with rfl | m
      · exact hi
      · exact t.lt j m
    · show atS ws i :: kindsAt ws is = _
      rw [e, t.k]
  | [], _ :: _, l, _ => by cases l
  | _ :: _, [], l, _ => by cases l
/-- the wires of a kind -/
def idxs (ws : List Str) (z : Str) : List Nat := (List.range ws.length).filter fun i => decide (atS ws i = z)
theorem idxs_mem {ws : List Str} {z : Str} {i : Nat} : i ∈ idxs ws z ↔ ws[i]? = some z := by
  unfold idxs
  rw [List.mem_filter, List.mem_range, decide_eq_true_eq]
  constructor
  · rintro ⟨h, e⟩
    rw [atS_get h, e]
  · intro h
    have hi := (List.getElem?_eq_some_iff.mp h).1
    refine ⟨hi, ?_⟩
    have := atS_get hi
    rw [h] at this
    exact (Option.some.inj this).symm
theorem idxs_len {ws : List Str} {z : Str} : (idxs ws z).length ≤ ws.length := by
  have := List.length_filter_le (fun i => decide (atS ws i = z)) (List.range ws.length)
  rw [List.length_range] at this
  exact this
/-- a web of a stock, as the law draws it -/
structure sprWeb (st : List Sort3) (w : Web3) : Prop where
  ws : w.ws.length ≤ 12
  bs : w.bs.length ≤ 10
  l : w.l.length ≤ 6
  r : w.r.length ≤ 6
  z : ∀ z ∈ w.ws, z ∈ kindsL st
  b : ∀ x ∈ w.bs, ∃ t ∈ st, x.1 = t.1 ∧ Kat w.ws x.2.1 t.2.1 ∧ Kat w.ws x.2.2 t.2.2
  lt : ∀ i ∈ w.l, i < w.ws.length
  rt : ∀ i ∈ w.r, i < w.ws.length
theorem sprWeb.small {st : List Sort3} (o : okStock st) {w : Web3} (h : sprWeb st w) : Ev.small w where
  ok := ⟨fun x m => by
    obtain ⟨t, mt, e, k1, k2⟩ := h.b x m
    obtain ⟨_, t2, t3⟩ := o.2.2.1 t mt
    exact ⟨k1.lt, k2.lt, by rw [k1.len]; exact t2.1, by rw [k2.len]; exact t3.1⟩, h.lt, h.rt⟩
  ws := Nat.le_trans h.ws (by decide)
  bs := Nat.le_trans h.bs (by decide)
  l := Nat.le_trans h.l (by decide)
  r := Nat.le_trans h.r (by decide)
  z := fun z m => (kindsL_ok o.2.2.1 o.2.1).2.2 z (h.z z m)
  x := fun x m => by
    obtain ⟨t, mt, e, _⟩ := h.b x m
    rw [e]
    exact (o.2.2.1 t mt).1
end Ev
namespace Lw
open PySem Ev
variable {n : Nat} {s : Sto} {Q : D → Sto → Prop}
def boxesOk (st : List Sort3) (ws : List Str) (bs : List Box3) : Prop := ∀ x ∈ bs, ∃ t ∈ st, x.1 = t.1 ∧ Kat ws x.2.1 t.2.1 ∧ Kat ws x.2.2 t.2.2
theorem sp_stock_kinds {st : List Sort3} (o : okStock st) : wp (R (n + 1) 25 [stockD st]) s Q = Q (.lst ((Str.ofString "n" :: footKinds st).map .str)) s := by
  refine wp_det fun Q q => ?_
  have ok := o.2.2.1
  have fl := footKinds_len ok o.2.1
  rw [R, wp_run T__law_stock_kinds rfl]
  simp [bd__law_stock_kinds, startE]
  have wx_ : ∀ (rest : List Sort3) (zs : List Str) (x2 x3 x4 : Sl), zs.length + (footKinds rest).length ≤ 97 → (∀ t ∈ rest, okS t) → zs ++ footKinds rest = Str.ofString "n" :: footKinds st →
      wp (forL (forB (runF T 100 n) 100 [2, 3, 4] true lp__law_stock_kinds_0) (rest.map sortD) [.val (stockD st), .val (.lst (zs.map .str)), x2, x3, x4]) s fun fl s => flk fl (fun env => ov (takeV env 1) fun d => Q d s) (fun f => match f with | .rt d => Q d s | .nx _ => Q .non s | .ct _ => False) := by
    intro rest
    induction rest with
    | nil =>
      intro zs x2 x3 x4 hl _ e
      rw [List.map_nil, wp_forL_nil]
      have e2 : footKinds [] = [] := rfl
      rw [e2, List.append_nil] at e
      rw [e2, List.length_nil] at hl
      simp
      rw [e]
      exact q
    | cons t rest ih =>
      intro zs x2 x3 x4 hl hk e
      have e2 : footKinds (t :: rest) = (t.2.1 ++ t.2.2) ++ footKinds rest := by simp [footKinds]
      rw [e2, List.length_append, List.length_append] at hl
      rw [List.map_cons, wp_forL_cons]
      have l1 : (t.2.1.map D.str).length + (t.2.2.map D.str).length ≤ LIM := by rw [List.length_map, List.length_map, LIM_val]; omega
      have a1 : addD (.tup (t.2.1.map .str)) (.tup (t.2.2.map .str)) = some (.tup ((t.2.1 ++ t.2.2).map .str)) := by
        show (if _ then _ else _) = _
        rw [if_pos l1, List.map_append]
      have a2 : addD (.lst (zs.map .str)) (.lst ((t.2.1 ++ t.2.2).map .str)) = some (.lst ((zs ++ (t.2.1 ++ t.2.2)).map .str)) := by
        show (if _ then _ else _) = _
        rw [if_pos (by rw [List.length_map, List.length_map, LIM_val, List.length_append]; omega), ← List.map_append]
      simp [lp__law_stock_kinds_0, putAll]
      rw [ov_eq a1]
      simp only [wp_see_tup, seq_tup, ov_some]
      rw [ov_eq a2]
      refine ih (zs ++ (t.2.1 ++ t.2.2)) _ _ _ (by rw [List.length_append, List.length_append]; omega) (fun x m => hk x (List.mem_cons_of_mem _ m)) ?_
      rw [List.append_assoc, ← e2]
      exact e
  refine wx_ st [Str.ofString "n"] _ _ _ ?_ ok rfl
  simp
  omega
theorem pick_loop {ws : List Str} (lw : ws.length ≤ 12) {x2 : Sl} {Q : Fl → Sto → Prop} (q2 : ∀ s', Loom s' → Q (.rt .non) s') : ∀ {rest : List Str} {is : List Nat} {s : Sto} {x4 x5 x6 : Sl}, is.length + rest.length ≤ 100 → Loom s → (∀ js x4 x5 x6 s', js.length = rest.length → (∀ p ∈ rest.zip js, ws[p.2]? = some p.1) → Loom s' → Q (.nx [.val (.cell 1), .val (.tup (ws.map .str)), x2, .own (.lst (natsD (is ++ js))), x4, x5, x6]) s') →
    wp (forL (forB (R (n + 1)) 100 [4] false lp__law_pick_0) (rest.map .str) [.val (.cell 1), .val (.tup (ws.map .str)), x2, .own (.lst (natsD is)), x4, x5, x6]) s Q
  | [], is, s, x4, x5, x6, hl, hs, q => by
    rw [List.map_nil, wp_forL_nil]
    have := q [] x4 x5 x6 s rfl (by simp) hs
    rw [List.append_nil] at this
    exact this
  | z :: rest, is, s, x4, x5, x6, hl, hs, q => by
    rw [List.length_cons] at hl
    have lz : (ws.length : Int) < LIM := by rw [LIM_val]; omega
    rw [List.map_cons, wp_forL_cons]
    simp [lp__law_pick_0, lz]
    rw [range_nats, wp_compL_natsF (p := fun i => decide (atS ws i = z)) (g := fun i => .int (i : Int))]
    · have e : ((List.range ws.length).filter fun i => decide (atS ws i = z)).map (fun (i : Nat) => D.int (i : Int)) = natsD (idxs ws z) := rfl
      rw [e]
      have li := idxs_len (ws := ws) (z := z)
      by_cases c : idxs ws z = []
      · simp [c, natsD]
        exact q2 s hs
      · simp [c]
        rw [wp_recv_own (ds := natsD is) rfl]
        simp [natsD_len]
        refine sp_draw (n := n) (m := (idxs ws z).length) (List.length_pos_iff.mpr c) (by omega) hs fun r s1 hr h1 => ?_
        have e : ixD (.lst (natsD (idxs ws z))) (.int (r : Int)) = some (.int ((idxs ws z)[r] : Int)) := ix_lst (by simp [natsD, hr])
        rw [ov_eq e, wp_app_own (ds := natsD is) rfl]
        refine ⟨by rw [natsD_len, LIM_val]; omega, ?_⟩
        have e3 : natsD is ++ [D.int ((idxs ws z)[r] : Int)] = natsD (is ++ [(idxs ws z)[r]]) := by simp [natsD]
        rw [e3]
        refine pick_loop lw q2 (rest := rest) (is := is ++ [(idxs ws z)[r]]) (by simp; omega) h1 fun js x4 x5 x6 s' l h h' => ?_
        have := q ((idxs ws z)[r] :: js) x4 x5 x6 s' (by simp [l]) (fun p m => by
          rw [List.zip_cons_cons] at m
          rcases List.mem_cons.mp m with rfl | m
          · exact idxs_mem.mp (List.getElem_mem hr)
          · exact h p m) h'
        rw [List.append_assoc]
        exact this
    · intro i m Q
      have hi := List.mem_range.mp m
      have e : ixD (.tup (ws.map .str)) (.int (i : Int)) = some (.str (atS ws i)) := ix_strs hi
      simp [e]
      by_cases hh : atS ws i = z <;> simp [hh]
theorem sp_pick {ws ks : List Str} (lw : ws.length ≤ 12) (lk : ks.length ≤ 100) (hs : Loom s) (q1 : ∀ is s', Kat ws is ks → Loom s' → Q (.tup (natsD is)) s') (q2 : ∀ s', Loom s' → Q .non s') : wp (R (n + 2) 23 [.cell 1, .tup (ws.map .str), .tup (ks.map .str)]) s Q := by
  rw [R, wp_run T__law_pick rfl]
  simp [bd__law_pick, startE]
  refine pick_loop (is := []) lw (fun s' h' => ?_) (by simpa using lk) hs fun js x4 x5 x6 s' l h h' => ?_
  · exact q2 s' h'
  · simp
    exact q1 js s' (Kat.of l h) h'
end Lw


set_option Elab.async false
set_option linter.all false
set_option maxRecDepth 100000
set_option maxHeartbeats 2000000
namespace Lw
open PySem Ev
variable {n : Nat} {s : Sto} {Q : D → Sto → Prop}
theorem web_row {st : List Sort3} (o : okStock st) {ws : List Str} (lw : ws.length ≤ 12) {bs : List Box3} {k : Nat} (hl : bs.length ≤ k) (hk : k < 100) (hb : boxesOk st ws bs) {x2 x3 x4 x7 x8 x9 x10 x11 x12 x13 x14 x15 : Sl} (hs : Loom s) {d : D} {Q : Fl → Sto → Prop}
    (q : ∀ bs' x7 x10 x11 x12 x13 x14 s', bs'.length ≤ k + 1 → boxesOk st ws bs' → Loom s' → Q (.nx [.val (.cell 1), .val (stockD st), x2, x3, x4, .val (.tup (ws.map .str)), .own (.lst (bs'.map boxD)), x7, x8, x9, x10, x11, x12, x13, x14, x15]) s') :
    wp (forB (R (n + 2)) 100 [7] false lp__law_web_0 d [.val (.cell 1), .val (stockD st), x2, x3, x4, .val (.tup (ws.map .str)), .own (.lst (bs.map boxD)), x7, x8, x9, x10, x11, x12, x13, x14, x15]) s Q := by
  have o1 := o.1
  have o2 := o.2.1
  simp [lp__law_web_0]
  refine sp_draw (m := st.length) (by omega) (by omega) hs fun r s1 hr h1 => ?_
  have mt : st[r] ∈ st := List.getElem_mem hr
  have e : ixD (stockD st) (.int (r : Int)) = some (sortD st[r]) := ix_tup (by simp [hr])
  rw [ov_eq e]
  obtain ⟨t1, t2, t3⟩ := o.2.2.1 _ mt
  generalize st[r] = t at mt t1 t2 t3 ⊢
  try simp [putAll]
  refine sp_pick (n := n) lw (by omega) h1 (fun is s2 k1 h2 => ?_) (fun s2 h2 => ?_)
  · refine sp_pick (n := n) lw (by omega) h2 (fun js s3 k2 h3 => ?_) (fun s3 h3 => ?_)
    · simp
      rw [wp_recv_own (ds := bs.map boxD) rfl, wp_app_own (ds := bs.map boxD) rfl]
      refine ⟨by rw [List.length_map, LIM_val]; omega, ?_⟩
      have e : (bs.map boxD) ++ [.tup [.str t.1, .tup (natsD is), .tup (natsD js)]] = (bs ++ [(t.1, is, js)]).map boxD := by simp [boxD]
      rw [e]
      refine q _ _ _ _ _ _ _ s3 (by simp; omega) (fun x mx => ?_) h3
      rcases List.mem_append.mp mx with mx | mx
      · exact hb x mx
      · simp at mx
        subst mx
        exact ⟨t, mt, rfl, k1, k2⟩
    · simp
      exact q bs _ _ _ _ _ _ s3 (by omega) hb h3
  · refine sp_pick (n := n) lw (by omega) h2 (fun js s3 k2 h3 => ?_) (fun s3 h3 => ?_)
    · simp
      exact q bs _ _ _ _ _ _ s3 (by omega) hb h3
    · simp
      exact q bs _ _ _ _ _ _ s3 (by omega) hb h3
theorem web_end {ws : List Str} (lw : ws.length ≤ 12) {es : List (List Nat)} {k : Nat} (hl : es.length = k) (hk : k < 100) (he : ∀ e ∈ es, e.length ≤ 6 ∧ ∀ i ∈ e, i < ws.length) {x1 x2 x3 x4 x6 x7 x9 x10 x11 x12 x13 x14 x15 : Sl} (hs : Loom s) {d : D} {Q : Fl → Sto → Prop}
    (q : ∀ (es' : List (List Nat)) x9 x15 s', es'.length = k + 1 → (∀ e ∈ es', e.length ≤ 6 ∧ ∀ i ∈ e, i < ws.length) → Loom s' → Q (.nx [.val (.cell 1), x1, x2, x3, x4, .val (.tup (ws.map .str)), x6, x7, .own (.lst (es'.map fun e => .tup (natsD e))), x9, x10, x11, x12, x13, x14, x15]) s') :
    wp (forB (R (n + 2)) 100 [9] false lp__law_web_1 d [.val (.cell 1), x1, x2, x3, x4, .val (.tup (ws.map .str)), x6, x7, .own (.lst (es.map fun e => .tup (natsD e))), x9, x10, x11, x12, x13, x14, x15]) s Q := by
  have ne : copD .ne (.tup (ws.map .str)) (.tup []) = some (!ws.isEmpty) := by
    rw [cop_ne (by simp) rfl]
    cases ws <;> rfl
  simp [lp__law_web_1]
  have fin : ∀ (m : Nat) (s1 : Sto), m ≤ 6 → (0 < m → 0 < ws.length) → Loom s1 → wp (exs (R (n + 2)) 100 (.cons (.app 8 (.totup (.seq (.comp (.call 18 (.cons (.take 0) (.cons (.bi .len (.cons (.var 5) .nil)) .nil))) [7] false (.rng (.var 15)) .no [7])))) .nil) [.val (.cell 1), x1, x2, x3, x4, .val (.tup (ws.map .str)), x6, x7, .own (.lst (es.map fun e => .tup (natsD e))), .val d, x10, x11, x12, x13, x14, .val (.int (m : Int))]) s1 Q := fun m s1 hm h0 h1 => by
    have lm : (m : Int) < LIM := by rw [LIM_val]; omega
    simp [lm]
    rw [wp_recv_own (ds := es.map fun e => .tup (natsD e)) rfl]
    refine comp_draws (β := Nat) (P := fun i => i < ws.length) (g := fun i => .int (i : Int)) h1 (fun d md s Q hs q => ?_) fun is s2 hl2 hp2 h2 => ?_
    · simp
      have : 0 < m := by
        have := List.length_pos_of_mem md
        rw [len_range] at this
        exact this
      refine sp_draw (h0 this) (by omega) hs fun r s' hr h' => ?_
      exact q r s' hr h'
    · rw [len_range] at hl2
      rw [wp_app_own (ds := es.map fun e => .tup (natsD e)) rfl]
      refine ⟨by rw [List.length_map, LIM_val]; omega, ?_⟩
      have e : (es.map fun e => D.tup (natsD e)) ++ [D.tup (is.map fun (i : Nat) => .int (i : Int))] = (es ++ [is]).map fun e => .tup (natsD e) := by simp [natsD]
      rw [e]
      refine q (es ++ [is]) _ _ s2 (by simp [hl]) (fun e me => ?_) h2
      rcases List.mem_append.mp me with me | me
      · exact he e me
      · simp at me
        subst me
        exact ⟨by omega, hp2⟩
  rw [ov_eq ne]
  cases hw : ws.isEmpty
  · simp
    have wpos : 0 < ws.length := List.length_pos_iff.mpr (by simpa using hw)
    refine sp_draw (m := 2) (by decide) (by decide) hs fun r s1 hr h1 => ?_
    try simp
    have m2 : ∃ m : Nat, ixD (.lst [.int 3, .int 7]) (.int (r : Int)) = some (.int (m : Int)) ∧ 0 < m ∧ m ≤ 7 := by
      have : r = 0 ∨ r = 1 := by omega
      rcases this with rfl | rfl
      · exact ⟨3, rfl, by decide, by decide⟩
      · exact ⟨7, rfl, by decide, by decide⟩
    obtain ⟨m, em, m0, m7⟩ := m2
    rw [ov_eq em]
    refine sp_draw m0 (by omega) h1 fun r2 s2 hr2 h2 => ?_
    have := fin r2 s2 (by omega) (fun _ => wpos) h2
    simpa using this
  · simp
    have := fin 0 s (by decide) (fun h => absurd h (by decide)) hs
    simpa using this
theorem sp_web {st : List Sort3} (o : okStock st) {most boxes : Nat} (hm : most ≤ 12) (hb : boxes ≤ 10) (hs : Loom s) (q : ∀ w s', sprWeb st w → w.ws.length ≤ most → w.bs.length ≤ boxes → Loom s' → Q (webD w) s') : wp (R (n + 3) 24 [.cell 1, stockD st, .int (most : Int), .int (boxes : Int)]) s Q := by
  have ko := kindsL_ok o.2.2.1 o.2.1
  have fl := footKinds_len o.2.2.1 o.2.1
  rw [R, wp_run T__law_web rfl]
  simp [bd__law_web, startE]
  rw [sp_stock_kinds o]
  have es : sortedSetD (.lst ((Str.ofString "n" :: footKinds st).map .str)) = some (.lst ((kindsL st).map .str)) := sortedSet_strs (by rw [List.length_cons]; omega) (by simp)
  generalize Str.ofString "n" :: footKinds st = fk at es
  try simp
  rw [ov_eq es]
  rw [show (most : Int) + 1 = ((most + 1 : Nat) : Int) by omega]
  refine sp_draw (by omega) (by omega) hs fun m s1 hm1 h1 => ?_
  have lm : (m : Int) < LIM := by rw [LIM_val]; omega
  simp [lm]
  refine comp_draws (β := Str) (P := fun z => z ∈ kindsL st) (g := .str) h1 (fun d _ s Q hs q => ?_) fun ws s2 hl2 hp2 h2 => ?_
  · simp
    refine sp_draw ko.1 (by omega) hs fun r s' hr h' => ?_
    have e : ixD (.lst ((kindsL st).map .str)) (.int (r : Int)) = some (.str (kindsL st)[r]) := ix_lst (by simp [hr])
    rw [ov_eq e]
    exact q _ s' (List.getElem_mem hr) h'
  · rw [len_range] at hl2
    rw [show (boxes : Int) + 1 = ((boxes + 1 : Nat) : Int) by omega]
    refine sp_draw (by omega) (by omega) h2 fun b s3 hb1 h3 => ?_
    have lb : (b : Int) < LIM := by rw [LIM_val]; omega
    simp [lb]
    refine for_draw (I := fun k env s => Loom s ∧ ∃ (bs : List Box3) (x7 x10 x11 x12 x13 x14 : Sl), env = [.val (.cell 1), .val (stockD st), .val (.int (most : Int)), .val (.int (boxes : Int)), .val (.lst ((kindsL st).map .str)), .val (.tup (ws.map .str)), .own (.lst (bs.map boxD)), x7, .no, .no, x10, x11, x12, x13, x14, .no] ∧ bs.length ≤ k ∧ boxesOk st ws bs)
      ⟨h3, [], _, _, _, _, _, _, rfl, by simp, fun x m => by cases m⟩ ?_ ?_
    · rintro k hk env s Q ⟨hs, bs, x7, x10, x11, x12, x13, x14, rfl, hl, ob⟩ q
      rw [len_range] at hk
      exact web_row o (by omega) hl (by omega) ob hs fun bs' x7 x10 x11 x12 x13 x14 s' l' ob' h' => q _ s' ⟨h', bs', x7, x10, x11, x12, x13, x14, rfl, l', ob'⟩
    · rintro env s4 ⟨h4, bs, x7, x10, x11, x12, x13, x14, rfl, hl, ob⟩
      rw [len_range] at hl
      simp
      refine ⟨by rw [LIM_val]; decide, ?_⟩
      refine for_draw (I := fun k env s => Loom s ∧ ∃ (es : List (List Nat)) (x9 x15 : Sl), env = [.val (.cell 1), .val (stockD st), .val (.int (most : Int)), .val (.int (boxes : Int)), .val (.lst ((kindsL st).map .str)), .val (.tup (ws.map .str)), .own (.lst (bs.map boxD)), x7, .own (.lst (es.map fun e => .tup (natsD e))), x9, x10, x11, x12, x13, x14, x15] ∧ es.length = k ∧ ∀ e ∈ es, e.length ≤ 6 ∧ ∀ i ∈ e, i < ws.length)
        ⟨h4, [], _, _, rfl, rfl, fun x m => by cases m⟩ ?_ ?_
      · rintro k hk env s Q ⟨hs, es, x9, x15, rfl, hl, he⟩ q
        rw [len_range] at hk
        exact web_end (by omega) hl (by omega) he hs fun es' x9 x15 s' l' he' h' => q _ s' ⟨h', es', x9, x15, rfl, l', he'⟩
      · rintro env s5 ⟨h5, es, x9, x15, rfl, hl5, he⟩
        rw [len_range] at hl5
        match es, hl5 with
        | [l, r], _ =>
          have i0 : ixD (.lst [D.tup (natsD l), D.tup (natsD r)]) (.int 0) = some (.tup (natsD l)) := rfl
          have i1 : ixD (.lst [D.tup (natsD l), D.tup (natsD r)]) (.int 1) = some (.tup (natsD r)) := rfl
          simp [i0, i1]
          have hl := he l (by simp)
          have hr := he r (by simp)
          exact q ⟨ws, bs, l, r⟩ s5 ⟨by show ws.length ≤ 12; omega, by show bs.length ≤ 10; omega, hl.1, hr.1, hp2, ob, hl.2, hr.2⟩ (by show ws.length ≤ most; omega) (by show bs.length ≤ boxes; omega) h5
end Lw


set_option Elab.async false
set_option linter.all false
set_option maxRecDepth 100000
set_option maxHeartbeats 2000000
namespace Lw
open PySem Ev
variable {n : Nat} {s : Sto} {Q : D → Sto → Prop}
def kindsOf (d : D) : List D := [.bl (tyD .bool d), .bl (tyD .int d), .bl (tyD .str d), .bl (tyD .tup d), .bl (tyD .lst d), .bl (isNon d)]
theorem sp_kinds {d : D} : wp (R (n + 1) 19 [d]) s Q = Q (.lst (kindsOf d)) s := by
  rw [R, wp_run T__law_kinds rfl]
  simp [bd__law_kinds, startE]
  rw [ov_eq (add_lst (by simp [LIM_val]))]
  unfold kindsOf
  cases d <;> simp [isNon]
theorem kinds_ne {d : D} : copD .ne (.lst (kindsOf d)) (.lst (kindsOf d)) = some false := by
  rw [cop_ne (by rfl) (by rfl)]
  unfold kindsOf
  cases d <;> simp
theorem sp_alike {L : Nat} (hL : L ≤ 1000) : ∀ (m : Nat) {d : D} {n : Nat} {Q : D → Sto → Prop}, d.gl L m = true → m ≤ 30 → wp (R (n + m + 2) 20 [d, d]) s Q = Q (.bl true) s := by
  intro m
  induction m with
  | zero =>
    intro d n Q h hm
    rw [R, wp_run T__law_alike rfl]
    simp [bd__law_alike, startE, sp_kinds, kinds_ne]
    cases d <;> simp [D.gl, tyD] at h ⊢
  | succ m ih =>
    intro d n Q h hm
    rw [R, wp_run T__law_alike rfl]
    simp [bd__law_alike, startE, sp_kinds, kinds_ne]
    have key : ∀ ds : List D, ds.length ≤ L → (∀ d ∈ ds, d.gl L m = true) → ∀ i ∈ List.range ds.length, ∃ x, ixD (.lst ds) (.int (i : Int)) = some x ∧ ixD (.tup ds) (.int (i : Int)) = some x ∧ ∀ Q, wp (runF T 100 (n + (m + 1) + 1) 20 [x, x]) s Q = Q (.bl true) s := fun ds hl hg i mi => by
      have hi := List.mem_range.mp mi
      refine ⟨ds[i], ix_lst (by simp [hi]), ix_tup (by simp [hi]), fun Q => ?_⟩
      exact ih (hg _ (List.getElem_mem hi)) (by omega)
    cases d with
    | tup ds =>
      rw [gl_tup] at h
      have lz : ds.length < LIM := by rw [LIM_val]; omega
      simp [lz, tyD]
      rw [range_nats, wp_compL_nats (g := fun _ => .bl true)]
      · simp
        rw [show ((List.range ds.length).all fun _ => true) = true from List.all_eq_true.mpr fun _ _ => rfl]
      · intro i mi Q
        obtain ⟨x, _, e, z⟩ := key ds h.1 h.2 i mi
        simp [e, z]
    | lst ds =>
      rw [gl_lst] at h
      have lz : ds.length < LIM := by rw [LIM_val]; omega
      simp [lz, tyD]
      rw [range_nats, wp_compL_nats (g := fun _ => .bl true)]
      · simp
        rw [show ((List.range ds.length).all fun _ => true) = true from List.all_eq_true.mpr fun _ _ => rfl]
      · intro i mi Q
        obtain ⟨x, e, _, z⟩ := key ds h.1 h.2 i mi
        simp [e, z]
    | dic a b => simp [D.gl] at h
    | cell a => simp [D.gl] at h
    | _ => simp [tyD]
end Lw


set_option Elab.async false
set_option linter.all false
set_option maxRecDepth 100000
set_option maxHeartbeats 2000000
namespace Ev
open PySem
@[simp] theorem bw_strn {d : D} : biD .strn [d] = strnD d := rfl
/-! ### values near a web: leaves, weights -/
mutual
/-- whole numbers no greater, texts of code points -/
def D.lv (B : Nat) : D → Bool
  | .int i => decide (i.natAbs ≤ B)
  | .str z => z.cps.toList.all fun c => decide (c < 16 ^ 8)
  | .tup ds => D.lvs B ds
  | .lst ds => D.lvs B ds
  | .dic _ _ => false
  | .cell _ => false
  | .non => true
  | .bl _ => true
def D.lvs (B : Nat) : List D → Bool
  | [] => true
  | d :: ds => d.lv B && D.lvs B ds
end
theorem lvs_iff {B : Nat} : ∀ {ds : List D}, D.lvs B ds = true ↔ ∀ d ∈ ds, d.lv B = true
  | [] => by simp [D.lvs]
  | d :: ds => by simp [D.lvs, lvs_iff]
def wt (d : D) : Nat := d.toP.weight
def wts : List D → Nat
  | [] => 0
  | d :: ds => wt d + 1 + wts ds
theorem wts_eq : ∀ {ds : List D}, PyData.weightAll (D.toPs ds) = wts ds
  | [] => rfl
  | d :: ds => by
    rw [D.toPs, PyData.weightAll, wts_eq]
    rfl
theorem wt_tup {ds : List D} : wt (.tup ds) = wts ds := by
  rw [← wts_eq]
  show PyData.weight (.tuple _) = _
  rw [PyData.weight]
theorem wt_lst {ds : List D} : wt (.lst ds) = wts ds := by
  rw [← wts_eq]
  show PyData.weight (.list _) = _
  rw [PyData.weight]
theorem wts_app : ∀ {a b : List D}, wts (a ++ b) = wts a + wts b
  | [], b => by simp [wts]
  | d :: a, b => by
    rw [List.cons_append, wts, wts, wts_app]
    omega
theorem wts_split (k : Nat) {ds : List D} : wts (ds.take k) + wts (ds.drop k) = wts ds := by
  rw [← wts_app, List.take_append_drop]
theorem wts_mem {d : D} : ∀ {ds : List D}, d ∈ ds → wt d + 1 ≤ wts ds
  | e :: ds, m => by
    rw [wts]
    rcases List.mem_cons.mp m with rfl | m
    · omega
    · have := wts_mem m
      omega
theorem wts_le {W : Nat} : ∀ {ds : List D}, (∀ d ∈ ds, wt d ≤ W) → wts ds ≤ ds.length * (W + 1)
  | [], _ => by simp [wts]
  | d :: ds, h => by
    have := wts_le (ds := ds) fun x m => h x (List.mem_cons_of_mem _ m)
    have h1 := h d (List.mem_cons_self ..)
    rw [wts, List.length_cons, Nat.succ_mul]
    omega
mutual
theorem lv_more {B B' : Nat} (h : B ≤ B') : ∀ d : D, d.lv B = true → d.lv B' = true
  | .int i, q => by simp [D.lv] at q ⊢; omega
  | .str z, q => q
  | .tup ds, q => lvs_more h ds q
  | .lst ds, q => lvs_more h ds q
  | .non, _ => rfl
  | .bl _, _ => rfl
theorem lvs_more {B B' : Nat} (h : B ≤ B') : ∀ ds : List D, D.lvs B ds = true → D.lvs B' ds = true
  | [], _ => rfl
  | d :: ds, q => by
    simp only [D.lvs, Bool.and_eq_true] at q ⊢
    exact ⟨lv_more h d q.1, lvs_more h ds q.2⟩
end
theorem short_int {i : Int} (h : i.natAbs < 10 ^ 35) : i.natAbs.log2 < 1920 ∧ ((PyData.int i).shown).length ≤ 40 ∧ wt (.int i) ≤ 120 := by
  have l2 : i.natAbs.log2 < 120 := by
    by_cases z : i.natAbs = 0
    · rw [z]; decide
    · refine (Nat.log2_lt z).mpr (Nat.lt_of_lt_of_le h ?_)
      decide
  refine ⟨by omega, ?_, ?_⟩
  · have e := int_text_length_le10 (k := 35) (by decide) h
    show (Str.ofString (toString i)).length ≤ 40
    rw [ofString_length]
    omega
  · show PyData.weight (.int i) ≤ 120
    rw [PyData.weight]
    split <;> omega
theorem str_int {i : Int} (h : i.natAbs < 10 ^ 35) : ∃ z, strnD (.int i) = some (.str z) ∧ z.cps.size ≤ 36 ∧ z.cps.toList.all (fun c => decide (c < 16 ^ 8)) = true := by
  have e := int_text_length_le10 (k := 35) (by decide) h
  refine ⟨Str.ofString (toString i), ?_, ?_, ?_⟩
  · show (if i.natAbs.log2 < 1920 then some (D.str (toString i)) else none) = _
    rw [if_pos (short_int h).1]
  · have : (Str.ofString (toString i)).length ≤ 36 := by rw [ofString_length]; omega
    exact this
  · rw [Str.ofString_eq_toList, List.all_eq_true]
    intro c m
    obtain ⟨x, _, rfl⟩ := List.mem_map.mp (by simpa using m)
    have h : x.val.toNat < 2 ^ 32 := UInt32.toNat_lt x.val
    rw [decide_eq_true_eq]
    exact Nat.lt_of_lt_of_le h (by decide)
mutual
theorem lv_show {B : Nat} (h : B < 10 ^ 35) : ∀ d : D, d.lv B = true → d.toP.showable = true ∧ d.toP.leavesShort 40 = true
  | .int i, q => by
    simp only [D.lv, decide_eq_true_eq] at q
    obtain ⟨a, b, _⟩ := short_int (i := i) (by omega)
    exact ⟨by simp only [D.toP, PyData.showable, decide_eq_true_eq]; exact a, by simp only [D.toP, PyData.leavesShort, decide_eq_true_eq]; exact b⟩
  | .str z, q => ⟨by simp [D.toP, PyData.showable], by simpa [D.toP, PyData.leavesShort, D.lv] using q⟩
  | .tup ds, q => by
    obtain ⟨a, b⟩ := lvs_show h ds q
    exact ⟨by simpa [D.toP, PyData.showable] using a, by simpa [D.toP, PyData.leavesShort] using b⟩
  | .lst ds, q => by
    obtain ⟨a, b⟩ := lvs_show h ds q
    exact ⟨by simpa [D.toP, PyData.showable] using a, by simpa [D.toP, PyData.leavesShort] using b⟩
  | .non, _ => ⟨by simp [D.toP, PyData.showable], by simp [D.toP, PyData.leavesShort]⟩
  | .bl _, _ => ⟨by simp [D.toP, PyData.showable], by simp [D.toP, PyData.leavesShort]⟩
theorem lvs_show {B : Nat} (h : B < 10 ^ 35) : ∀ ds : List D, D.lvs B ds = true → PyData.showableAll (D.toPs ds) = true ∧ PyData.leavesShortAll 40 (D.toPs ds) = true
  | [], _ => ⟨by simp [D.toPs, PyData.showableAll], by simp [D.toPs, PyData.leavesShortAll]⟩
  | d :: ds, q => by
    simp only [D.lvs, Bool.and_eq_true] at q
    obtain ⟨a, b⟩ := lv_show h d q.1
    obtain ⟨c, e⟩ := lvs_show h ds q.2
    exact ⟨by simp [D.toPs, PyData.showableAll, a, c], by simp [D.toPs, PyData.leavesShortAll, b, e]⟩
end
/-- the text of a list of such values -/
theorem repr_vals {L B : Nat} (hB : B < 10 ^ 35) {ds : List D} (g : ∀ d ∈ ds, d.gl L 20 = true) (v : ∀ d ∈ ds, d.lv B = true) (w : wts ds ≤ 300000) : ∃ z, reprD (.lst ds) = some (.str z) := by
  have p : (D.lst ds).plain = true := by
    show D.pls ds 39 = true
    have : ∀ l : List D, (∀ d ∈ l, d.gl L 20 = true) → D.pls l 39 = true := fun l h => by
      induction l with
      | nil => rfl
      | cons x l ih =>
        simp only [D.pls, Bool.and_eq_true]
        exact ⟨gl_pl x 20 39 (by decide) (h x (List.mem_cons_self ..)), ih fun d m => h d (List.mem_cons_of_mem _ m)⟩
    exact this ds g
  obtain ⟨a, b⟩ := lv_show hB (.lst ds) (lvs_iff.mpr v)
  have ll := PyData.shown_le 40 (by decide) _ b
  have wt' : (D.lst ds).toP.weight = wts ds := wt_lst
  refine ⟨(D.lst ds).toP.shown, ?_⟩
  show (if ((D.lst ds).plain && (D.lst ds).toP.showable && decide ((D.lst ds).toP.shown.length ≤ LIM)) = true then _ else none) = _
  rw [if_pos]
  rw [p, a, decide_eq_true]
  · rfl
  · rw [LIM_val]
    rw [wt'] at ll
    omega
end Ev


set_option Elab.async false
set_option linter.all false
set_option maxRecDepth 100000
set_option maxHeartbeats 2000000
namespace Ev
open PySem
/-- near a web: so wide, so deep, so great -/
structure Nr (L B W m : Nat) (d : D) : Prop where
  g : d.gl L m = true
  v : d.lv B = true
  w : wt d ≤ W
theorem Nr.more {L B W m L' B' W' m' : Nat} {d : D} (h : Nr L B W m d) (l : L ≤ L') (b : B ≤ B') (w : W ≤ W') (k : m ≤ m') : Nr L' B' W' m' d := ⟨gl_mono l d m m' k h.g, lv_more b d h.v, Nat.le_trans h.w w⟩
theorem cut_mid {α : Type} {xs : List α} {k : Nat} (h : k < xs.length) : cut xs (some (k : Int)) (some ((k : Int) + 1)) = (xs.drop k).take 1 := by
  unfold cut
  simp only [sIx]
  rw [if_neg (by omega), if_neg (by omega)]
  have e1 : min (k : Int).toNat xs.length = k := by omega
  have e2 : min ((k : Int) + 1).toNat xs.length - k = 1 := by omega
  rw [e1, e2]
theorem Nr.tup_mem {L B W m : Nat} {ds : List D} (h : Nr L B W (m + 1) (.tup ds)) {d : D} (md : d ∈ ds) : Nr L B W m d := ⟨(gl_tup.mp h.g).2 d md, lvs_iff.mp (show D.lvs B ds = true from h.v) d md, by
  have := wts_mem md
  have := h.w
  rw [wt_tup] at this
  omega⟩
theorem Nr.tup_of {L B W m : Nat} {ds : List D} (l : ds.length ≤ L) (h : ∀ d ∈ ds, d.gl L m = true ∧ d.lv B = true) (w : wts ds ≤ W) : Nr L B W (m + 1) (.tup ds) := ⟨gl_tup.mpr ⟨l, fun d md => (h d md).1⟩, by
  show D.lvs B ds = true
  exact lvs_iff.mpr fun d md => (h d md).2, by rw [wt_tup]; exact w⟩
theorem Nr.lst_of {L B W m : Nat} {ds : List D} (l : ds.length ≤ L) (h : ∀ d ∈ ds, d.gl L m = true ∧ d.lv B = true) (w : wts ds ≤ W) : Nr L B W (m + 1) (.lst ds) := ⟨gl_lst.mpr ⟨l, fun d md => (h d md).1⟩, by
  show D.lvs B ds = true
  exact lvs_iff.mpr fun d md => (h d md).2, by rw [wt_lst]; exact w⟩
def oddsD : List D := [.str (Str.ofString ""), .str (Str.ofString "n"), .str (Str.ofString "a"), .str (Str.ofString "b"), .str (Str.ofString "c"), .str (Str.ofString "N"), .str (Str.ofString "abcdefghi"), .non, .tup [], .tup [.int 0], .tup [.int 0, .int 0], .lst [.int 0], .tup [.tup [.str (Str.ofString "n")], .tup []], .tup [.str (Str.ofString "a"), .tup [], .tup []], .int 7, .bl true]
theorem odds_nr {L B W m : Nat} (hL : 3 ≤ L) (hB : 7 ≤ B) (hW : 130 ≤ W) (hm : 2 ≤ m) : ∀ d ∈ oddsD, Nr L B W m d := fun d md => by
  have a : ∀ d ∈ oddsD, d.gl 3 2 = true ∧ d.lv 7 = true ∧ wt d ≤ 130 := by
    have : oddsD.all (fun d => d.gl 3 2 && d.lv 7 && decide (wt d ≤ 130)) = true := by decide +kernel
    intro d md
    have := List.all_eq_true.mp this d md
    simp only [Bool.and_eq_true, decide_eq_true_eq] at this
    exact ⟨this.1.1, this.1.2, this.2⟩
  obtain ⟨x, y, z⟩ := a d md
  exact (Nr.mk (L := 3) (B := 7) (W := 130) (m := 2) x y z).more hL hB hW hm
theorem int_nr {L B W m : Nat} {i : Int} (h : i.natAbs ≤ B) (hB : B < 10 ^ 35) (hW : 130 ≤ W) : Nr L B W m (.int i) := ⟨rfl, by simpa [D.lv] using h, by have := (short_int (i := i) (by omega)).2.2; omega⟩
end Ev
namespace Lw
open PySem Ev
variable {n : Nat} {s : Sto} {Q : D → Sto → Prop}
def bentL : Sb := (.cons (.ife (.and (.isi (.var 1) [.int]) (.not (.isi (.var 1) [.bool]))) (.cons (.ret (.ix (.lst (.cons (.bin .add (.var 1) (.con (.int 1))) (.cons (.bin .sub (.var 1) (.con (.int 1))) (.cons (.con (.int 0)) (.cons (.con (.int 1)) (.cons (.neg (.con (.int 1))) (.cons (.con (.int 12)) (.cons (.con (.bl true)) (.cons (.con .non) (.cons (.bi .strn (.cons (.var 1) .nil)) (.cons (.bin .pow (.con (.int 10)) (.con (.int 30))) (.cons (.con (.bl false)) .nil)))))))))))) (.call 18 (.cons (.take 0) (.cons (.con (.int 11)) .nil))))) .nil) .nil) (.cons (.asg 2 (.lst (.cons (.con (.str "")) (.cons (.con (.str "n")) (.cons (.con (.str "a")) (.cons (.con (.str "b")) (.cons (.con (.str "c")) (.cons (.con (.str "N")) (.cons (.con (.str "abcdefghi")) (.cons (.con .non) (.cons (.tup .nil) (.cons (.tup (.cons (.con (.int 0)) .nil)) (.cons (.tup (.cons (.con (.int 0)) (.cons (.con (.int 0)) .nil))) (.cons (.lst (.cons (.con (.int 0)) .nil)) (.cons (.tup (.cons (.tup (.cons (.con (.str "n")) .nil)) (.cons (.tup .nil) .nil))) (.cons (.tup (.cons (.con (.str "a")) (.cons (.tup .nil) (.cons (.tup .nil) .nil)))) (.cons (.con (.int 7)) (.cons (.con (.bl true)) .nil)))))))))))))))))) (.cons (.ret (.ix (.var 2) (.call 18 (.cons (.take 0) (.cons (.con (.int 16)) .nil))))) .nil)))
theorem bent_leaf {L B W m k : Nat} (hL : 3 ≤ L) (hB : 10 ^ 30 ≤ B) (hB2 : B + 1 < 10 ^ 35) {v : D} (h : Nr L B W m v) (hs : Loom s) {x2 x3 x4 : Sl} {Q : Fl → Sto → Prop} (q : ∀ r s', Nr (L + 1) (B + 1) (2 * W + 130) (m + 2) r → Loom s' → Q (.rt r) s') :
    wp (exs (R (k + 1)) 100 bentL
      [.val (.cell 1), .val v, x2, x3, x4]) s Q := by
  have odd : ∀ s1, Loom s1 → wp (R (k + 1) 18 [.cell 1, .int 16]) s1 fun d s => ov (ixD (.lst oddsD) d) fun z => Q (.rt z) s := fun s1 h1 => by
    refine sp_draw (n := k) (m := 16) (by decide) (by decide) h1 fun r s2 hr h2 => ?_
    have hr' : r < oddsD.length := hr
    have e : ixD (.lst oddsD) (.int (r : Int)) = some oddsD[r] := ix_lst (by simp [hr'])
    rw [ov_eq e]
    exact q _ s2 (odds_nr (by omega) (by omega) (by omega) (by omega) _ (List.getElem_mem hr')) h2
  have p30 : powD (.int 10) (.int 30) = some (.int (10 ^ 30)) := pow_intC (by decide)
  cases v with
  | int i =>
    have hi : i.natAbs ≤ B := by simpa [D.lv] using h.v
    obtain ⟨z, ez, lz, cz⟩ := str_int (i := i) (by omega)
    simp [bentL, p30, ez]
    refine sp_draw (n := k) (m := 11) (by decide) (by decide) hs fun r s2 hr h2 => ?_
    have all : ∀ d ∈ [D.int (i + 1), D.int (i - 1), D.int 0, D.int 1, D.int (-1), D.int 12, D.bl true, D.non, D.str z, D.int 1000000000000000000000000000000, D.bl false], Nr (L + 1) (B + 1) (2 * W + 130) (m + 2) d := fun d md => by
      have ii : ∀ j : Int, j.natAbs ≤ B + 1 → Nr (L + 1) (B + 1) (2 * W + 130) (m + 2) (.int j) := fun j hj => int_nr hj hB2 (by omega)
      simp only [List.mem_cons, List.not_mem_nil, or_false] at md
      rcases md with rfl | rfl | rfl | rfl | rfl | rfl | rfl | rfl | rfl | rfl | rfl
      · exact ii _ (by omega)
      · exact ii _ (by omega)
      · exact ii _ (by omega)
      · exact ii _ (by omega)
      · exact ii _ (by omega)
      · exact ii _ (by omega)
      · exact ⟨rfl, rfl, Nat.zero_le _⟩
      · exact ⟨rfl, rfl, Nat.zero_le _⟩
      · refine ⟨by simp [D.gl]; omega, cz, ?_⟩
        show z.cps.size ≤ _
        omega
      · exact ii _ (by omega)
      · exact ⟨rfl, rfl, Nat.zero_le _⟩
    have hl : r < [D.int (i + 1), D.int (i - 1), D.int 0, D.int 1, D.int (-1), D.int 12, D.bl true, D.non, D.str z, D.int 1000000000000000000000000000000, D.bl false].length := hr
    generalize [D.int (i + 1), D.int (i - 1), D.int 0, D.int 1, D.int (-1), D.int 12, D.bl true, D.non, D.str z, D.int 1000000000000000000000000000000, D.bl false] = ls at all hl ⊢
    have e : ixD (.lst ls) (.int (r : Int)) = some ls[r] := ix_lst (by simp [hl])
    rw [ov_eq e]
    exact q _ s2 (all _ (List.getElem_mem hl)) h2
  | dic a b => exact absurd h.g (by simp [D.gl])
  | cell a => exact absurd h.g (by simp [D.gl])
  | _ =>
    simp [bentL]
    exact odd s hs
def bentT : Sb := (.cons (.ife (.cmp .eq (.var 4) (.con (.int 0))) (.cons (.ret (.bin .add (.sl (.var 1) .no (.yes (.var 3))) (.sl (.var 1) (.yes (.bin .add (.var 3) (.con (.int 1)))) .no))) .nil) .nil) (.cons (.ife (.cmp .eq (.var 4) (.con (.int 1))) (.cons (.ret (.bin .add (.bin .add (.sl (.var 1) .no (.yes (.var 3))) (.sl (.var 1) (.yes (.var 3)) (.yes (.bin .add (.var 3) (.con (.int 1)))))) (.sl (.var 1) (.yes (.var 3)) .no))) .nil) .nil) (.cons (.ife (.cmp .eq (.var 4) (.con (.int 2))) (.cons (.ret (.tolst (.seq (.var 1)))) .nil) .nil) (.cons (.ife (.cmp .eq (.var 4) (.con (.int 3))) (.cons (.ret (.bin .add (.bin .add (.sl (.var 1) .no (.yes (.var 3))) (.sl (.var 1) (.yes (.bin .add (.var 3) (.con (.int 1)))) .no)) (.sl (.var 1) (.yes (.var 3)) (.yes (.bin .add (.var 3) (.con (.int 1))))))) .nil) .nil) (.cons (.ret (.bin .add (.bin .add (.sl (.var 1) .no (.yes (.var 3))) (.tup (.cons (.call 31 (.cons (.take 0) (.cons (.ix (.var 1) (.var 3)) .nil))) .nil))) (.sl (.var 1) (.yes (.bin .add (.var 3) (.con (.int 1)))) .no))) .nil)))))
theorem bent_tup {L B W m k : Nat} (hL : 3 ≤ L) (hL2 : L ≤ 500) {ds : List D} (h : Nr L B W (m + 1) (.tup ds)) {at_ : Nat} (ha : at_ < ds.length) {way : Nat} (hw : way < 12) (hs : Loom s) {x2 : Sl} {Q : Fl → Sto → Prop} (q : ∀ r s', Nr (L + 1) (B + 1) (2 * W + 130) (m + 3) r → Loom s' → Q (.rt r) s')
    (ih : ∀ (d : D), Nr L B W m d → ∀ (Q : D → Sto → Prop), (∀ r s', Nr (L + 1) (B + 1) (2 * wt d + 130) (m + 2) r → Loom s' → Q r s') → wp (R k 31 [.cell 1, d]) s Q) :
    wp (exs (R k) 100 bentT [.val (.cell 1), .val (.tup ds), x2, .val (.int (at_ : Int)), .val (.int (way : Int))]) s Q := by
  have hl := (gl_tup.mp h.g).1
  have hw2 : wts ds ≤ W := by rw [← wt_tup]; exact h.w
  have sp := wts_split at_ (ds := ds)
  have gd : ∀ d ∈ ds, d.gl (L + 1) (m + 2) = true ∧ d.lv (B + 1) = true := fun d md => by
    have := h.tup_mem md
    exact ⟨gl_mono (by omega) d m (m + 2) (by omega) this.g, lv_more (by omega) d this.v⟩
  have ed : ds.drop at_ = ds[at_] :: ds.drop (at_ + 1) := List.drop_eq_getElem_cons ha
  have wd : wts (ds.drop at_) = wt ds[at_] + 1 + wts (ds.drop (at_ + 1)) := by rw [ed, wts]
  have c1 : cut ds none (some (at_ : Int)) = ds.take at_ := cut_take (by omega)
  have c2 : cut ds (some ((at_ : Int) + 1)) none = ds.drop (at_ + 1) := by
    rw [cut_drop (by omega)]
    congr 1
  have c3 : cut ds (some (at_ : Int)) none = ds.drop at_ := cut_drop (by omega)
  have c4 : cut ds (some (at_ : Int)) (some ((at_ : Int) + 1)) = [ds[at_]] := by
    rw [cut_mid ha, ed]
    rfl
  have lt : (ds.take at_).length = at_ := by rw [List.length_take]; omega
  have ld : (ds.drop at_).length = ds.length - at_ := List.length_drop
  have ld1 : (ds.drop (at_ + 1)).length = ds.length - (at_ + 1) := List.length_drop
  have mt : ∀ d ∈ ds.take at_, d ∈ ds := fun d m => List.mem_of_mem_take m
  have md : ∀ d ∈ ds.drop at_, d ∈ ds := fun d m => List.mem_of_mem_drop m
  have md1 : ∀ d ∈ ds.drop (at_ + 1), d ∈ ds := fun d m => List.mem_of_mem_drop m
  have mm : ds[at_] ∈ ds := List.getElem_mem ha
  have at2 : ∀ {a b : List D}, a.length + b.length ≤ 2000 → addD (.tup a) (.tup b) = some (.tup (a ++ b)) := fun h => add_tup (by rw [LIM_val]; omega)
  have ex : ixD (.tup ds) (.int (at_ : Int)) = some ds[at_] := ix_tup (by simp [ha])
  generalize ds[at_] = x at wd c4 mm ih ed ex ⊢
  generalize ds.take at_ = A at *
  generalize ds.drop at_ = C at *
  generalize ds.drop (at_ + 1) = E at *
  have ga : ∀ {a b : List D}, (∀ d ∈ a, d ∈ ds) → (∀ d ∈ b, d ∈ ds) → ∀ d ∈ a ++ b, d.gl (L + 1) (m + 2) = true ∧ d.lv (B + 1) = true := fun ha hb d md => by
    rcases List.mem_append.mp md with m | m
    · exact gd d (ha d m)
    · exact gd d (hb d m)
  have mx : ∀ d ∈ [x], d ∈ ds := fun d m => by
    simp at m
    subst m
    exact mm
  have sub2 : ∀ {a b : List D}, (∀ d ∈ a, d ∈ ds) → (∀ d ∈ b, d ∈ ds) → ∀ d ∈ a ++ b, d ∈ ds := fun ha hb d md => by
    rcases List.mem_append.mp md with m | m
    · exact ha d m
    · exact hb d m
  by_cases w0 : way = 0
  · subst w0
    simp [bentT, c1, c2]
    rw [ov_eq (at2 (by omega))]
    exact q _ s (Nr.tup_of (by rw [List.length_append]; omega) (ga mt md1) (by rw [wts_app]; omega)) hs
  by_cases w1 : way = 1
  · subst w1
    simp [bentT, c1, c3, c4]
    rw [ov_eq (at2 (by simp only [List.length_singleton]; omega)), wp_see_tup, ov_eq (at2 (by rw [List.length_append, List.length_singleton]; omega))]
    exact q _ s (Nr.tup_of (by rw [List.length_append, List.length_append, List.length_singleton]; omega) (ga (sub2 mt mx) md) (by rw [wts_app, wts_app]; simp only [wts]; omega)) hs
  by_cases w2 : way = 2
  · subst w2
    simp [bentT]
    exact q _ s (Nr.lst_of (by omega) (fun d m => gd d m) (by omega)) hs
  by_cases w3 : way = 3
  · subst w3
    simp [bentT, c1, c2, c4]
    rw [ov_eq (at2 (by omega)), wp_see_tup, ov_eq (at2 (by rw [List.length_append, List.length_singleton]; omega))]
    exact q _ s (Nr.tup_of (by rw [List.length_append, List.length_append, List.length_singleton]; omega) (ga (sub2 mt md1) mx) (by rw [wts_app, wts_app]; simp only [wts]; omega)) hs
  · have v0 : ¬ (way : Int) = 0 := by omega
    have v1 : ¬ (way : Int) = 1 := by omega
    have v2 : ¬ (way : Int) = 2 := by omega
    have v3 : ¬ (way : Int) = 3 := by omega
    simp [bentT, w0, w1, w2, w3, v0, v1, v2, v3, c1, c2]
    rw [ov_eq ex]
    refine ih x (h.tup_mem mm) _ fun r s1 hr h1 => ?_
    rw [ov_eq (at2 (by simp only [List.length_singleton]; omega)), wp_see_tup, ov_eq (at2 (by rw [List.length_append, List.length_singleton]; omega))]
    have wr := hr.w
    have wx := wts_mem mm
    refine q _ s1 (Nr.tup_of (by rw [List.length_append, List.length_append, List.length_singleton]; omega) (fun d md => ?_) (by rw [wts_app, wts_app]; simp only [wts]; omega)) h1
    rcases List.mem_append.mp md with m | m
    · rcases List.mem_append.mp m with m | m
      · exact gd d (mt d m)
      · simp at m
        subst m
        exact ⟨hr.g, hr.v⟩
    · exact gd d (md1 d m)
def bentC : E := (.and (.isi (.var 1) [.tup]) (.and (.cmp .ne (.var 1) (.tup .nil)) (.cmp .gt (.call 18 (.cons (.take 0) (.cons (.con (.int 7)) .nil))) (.con (.int 0)))))
def bentP : Sm := (.par [(3, false), (4, false)] (.cons (.call 18 (.cons (.take 0) (.cons (.bi .len (.cons (.var 1) .nil)) .nil))) (.cons (.call 18 (.cons (.take 0) (.cons (.con (.int 12)) .nil))) .nil)))
theorem bent_eq : bd__law_bent = .cons (.ife bentC (.cons bentP bentT) .nil) bentL := rfl
theorem bent_no {v : D} {k : Nat} (pv : v.plain = true) (h : ∀ ds, v = .tup ds → ds = []) {x2 x3 x4 : Sl} {Q : D → Sto → Prop} : wp (ev (R k) bentC [.val (.cell 1), .val v, x2, x3, x4]) s Q = Q (.bl false) s := by
  cases v with
  | tup ds =>
    have := h ds rfl
    subst this
    have e : copD .ne (.tup []) (.tup []) = some false := rfl
    simp [bentC, e]
  | dic a b => simp [bentC, tyD]
  | cell a => exact absurd pv (by simp [D.plain, D.pl])
  | _ => simp [bentC, tyD]
theorem bent_yes {ds : List D} {k : Nat} (pv : (D.tup ds).plain = true) (h : ds ≠ []) (hs : Loom s) {x2 x3 x4 : Sl} {Q : D → Sto → Prop} (q : ∀ b s', Loom s' → Q (.bl b) s') : wp (ev (R (k + 1)) bentC [.val (.cell 1), .val (.tup ds), x2, x3, x4]) s Q := by
  have e : copD .ne (.tup ds) (.tup []) = some true := by
    rw [cop_ne pv rfl, eqv_tup, eqv_nil_r]
    cases ds with
    | nil => exact absurd rfl h
    | cons x ds => rfl
  simp [bentC, e]
  refine sp_draw (n := k) (m := 7) (by decide) (by decide) hs fun r s1 hr h1 => ?_
  simp
  exact q _ s1 h1
theorem sp_bent {L B : Nat} (hL : 3 ≤ L) (hL2 : L ≤ 500) (hB : 10 ^ 30 ≤ B) (hB2 : B + 1 < 10 ^ 35) : ∀ (m : Nat) {n W : Nat} {v : D} {s : Sto} {Q : D → Sto → Prop}, Nr L B W m v → m ≤ 16 → Loom s → (∀ r s', Nr (L + 1) (B + 1) (2 * W + 130) (m + 2) r → Loom s' → Q r s') → wp (R (n + m + 2) 31 [.cell 1, v]) s Q := by
  intro m
  induction m with
  | zero =>
    intro n W v s Q h hm hs q
    have pv : v.plain = true := gl_pl v 0 40 (by decide) h.g
    rw [R, wp_run T__law_bent rfl, bent_eq, wp_exs_cons, wp_ife]
    have e0 : startE ⟨2, 5, .cons (.ife bentC (.cons bentP bentT) .nil) bentL⟩ [.cell 1, v] = [.val (.cell 1), .val v, .no, .no, .no] := rfl
    rw [e0, bent_no pv (fun ds e => by
      subst e
      exact absurd h.g (by simp [D.gl])), tru_bl, if_neg (by simp), wp_exs_nil, flk_nx]
    exact bent_leaf (k := n) hL hB hB2 h hs fun r s' hr h' => q r s' hr h'
  | succ m ih =>
    intro n W v s Q h hm hs q
    have pv : v.plain = true := gl_pl v (m + 1) 40 (by omega) h.g
    rw [R, wp_run T__law_bent rfl, bent_eq, wp_exs_cons, wp_ife]
    have e0 : startE ⟨2, 5, .cons (.ife bentC (.cons bentP bentT) .nil) bentL⟩ [.cell 1, v] = [.val (.cell 1), .val v, .no, .no, .no] := rfl
    rw [e0]
    by_cases c : ∃ ds, v = .tup ds ∧ ds ≠ []
    · obtain ⟨ds, rfl, ne⟩ := c
      have pos : 0 < ds.length := List.length_pos_iff.mpr ne
      have hl := (gl_tup.mp h.g).1
      refine bent_yes (k := n + m + 1) pv ne hs fun b s1 h1 => ?_
      cases b
      · rw [tru_bl, if_neg (by simp), wp_exs_nil, flk_nx]
        exact bent_leaf (k := n + m + 1) hL hB hB2 h h1 fun r s' hr h' => q r s' hr h'
      · rw [tru_bl, if_pos rfl, wp_exs_cons]
        have go : ∀ (R1 : Fl → Sto → Prop), (∀ a w s2, a < ds.length → w < 12 → Loom s2 → R1 (.nx [.val (.cell 1), .val (.tup ds), .no, .val (.int ((a : Nat) : Int)), .val (.int ((w : Nat) : Int))]) s2) → wp (ex (R (n + m + 2)) 100 bentP [.val (.cell 1), .val (.tup ds), .no, .no, .no]) s1 R1 := fun R1 hR => by
          simp [bentP]
          refine sp_draw (n := n + m + 1) pos (by omega) h1 fun a s2 ha h2 => ?_
          refine sp_draw (n := n + m + 1) (m := 12) (by decide) (by decide) h2 fun w s3 hw h3 => ?_
          try simp
          exact hR a w s3 ha hw h3
        refine go _ fun a w s2 ha hw h2 => ?_
        rw [flk_nx]
        refine bent_tup (k := n + m + 2) (x2 := .no) hL hL2 h ha hw h2 (fun r s' hr h' => ?_) fun d hd Q q => ?_
        · exact q r s' hr h'
        · exact ih (n := n) (W := wt d) ⟨hd.g, hd.v, Nat.le_refl _⟩ (by omega) h2 q
    · rw [bent_no pv (fun ds e => Decidable.byContradiction fun ne => c ⟨ds, e, ne⟩), tru_bl, if_neg (by simp), wp_exs_nil, flk_nx]
      exact bent_leaf (k := n + m + 1) hL hB hB2 h hs fun r s' hr h' => q r s' hr h'
end Lw


set_option Elab.async false
set_option linter.all false
set_option maxRecDepth 100000
set_option maxHeartbeats 2000000
namespace Ev
open PySem
theorem eqv_sort {t u : Sort3} : D.eqv (sortD t) (sortD u) = decide (t = u) := by
  obtain ⟨a, b, c⟩ := t
  obtain ⟨a', b', c'⟩ := u
  rw [Bool.eq_iff_iff]
  simp [sortD, Prod.ext_iff]
theorem plain_sort {t : Sort3} : (sortD t).plain = true := by
  have a : ∀ (zs : List Str) (n : Nat), D.pls (zs.map .str) n = true := fun zs n => pls_map fun _ _ => rfl
  show D.pl (sortD t) 40 = true
  unfold sortD
  simp [D.pl, D.pls, a]
theorem pls_sorts {st : List Sort3} {n : Nat} (h : 2 ≤ n) : D.pls (st.map sortD) n = true := pls_map fun t _ => by
  have a : ∀ (zs : List Str) (n : Nat), D.pls (zs.map .str) n = true := fun zs n => pls_map fun _ _ => rfl
  match n, h with
  | n + 2, _ => simp [sortD, D.pl, D.pls, a]
theorem inD_stock {st : List Sort3} {t : Sort3} : inD (sortD t) (stockD st) = some (decide (t ∈ st)) := by
  show (if (sortD t).plain && D.plains (st.map sortD) then some ((st.map sortD).any fun y => D.eqv y (sortD t)) else none) = _
  rw [plain_sort, show D.plains (st.map sortD) = true from pls_sorts (n := 40) (by decide)]
  simp only [Bool.and_self, if_true]
  congr 1
  rw [Bool.eq_iff_iff, List.any_eq_true, decide_eq_true_eq]
  constructor
  · rintro ⟨d, md, e⟩
    obtain ⟨u, mu, rfl⟩ := List.mem_map.mp md
    rw [eqv_sort, decide_eq_true_eq] at e
    exact e ▸ mu
  · intro m
    exact ⟨sortD t, List.mem_map_of_mem m, by rw [eqv_sort]; simp⟩
theorem right_mem {st : List Sort3} (o : okStock st) {ws : List Str} {z : Str} {a b : List Nat} (ia : ∀ i ∈ a, i < ws.length) (ib : ∀ i ∈ b, i < ws.length) : boxRight st ws (.tup [.str z, .tup (natsD a), .tup (natsD b)]) = decide ((z, kindsAt ws a, kindsAt ws b) ∈ st) := by
  rw [boxRight_form o ia ib]
  generalize kindsAt ws a = a
  generalize kindsAt ws b = b
  cases h : st.find? fun t => t.1 == z with
  | none =>
    symm
    rw [decide_eq_false_iff_not]
    intro m
    have := List.find?_eq_none.mp h _ m
    simp at this
  | some t =>
    obtain ⟨mt, e⟩ : t ∈ st ∧ t.1 = z := ⟨List.mem_of_find?_eq_some h, by simpa using List.find?_some h⟩
    rw [Bool.eq_iff_iff]
    simp only [Bool.and_eq_true, decide_eq_true_eq]
    constructor
    · rintro ⟨rfl, rfl⟩
      have : t = (z, t.2.1, t.2.2) := by rw [← e]
      rw [← this]
      exact mt
    · intro m
      have f := find_word m o.2.2.2
      have f' : (st.find? fun u => u.1 == z) = some (z, a, b) := f
      rw [h] at f'
      cases f'
      exact ⟨rfl, rfl⟩
def dAt (ds : List D) (j : Nat) : D := ds.getD j .non
theorem dAt_get {ds : List D} {j : Nat} (h : j < ds.length) : ds[j]? = some (dAt ds j) := by simp [dAt, List.getD_eq_getElem?_getD, List.getElem?_eq_getElem h]
theorem form_ix {m : Nat} {w a b : D} (h : hasForm m (.tup [w, a, b]) = true) : areIx m a = true ∧ areIx m b = true := by
  unfold hasForm at h
  split at h
  · rename_i e
    cases e
    simp only [Bool.and_eq_true] at h
    exact ⟨h.1.1.1.2, h.1.1.2⟩
  · cases h
theorem form_three {m : Nat} {d : D} (h : hasForm m d = true) : isTup 3 d = true := by
  unfold hasForm at h
  split at h
  · rfl
  · cases h
theorem badsI_range {p : D → Bool} : ∀ {ds : List D} {k : Nat}, badsI p k ds = ((List.range ds.length).filter fun j => !p (dAt ds j)).map (k + ·)
  | [], k => rfl
  | d :: ds, k => by
    rw [badsI, badsI_range, List.length_cons, List.range_succ_eq_map, List.filter_cons, List.filter_map]
    have e : ((fun j => !p (dAt (d :: ds) j)) ∘ Nat.succ) = fun j => !p (dAt ds j) := by
      funext j
      simp [dAt]
    have e2 : ((k + ·) ∘ Nat.succ) = (k + 1 + ·) := by
      funext j
      simp only [Function.comp]
      omega
    have e3 : (!p (dAt (d :: ds) 0)) = !p d := rfl
    rw [e, e3]
    by_cases c : p d = true
    · simp only [c, if_true, Bool.not_true, Bool.false_eq_true, if_false, List.map_map, e2]
    · have c' : p d = false := by simpa using c
      simp only [c', Bool.false_eq_true, if_false, Bool.not_false, if_true, List.map_cons, List.map_map, e2, Nat.add_zero]
end Ev
namespace Lw
open PySem Ev
variable {n : Nat} {s : Sto} {Q : D → Sto → Prop}
theorem sp_lis_word {d : D} (g : G d) : wp (R (n + 1) 26 [d]) s Q = Q (.bl (isWord d)) s := by
  rw [R, wp_run T__law_is_word rfl]
  simp [bd__law_is_word, startE]
  cases d <;> simp [tyD, isWord]
  rename_i z
  have := g.str
  rw [ov_eq (len_str (by rw [LIM_val]; omega))]
  simp
  unfold isWordS
  by_cases h1 : 1 ≤ z.cps.size
  · rw [if_neg (show ¬ (z.cps.size : Int) < 1 by omega), ov_eq (len_str (by rw [LIM_val]; omega)), wp_see_int]
    by_cases h2 : z.cps.size ≤ 8
    · have c : copD .gt (.int (z.cps.size : Int)) (.int 8) = some false := by
        simp
        omega
      rw [ov_eq c, if_neg (by simp), ov_eq (it_str (by rw [LIM_val]; omega))]
      rw [wp_compL_filterf (h := fun c => D.str ⟨#[c]⟩) (g := fun c => D.str ⟨#[c]⟩) (p := fun c => !decide (c ∈ letters.cps.toList))]
      · have e : copD .eq (.lst ((z.cps.toList.filter fun c => !decide (c ∈ letters.cps.toList)).map fun c => D.str ⟨#[c]⟩)) (.lst []) = some (z.cps.toList.all fun c => decide (c ∈ letters.cps.toList)) := by
          have p : (D.lst ((z.cps.toList.filter fun c => !decide (c ∈ letters.cps.toList)).map fun c => D.str ⟨#[c]⟩)).plain = true := pls_map fun _ _ => rfl
          rw [cop_eq p rfl]
          generalize z.cps.toList = l
          induction l with
          | nil => rfl
          | cons x l ih =>
            rw [List.filter_cons, List.all_cons]
            by_cases hx : x ∈ letters.cps.toList
            · simpa [hx] using ih
            · simp [hx]
        rw [ov_eq e]
        simp [h1, h2]
      · intro c _ Q
        have el : letters = Str.ofString "abcdefghijklmnopqrstuvwxyz" := rfl
        rw [el]
        simp
        by_cases hc : c ∈ (Str.ofString "abcdefghijklmnopqrstuvwxyz").cps <;> simp [hc]
    · have c : copD .gt (.int (z.cps.size : Int)) (.int 8) = some true := by
        simp
        omega
      rw [ov_eq c, if_pos rfl]
      simp [h2]
  · rw [if_pos (by omega)]
    simp [h1]
theorem sp_are_idx {d : D} {m : Nat} : wp (R (n + 1) 27 [d, .int (m : Int)]) s Q = Q (.bl (areIx m d)) s := by
  rw [R, wp_run T__law_are_indexes rfl]
  simp [bd__law_are_indexes, startE]
  cases d <;> simp [tyD, areIx]
  rename_i ds
  rw [wp_compL_map (g := fun e => .bl (isBet 0 e ((m : Int) - 1)))]
  · have e : (ds.map fun e => D.bl (isBet 0 e ((m : Int) - 1))) = (ds.map fun e => isBet 0 e ((m : Int) - 1)).map .bl := by rw [List.map_map]; rfl
    have e2 : allD (.lst (ds.map fun e => D.bl (isBet 0 e ((m : Int) - 1)))) = some (.bl (ds.all fun e => isBet 0 e ((m : Int) - 1))) := by simp
    rw [ov_eq e2]
  · intro e me Q
    cases e <;> simp [tyD, isBet]
    rename_i i
    by_cases h0 : 0 ≤ i
    · have e : decide (i < (m : Int)) = decide (i ≤ (m : Int) - 1) := by
        rw [Bool.eq_iff_iff]
        simp only [decide_eq_true_eq]
        omega
      simp [h0, e]
    · simp [h0]
theorem sp_first {p : D → Bool} {ds : List D} (hl : ds.length ≤ 10000) {side : Int} : wp (R (n + 1) 29 [.lst (ds.map fun d => .bl (p d)), .int side]) s Q = Q (placeD side (firstBad p 0 ds) .non) s := by
  have lz : (ds.length : Int) < LIM := by rw [LIM_val]; omega
  rw [R, wp_run T__law_first rfl]
  simp [bd__law_first, startE, lz]
  rw [range_nats, wp_compL_natsF (p := fun j => !p (dAt ds j)) (g := fun j => .int (j : Int))]
  · have e : ((List.range ds.length).filter fun j => !p (dAt ds j)).map (fun (j : Nat) => D.int (j : Int)) = natsD (badsI p 0 ds) := by
      rw [badsI_range]
      simp [natsD]
    rw [e]
    rcases fb_cases p 0 ds with h | ⟨k, h⟩
    · simp [bads_nil h, h]
    · obtain ⟨r, e⟩ := firstBad_get h
      simp [e, h]
  · intro j mj Q
    have hj := List.mem_range.mp mj
    have e : ixD (.lst (ds.map fun d => D.bl (p d))) (.int (j : Int)) = some (.bl (p (dAt ds j))) := ix_lst (by simp [dAt_get hj])
    simp [e]
    cases p (dAt ds j) <;> simp
theorem sp_fits {st : List Sort3} (o : okStock st) {ws : List Str} (lw : ws.length ≤ 1000) {d : D} (g : G d) : wp (R (n + 2) 28 [.tup (ws.map .str), stockD st, d]) s Q = Q (.bl (boxRight st ws d)) s := by
  have ek : ∀ is : List Nat, is.map (fun k => D.str (atS ws k)) = (kindsAt ws is).map .str := fun is => by
    unfold kindsAt
    rw [List.map_map]
    rfl
  rw [R, wp_run T__law_box_fits rfl]
  simp [bd__law_box_fits, startE]
  by_cases c3 : isTup 3 d = true
  · obtain ⟨w, a, b, rfl⟩ := isTup3 c3
    simp [tyD]
    cases w with
    | str z =>
      simp [tyD, sp_are_idx]
      by_cases ka : areIx ws.length a = true
      · by_cases kb : areIx ws.length b = true
        · obtain ⟨a, rfl, ia⟩ := ix_of ka
          obtain ⟨b, rfl, ib⟩ := ix_of kb
          simp [ka, kb]
          rw [wp_compL_nats (g := fun k => .str (atS ws k)) (fun i mi Q => by simp [ix_strs (ia i mi)])]
          try simp
          rw [wp_compL_nats (g := fun k => .str (atS ws k)) (fun i mi Q => by simp [ix_strs (ib i mi)])]
          rw [ek, ek]
          have ea : addD (.tup [.str z]) (.tup [.tup ((kindsAt ws a).map .str), .tup ((kindsAt ws b).map .str)]) = some (sortD (z, kindsAt ws a, kindsAt ws b)) := by
            rw [add_tup (by rw [LIM_val]; simp)]
            rfl
          have sees : wp (seeD (sortD (z, kindsAt ws a, kindsAt ws b))) s (fun x s => ov (inD x (stockD st)) fun z => Q (D.bl z) s) = ov (inD (sortD (z, kindsAt ws a, kindsAt ws b)) (stockD st)) fun z => Q (D.bl z) s := wp_see_tup
          rw [ov_eq ea, sees, ov_eq inD_stock, right_mem o ia ib]
        · have kb' : areIx ws.length b = false := by simpa using kb
          simp [ka, kb']
          rw [boxRight_noform o (by
            rw [← Bool.not_eq_true]
            exact fun h => kb (form_ix h).2)]
      · have ka' : areIx ws.length a = false := by simpa using ka
        simp [ka']
        rw [boxRight_noform o (by
          rw [← Bool.not_eq_true]
          exact fun h => ka (form_ix h).1)]
    | _ => simp [tyD, boxRight]
  · have c3' : isTup 3 d = false := by simpa using c3
    have br : boxRight st ws d = false := boxRight_noform o (by
      rw [← Bool.not_eq_true]
      exact fun h => c3 (form_three h))
    rw [br]
    cases d with
    | tup ds =>
      have hl := (gl_tup.mp (show (D.tup ds).gl 1000 (29 + 1) = true from g)).1
      have ne : ¬ (ds.length : Int) = 3 := by
        intro e
        apply c3
        show ((ds.length : Int) == 3) = true
        simpa using e
      simp [tyD, ne]
    | _ => simp [tyD]
end Lw


set_option Elab.async false
set_option linter.all false
set_option maxRecDepth 100000
set_option maxHeartbeats 2000000
namespace Ev
open PySem
def endStep (zs : List Str) (side : Int) (v f : D) : D := if isNon f = true then endsF zs side v .non else f
theorem endsF_or {zs : List Str} {side : Int} {v x : D} : endsF zs side v x = if isNon (endsF zs side v .non) = true then x else endsF zs side v .non := by
  cases v with
  | tup es =>
    have e : ∀ y, endsF zs side (.tup es) y = placeD side (firstBad (fun e => isBet 0 e (zs.length - 1)) 0 es) y := fun _ => rfl
    simp only [e]
    generalize firstBad (fun e => isBet 0 e (zs.length - 1)) 0 es = o
    cases o <;> rfl
  | _ => rfl
theorem ends_two {zs : List Str} {l r : D} : endStep zs 3 r (endStep zs 2 l .non) = endsF zs 2 l (endsF zs 3 r .non) := by
  rw [endsF_or (v := l)]
  rfl
theorem ends_stay {zs : List Str} {l r f : D} (h : isNon f = false) : endStep zs 3 r (endStep zs 2 l f) = f := by
  have e : endStep zs 2 l f = f := by unfold endStep; rw [h]; rfl
  rw [e]
  unfold endStep
  rw [h]
  rfl
end Ev
namespace Lw
open PySem Ev
variable {n : Nat} {s : Sto} {Q : D → Sto → Prop}
theorem place_step {zs : List Str} (lz : zs.length ≤ 1000) {v f : D} (gv : G v) {side : Int} {x0 x1 x3 x4 x5 x7 x8 x9 x10 x11 : Sl} {Q : Fl → Sto → Prop} (q : ∀ x7 x8 x11, Q (.nx [x0, x1, .val (.tup (zs.map .str)), x3, x4, x5, .val (endStep zs side v f), x7, x8, x9, x10, x11]) s) :
    wp (forB (R (n + 2)) 100 [7, 8] true lp__law_place_0 (.tup [.int side, v]) [x0, x1, .val (.tup (zs.map .str)), x3, x4, x5, .val f, x7, x8, x9, x10, x11]) s Q := by
  by_cases hf : isNon f = true
  · have e : endStep zs side v f = endsF zs side v .non := by unfold endStep; rw [if_pos hf]
    rw [e] at q
    simp [lp__law_place_0, putAll, hf]
    cases v with
    | tup es =>
      have hl := (gl_tup.mp (show (D.tup es).gl 1000 (29 + 1) = true from gv)).1
      simp [tyD]
      rw [wp_compL_map (g := fun e => .bl (isBet 0 e ((zs.length : Int) - 1)))]
      · try simp
        rw [sp_first (p := fun e => isBet 0 e ((zs.length : Int) - 1)) (by omega)]
        exact q _ _ _
      · intro e me Q
        simp [sp_are_idx, areIx]
    | _ =>
      simp [tyD]
      exact q _ _ _
  · have hf' : isNon f = false := by simpa using hf
    have e : endStep zs side v f = f := by unfold endStep; rw [if_neg hf]
    rw [e] at q
    simp [lp__law_place_0, putAll, hf']
    exact q _ _ _
theorem sp_place {st : List Sort3} (o : okStock st) {d : D} (g : G d) : wp (R (n + 4) 30 [stockD st, d]) s Q = Q (webF st d) s := by
  refine wp_det fun Q q => ?_
  rw [R, wp_run T__law_place rfl]
  simp [bd__law_place, startE]
  by_cases c : isTup 4 d = true
  · obtain ⟨w, b, l, r, rfl⟩ := isTup4 c
    have g1 := g.tup w (by simp)
    have g2 := g.tup b (by simp)
    have g3 := g.tup l (by simp)
    have g4 := g.tup r (by simp)
    simp [tyD, putAll]
    cases w with
    | tup ws =>
      have lw := (gl_tup.mp (show (D.tup ws).gl 1000 (29 + 1) = true from g1)).1
      simp [tyD]
      rw [wp_compL_map (g := fun e => .bl (isWord e)) (fun e me Q => by simp [sp_lis_word (g1.tup e me)])]
      try simp
      rw [sp_first (p := isWord) (by omega)]
      rcases fb_cases isWord 0 ws with h | ⟨k, h⟩
      · obtain ⟨zs, rfl, hz⟩ := firstBad_words h
        rw [List.length_map] at lw
        simp [h]
        cases b with
        | tup bs =>
          have lb := (gl_tup.mp (show (D.tup bs).gl 1000 (29 + 1) = true from g2)).1
          simp [tyD]
          rw [wp_compL_map (g := fun e => .bl (boxRight st zs e)) (fun e me Q => by simp [sp_fits o lw (g2.tup e me)])]
          try simp
          rw [sp_first (p := boxRight st zs) (by omega), wp_forL_cons]
          refine place_step (n := n + 1) lw g3 fun x7 x8 x11 => ?_
          rw [lpk_nx, wp_forL_cons]
          refine place_step (n := n + 1) lw g4 fun x7 x8 x11 => ?_
          rw [lpk_nx, wp_forL_nil]
          have ew : webF st (.tup [.tup (zs.map .str), .tup bs, l, r]) = placeD 1 (firstBad (boxRight st zs) 0 bs) (endsF zs 2 l (endsF zs 3 r .non)) := by
            show placeD 0 (firstBad isWord 0 (zs.map .str)) (placeD 1 (firstBad (boxRight st (strsOf (zs.map .str))) 0 bs) (endsF (strsOf (zs.map .str)) 2 l (endsF (strsOf (zs.map .str)) 3 r .non))) = _
            rw [h, strsOf_map]
            rfl
          rw [ew] at q
          simp
          rcases fb_cases (boxRight st zs) 0 bs with h2 | ⟨k, h2⟩
          · rw [h2] at q ⊢
            rw [placeD_none] at q ⊢
            rw [ends_two]
            exact q
          · rw [h2] at q ⊢
            rw [placeD_some] at q ⊢
            rw [ends_stay rfl]
            exact q
        | _ =>
          simp [webF, h] at q
          simp [tyD]
          exact q
      · have ew : webF st (.tup [.tup ws, b, l, r]) = .tup [.int 0, .int (k : Int)] := by
          show placeD 0 (firstBad isWord 0 ws) _ = _
          rw [h]
          rfl
        rw [ew] at q
        simp [h]
        exact q
    | _ =>
      simp [tyD]
      exact q
  · have c' : isTup 4 d = false := by simpa using c
    have ew : webF st d = .tup [] := by
      unfold webF
      split
      · exact absurd rfl c
      · rfl
    rw [ew] at q
    cases d with
    | tup ds =>
      have hl := (gl_tup.mp (show (D.tup ds).gl 1000 (29 + 1) = true from g)).1
      have ne : ¬ (ds.length : Int) = 4 := by
        intro e
        apply c
        show ((ds.length : Int) == 4) = true
        simpa using e
      simp [tyD, ne]
      exact q
    | _ =>
      simp [tyD]
      exact q
end Lw


set_option Elab.async false
set_option linter.all false
set_option maxRecDepth 100000
set_option maxHeartbeats 2000000
namespace Ev
open PySem
theorem place_gl {side : Int} {o : Option Nat} {d : D} (h : d.gl 10 1 = true) : (placeD side o d).gl 10 1 = true := by
  cases o with
  | none => exact h
  | some k => rfl
theorem endsF_gl {zs : List Str} {side : Int} {v d : D} (h : d.gl 10 1 = true) : (endsF zs side v d).gl 10 1 = true := by
  cases v with
  | tup es => exact place_gl h
  | _ => rfl
theorem webF_gl {st : List Sort3} {v : D} : (webF st v).gl 10 1 = true := by
  unfold webF
  split
  · rename_i w b l r
    cases w with
    | tup ws =>
      refine place_gl ?_
      cases b with
      | tup bs => exact place_gl (endsF_gl (endsF_gl rfl))
      | _ => rfl
    | _ => rfl
  · rfl
theorem gl_stockO {st : List Sort3} (o : okStock st) : (stockD st).gl 100 3 = true := by
  refine gl_tup.mpr ⟨by rw [List.length_map]; have := o.2.1; omega, fun d m => ?_⟩
  obtain ⟨t, mt, rfl⟩ := List.mem_map.mp m
  obtain ⟨t1, t2, t3⟩ := o.2.2.1 t mt
  have gw : ∀ {zs : List Str}, zs.length ≤ 4 → (∀ z ∈ zs, isWordS z = true) → (D.tup (zs.map .str)).gl 100 1 = true := fun hl hz => gl_tup.mpr ⟨by rw [List.length_map]; omega, fun d m => by
    obtain ⟨z, mz, rfl⟩ := List.mem_map.mp m
    have := hz z mz
    unfold isWordS at this
    simp only [Bool.and_eq_true, decide_eq_true_eq] at this
    simp [D.gl]
    omega⟩
  refine gl_tup.mpr ⟨by simp, fun d m => ?_⟩
  simp only [List.mem_cons, List.not_mem_nil, or_false] at m
  rcases m with rfl | rfl | rfl
  · unfold isWordS at t1
    simp only [Bool.and_eq_true, decide_eq_true_eq] at t1
    simp [D.gl]
    omega
  · exact gw t2.1 t2.2
  · exact gw t3.1 t3.2
theorem Nr.G {L B W m : Nat} {d : D} (h : Nr L B W m d) (l : L ≤ 1000) (k : m ≤ 30) : Ev.G d := gl_mono l d m 30 k h.g
theorem word_nr {L B m : Nat} {z : Str} (h : isWordS z = true) : Nr L B 8 m (.str z) := by
  unfold isWordS at h
  simp only [Bool.and_eq_true, decide_eq_true_eq, List.all_eq_true] at h
  have hl : ∀ c ∈ letters.cps.toList, c < 16 ^ 8 := by decide +kernel
  refine ⟨by simp [D.gl]; omega, ?_, ?_⟩
  · show z.cps.toList.all _ = true
    rw [List.all_eq_true]
    exact fun c m => decide_eq_true (hl c (h.2 c m))
  · show z.cps.size ≤ 8
    omega
theorem words_nr {L B m k : Nat} {zs : List Str} (h : ∀ z ∈ zs, isWordS z = true) (l : zs.length ≤ k) (hl : k ≤ L) : Nr L B (k * 9) (m + 1) (.tup (zs.map .str)) := by
  refine Nr.tup_of (by rw [List.length_map]; omega) (fun d md => ?_) ?_
  · obtain ⟨z, mz, rfl⟩ := List.mem_map.mp md
    exact ⟨(word_nr (L := L) (B := B) (m := m) (h z mz)).g, (word_nr (L := L) (B := B) (m := m) (h z mz)).v⟩
  · have := wts_le (W := 8) (ds := zs.map D.str) (fun d md => by
      obtain ⟨z, mz, rfl⟩ := List.mem_map.mp md
      exact (word_nr (L := L) (B := B) (m := m) (h z mz)).w)
    rw [List.length_map] at this
    exact Nat.le_trans this (Nat.mul_le_mul_right 9 l)
theorem nat_wt {i : Nat} (h : i < 1000) : wt (.int (i : Int)) ≤ 10 := by
  have hl : i.log2 ≤ 9 := by
    by_cases z : i = 0
    · subst z; decide
    · have := (Nat.log2_lt z).mpr (show i < 2 ^ 10 by omega)
      omega
  show PyData.weight (.int (i : Int)) ≤ 10
  rw [PyData.weight]
  simp only [Int.natAbs_natCast]
  split <;> omega
theorem nats_nr {L B m k : Nat} {is : List Nat} (h : ∀ i ∈ is, i < 1000) (hB : 1000 ≤ B) (l : is.length ≤ k) (hl : k ≤ L) : Nr L B (k * 11) (m + 1) (.tup (natsD is)) := by
  refine Nr.tup_of (by rw [natsD_len]; omega) (fun d md => ?_) ?_
  · obtain ⟨i, mi, rfl⟩ := List.mem_map.mp md
    have := h i mi
    exact ⟨rfl, by simp only [D.lv, decide_eq_true_eq, Int.natAbs_natCast]; omega⟩
  · have := wts_le (W := 10) (ds := natsD is) (fun d md => by
      obtain ⟨i, mi, rfl⟩ := List.mem_map.mp md
      exact nat_wt (h i mi))
    rw [natsD_len] at this
    exact Nat.le_trans this (Nat.mul_le_mul_right 11 l)
theorem sprWeb.nr {st : List Sort3} (o : okStock st) {w : Web3} (h : sprWeb st w) {B : Nat} (hB : 1000 ≤ B) : Nr 20 B 1300 4 (webD w) := by
  have l1 := h.ws
  have l2 := h.bs
  have lt : ∀ {is : List Nat}, (∀ i ∈ is, i < w.ws.length) → ∀ i ∈ is, i < 1000 := fun hi i m => by have := hi i m; omega
  have hz := (h.small o).z
  have a1 := words_nr (L := 20) (B := B) (m := 2) (k := 12) hz l1 (by decide)
  have a2 : Nr 20 B 1000 3 (.tup (w.bs.map boxD)) := by
    have each : ∀ b ∈ w.bs, Nr 20 B 99 2 (boxD b) := fun b mb => by
      obtain ⟨t, mt, e, k1, k2⟩ := h.b b mb
      obtain ⟨t1, t2, t3⟩ := o.2.2.1 t mt
      have b1 := word_nr (L := 20) (B := B) (m := 1) (e ▸ t1 : isWordS b.1 = true)
      have b2 := nats_nr (L := 20) (B := B) (m := 0) (k := 4) (lt k1.lt) hB (by rw [k1.len]; exact t2.1) (by decide)
      have b3 := nats_nr (L := 20) (B := B) (m := 0) (k := 4) (lt k2.lt) hB (by rw [k2.len]; exact t3.1) (by decide)
      refine Nr.tup_of (by simp) (fun d md => ?_) ?_
      · simp only [List.mem_cons, List.not_mem_nil, or_false] at md
        rcases md with rfl | rfl | rfl
        · exact ⟨b1.g, b1.v⟩
        · exact ⟨b2.g, b2.v⟩
        · exact ⟨b3.g, b3.v⟩
      · have := b1.w
        have := b2.w
        have := b3.w
        simp only [wts]
        omega
    refine Nr.tup_of (by rw [List.length_map]; omega) (fun d md => ?_) ?_
    · obtain ⟨b, mb, rfl⟩ := List.mem_map.mp md
      exact ⟨(each b mb).g, (each b mb).v⟩
    · have := wts_le (W := 99) (ds := w.bs.map boxD) (fun d md => by
        obtain ⟨b, mb, rfl⟩ := List.mem_map.mp md
        exact (each b mb).w)
      rw [List.length_map] at this
      omega
  have a3 := nats_nr (L := 20) (B := B) (m := 2) (k := 6) (lt h.lt) hB h.l (by decide)
  have a4 := nats_nr (L := 20) (B := B) (m := 2) (k := 6) (lt h.rt) hB h.r (by decide)
  refine Nr.tup_of (by simp) (fun d md => ?_) ?_
  · simp only [List.mem_cons, List.not_mem_nil, or_false] at md
    rcases md with rfl | rfl | rfl | rfl
    · exact ⟨a1.g, a1.v⟩
    · exact ⟨a2.g, a2.v⟩
    · exact ⟨a3.g, a3.v⟩
    · exact ⟨a4.g, a4.v⟩
  · have := a1.w
    have := a2.w
    have := a3.w
    have := a4.w
    simp only [wts]
    omega
theorem isStock_D {st : List Sort3} (o : okStock st) : isStock (stockD st) = true := by
  have h1 : (st.map sortD).length = st.length := List.length_map ..
  have h2 : (st.map sortD).all isSort = true := by
    rw [List.all_eq_true]
    intro d m
    obtain ⟨t, mt, rfl⟩ := List.mem_map.mp m
    obtain ⟨a, ⟨b1, b2⟩, c1, c2⟩ := o.2.2.1 t mt
    have key : ∀ zs : List Str, zs.length ≤ 4 → (∀ z ∈ zs, isWordS z = true) → areKinds (.tup (zs.map .str)) = true := fun zs l h => by
      show (decide ((zs.map D.str).length ≤ 4) && (zs.map D.str).all isWord) = true
      rw [List.length_map, decide_eq_true l, Bool.true_and, List.all_eq_true]
      intro d m
      obtain ⟨z, mz, rfl⟩ := List.mem_map.mp m
      exact h z mz
    show (isWord (.str t.1) && areKinds (.tup (t.2.1.map .str)) && areKinds (.tup (t.2.2.map .str))) = true
    rw [key _ b1 b2, key _ c1 c2, show isWord (.str t.1) = true from a]
    rfl
  have h3 : (st.map sortD).map wordOf = st.map (·.1) := by
    rw [List.map_map]
    rfl
  show (decide (1 ≤ (st.map sortD).length) && decide ((st.map sortD).length ≤ 12) && (st.map sortD).all isSort && decide ((st.map sortD).map wordOf).Nodup) = true
  rw [h1, h2, h3, decide_eq_true o.1, decide_eq_true o.2.1, decide_eq_true o.2.2.2]
  rfl
end Ev
namespace Lw
open PySem Ev
variable {n : Nat} {s : Sto} {Q : D → Sto → Prop}
theorem sp_check_stock {st : List Sort3} (o : okStock st) : wp (R (n + 4) 6 [stockD st]) s Q = Q .non s := by
  have g : G (stockD st) := gl_mono (by decide) _ 3 30 (by decide) (gl_stockO o)
  rw [R, wp_run T_check_stock rfl]
  simp [bd_check_stock, startE, sp_is_stock g, isStock_D o]
theorem sp_web_fault {st : List Sort3} (o : okStock st) {d : D} (g : G d) : wp (R (n + 7) 15 [stockD st, d]) s Q = Q (webF st d) s := by
  rw [R, wp_run T_web_fault rfl]
  simp [bd_web_fault, startE, sp_check_stock (n := n + 2) o, sp_sorts_in o, sp_fault_by (n := n) o g]
theorem sp_is_web {st : List Sort3} (o : okStock st) {d : D} (g : G d) : wp (R (n + 8) 16 [stockD st, d]) s Q = Q (.bl (isNon (webF st d))) s := by
  rw [R, wp_run T_is_web rfl]
  simp [bd_is_web, startE, sp_web_fault (n := n) o g]
theorem alike_two {d : D} (h : d.gl 10 1 = true) : wp (R (n + 30) 20 [.lst [d, d], .lst [d, d]]) s Q = Q (.bl true) s := sp_alike (L := 10) (n := n + 26) (by decide) 2 (gl_lst.mpr ⟨by simp, fun e m => by
  simp at m
  rw [m]
  exact h⟩) (by decide)
def Vd (d : D) : Prop := Nr 22 (10 ^ 30 + 2) 5590 8 d
/-- one stock, one value -/
theorem one_own {st : List Sort3} (o : okStock st) {v : D} (h : Vd v) {x0 x1 x2 x3 x4 x5 x6 x8 x9 : Sl} {Q : Fl → Sto → Prop} (q : ∀ x8 x9, Q (.nx [x0, x1, x2, x3, x4, x5, x6, .val v, x8, x9]) s) : wp (forB (R (n + 40)) 100 [8] false lp_law_0 (stockD st) [x0, x1, x2, x3, x4, x5, x6, .val v, x8, x9]) s Q := by
  have g : G v := h.G (by decide) (by decide)
  simp [lp_law_0]
  rw [sp_place (n := n + 36) o g]
  simp [tl_law_1, sp_web_fault (n := n + 33) o g]
  rw [alike_two (n := n + 10) webF_gl]
  simp [tl_law_0, sp_is_web (n := n + 32) o g]
  rw [alike_two (n := n + 10) rfl]
  simp
  exact q _ _
theorem one_value {st : List Sort3} (o : okStock st) {v : D} (h : Vd v) (hs : Loom s) {x0 x2 x4 x5 x6 x7 x8 x9 : Sl} {Q : Fl → Sto → Prop} (q : ∀ x7 x8 x9 s', Loom s' → Q (.nx [x0, .val (.cell 1), x2, .val (stockD st), x4, x5, x6, x7, x8, x9]) s') : wp (forB (R (n + 40)) 100 [7] false lp_law_1 v [x0, .val (.cell 1), x2, .val (stockD st), x4, x5, x6, x7, x8, x9]) s Q := by
  simp [lp_law_1]
  refine sp_stock (n := n + 37) (most := 6) (by decide) (by decide) hs fun st2 s1 o2 h1 => ?_
  try simp
  rw [wp_forL_cons]
  refine one_own (n := n) o h fun x8 x9 => ?_
  rw [lpk_nx, wp_forL_cons]
  refine one_own (n := n) o2.1 h fun x8 x9 => ?_
  rw [lpk_nx, wp_forL_nil]
  exact q _ _ _ s1 h1
theorem values {st : List Sort3} (o : okStock st) {x0 x2 x4 x5 x6 : Sl} {Q : Fl → Sto → Prop} : ∀ {vs : List D} {s : Sto} {x7 x8 x9 : Sl}, (∀ v ∈ vs, Vd v) → Loom s → (∀ x7 x8 x9 s', Loom s' → Q (.nx [x0, .val (.cell 1), x2, .val (stockD st), x4, x5, x6, x7, x8, x9]) s') → wp (forL (forB (R (n + 40)) 100 [7] false lp_law_1) vs [x0, .val (.cell 1), x2, .val (stockD st), x4, x5, x6, x7, x8, x9]) s Q
  | [], s, x7, x8, x9, _, hs, q => by
    rw [wp_forL_nil]
    exact q _ _ _ s hs
  | v :: vs, s, x7, x8, x9, h, hs, q => by
    rw [wp_forL_cons]
    refine one_value (n := n) o (h v (List.mem_cons_self ..)) hs fun x7 x8 x9 s' h' => ?_
    rw [lpk_nx]
    exact values o (fun d m => h d (List.mem_cons_of_mem _ m)) h' q
def Done (v0 : Sl) (Q : Fl → Sto → Prop) : Prop := ∀ s' x2 x3 x4 x5 x6 x7 x8 x9, Loom s' → Q (.nx [v0, .val (.cell 1), x2, x3, x4, x5, x6, x7, x8, x9]) s'
section
variable {st : List Sort3} {w : Web3} {v0 x2 x3 x4 x5 x6 x7 x8 x9 : Sl} {Q : Fl → Sto → Prop}
theorem tail4 (o : okStock st) {vs : List D} (h : ∀ v ∈ vs, Vd v) (l : vs.length = 10) (hs : Loom s) (q : Done v0 Q) : wp (exs (R (n + 40)) 100 tl_law_4 [v0, .val (.cell 1), x2, .val (stockD st), x4, .val (.lst vs), x6, x7, x8, x9]) s Q := by
  obtain ⟨z, ez⟩ := repr_vals (L := 22) (B := 10 ^ 30 + 2) (by decide) (ds := vs) (fun d m => gl_mono (by decide) d 8 20 (by decide) (h d m).g) (fun d m => (h d m).v) (by
    have := wts_le (W := 5590) (ds := vs) fun d m => (h d m).w
    rw [l] at this
    omega)
  simp [tl_law_4, ez]
  simp [tl_law_3]
  refine values (n := n) o h hs fun x7 x8 x9 s' h' => ?_
  simp [tl_law_2, ez]
  exact q _ _ _ _ _ _ _ _ _ h'
theorem bend {L B W m : Nat} {v : D} (h : Nr L B W m v) (hL : 3 ≤ L) (hL2 : L ≤ 500) (hB : 10 ^ 30 ≤ B) (hB2 : B + 1 < 10 ^ 35) (hm : m ≤ 16) (hs : Loom s) {Q : D → Sto → Prop} (q : ∀ r s', Nr (L + 1) (B + 1) (2 * W + 130) (m + 2) r → Loom s' → Q r s') : wp (R (n + 40) 31 [.cell 1, v]) s Q := by
  have e : n + 40 = (n + 38 - m) + m + 2 := by omega
  rw [e]
  exact sp_bent hL hL2 hB hB2 m h hm hs q
theorem tail7 (o : okStock st) (hs : Loom s) (q : Done v0 Q) : wp (exs (R (n + 40)) 100 tl_law_7 [v0, .val (.cell 1), x2, .val (stockD st), x4, x5, x6, x7, x8, x9]) s Q := by
  simp [tl_law_7]
  refine sp_web (n := n + 37) (most := 12) (boxes := 10) o (by decide) (by decide) hs fun w s1 ok l1 l2 h1 => ?_
  have nr := ok.nr o (B := 10 ^ 30) (by decide)
  have big : ∀ {L B W m : Nat} {d : D}, Nr L B W m d → L ≤ 22 → B ≤ 10 ^ 30 + 2 → W ≤ 5590 → m ≤ 8 → Vd d := fun h a b c e => h.more a b c e
  simp [tl_law_6]
  refine bend (n := n) nr (by decide) (by decide) (by decide) (by decide) (by decide) h1 fun a s2 ha h2 => ?_
  refine bend (n := n) nr (by decide) (by decide) (by decide) (by decide) (by decide) h2 fun b s3 hb h3 => ?_
  refine bend (n := n) nr (by decide) (by decide) (by decide) (by decide) (by decide) h3 fun c s4 hc h4 => ?_
  obtain ⟨ms, ems⟩ : ∃ ms, webD w = .tup ms := ⟨_, rfl⟩
  rw [ems] at nr ⊢
  have lm := (gl_tup.mp nr.g).1
  have wm := nr.w
  rw [wt_tup] at wm
  have cm : cut ms none (some (3 : Int)) = ms.take 3 := cut_take (k := 3) (by decide)
  have sp := wts_split 3 (ds := ms)
  have lt3 : (ms.take 3).length ≤ ms.length := by rw [List.length_take]; omega
  have mem : ∀ d ∈ ms, d.gl 20 3 = true ∧ d.lv (10 ^ 30) = true := fun d m => ⟨(nr.tup_mem m).g, (nr.tup_mem m).v⟩
  have n4 : Nr 20 (10 ^ 30) 1300 4 (.lst ms) := Nr.lst_of lm mem wm
  have n5 : Nr 20 (10 ^ 30) 1300 4 (.tup (ms.take 3)) := Nr.tup_of (by omega) (fun d m => mem d (List.mem_of_mem_take m)) (by omega)
  have e5 : slD (.tup ms) none (some 3) = some (.tup (ms.take 3)) := by
    show some (D.tup (cut ms none (some 3))) = _
    rw [cm]
  rw [seq_tup, ov_some, ov_eq e5]
  simp [tl_law_5]
  refine bend (n := n) ha (by decide) (by decide) (by decide) (by decide) (by decide) h4 fun a2 s5 ha2 h5 => ?_
  refine bend (n := n) hb (by decide) (by decide) (by decide) (by decide) (by decide) h5 fun b2 s6 hb2 h6 => ?_
  rw [ov_eq (add_lst (by rw [LIM_val]; simp))]
  refine tail4 o (fun v m => ?_) (by simp) h6 q
  simp only [List.cons_append, List.nil_append, List.mem_cons, List.not_mem_nil, or_false] at m
  rcases m with rfl | rfl | rfl | rfl | rfl | rfl | rfl | rfl | rfl | rfl
  · exact big nr (by decide) (by decide) (by decide) (by decide)
  · exact big ha (by decide) (by decide) (by decide) (by decide)
  · exact big hb (by decide) (by decide) (by decide) (by decide)
  · exact big hc (by decide) (by decide) (by decide) (by decide)
  · exact big n4 (by decide) (by decide) (by decide) (by decide)
  · exact big n5 (by decide) (by decide) (by decide) (by decide)
  · exact ⟨rfl, rfl, Nat.zero_le _⟩
  · exact ⟨rfl, rfl, by decide +kernel⟩
  · exact big ha2 (by decide) (by decide) (by decide) (by decide)
  · exact big hb2 (by decide) (by decide) (by decide) (by decide)
theorem turn (hs : Loom s) {d : D} (q : Done v0 Q) : wp (forB (R (n + 40)) 100 [2] false lp_law_2 d [v0, .val (.cell 1), x2, x3, x4, x5, x6, x7, x8, x9]) s Q := by
  simp [lp_law_2]
  refine sp_stock (n := n + 37) (most := 6) (by decide) (by decide) hs fun st s1 ok h1 => ?_
  exact tail7 ok.1 h1 q
end
theorem law_runs (ns : List Int) (h : ns.length ≤ 63) : wp (exs (R 200) 100 bd_law (startE ⟨1, 10, bd_law⟩ [.lst (ns.map .int)])) [] fun fl _ => fl = .rt (.bl true) := by
  simp [bd_law, startE]
  refine sp_loom (n := 199) h fun s1 h1 => ?_
  simp [tl_law_9]
  refine ⟨by rw [LIM_val]; decide, ?_⟩
  refine for_draw (I := fun _ env s => Loom s ∧ ∃ x2 x3 x4 x5 x6 x7 x8 x9, env = [.val (.lst (ns.map .int)), .val (.cell 1), x2, x3, x4, x5, x6, x7, x8, x9]) ⟨h1, _, _, _, _, _, _, _, _, rfl⟩ (fun k hk env s Q => ?_) (fun env s => ?_)
  · rintro ⟨hs, x2, x3, x4, x5, x6, x7, x8, x9, rfl⟩ q
    exact turn (n := 160) hs fun s' x2 x3 x4 x5 x6 x7 x8 x9 h' => q _ _ ⟨h', _, _, _, _, _, _, _, _, rfl⟩
  · rintro ⟨hs, x2, x3, x4, x5, x6, x7, x8, x9, rfl⟩
    simp [tl_law_8]
theorem law_main (ns : List Int) (h : ns.length ≤ 63) : ∃ S', M.bnd (exs (R 200) 100 bd_law (startE ⟨1, 10, bd_law⟩ [.lst (ns.map .int)])) (fun f => match f with
    | .rt d => M.ret d
    | .nx _ => M.ret .non
    | .ct _ => M.bad) [] = .ok (.bl true) S' := by
  have w : wp (M.bnd (exs (R 200) 100 bd_law (startE ⟨1, 10, bd_law⟩ [.lst (ns.map .int)])) (fun f => match f with
    | .rt d => M.ret d
    | .nx _ => M.ret .non
    | .ct _ => M.bad)) [] fun d _ => d = .bl true := by
    rw [wp_bnd]
    refine wp_mono (law_runs ns h) fun fl s' e => ?_
    subst e
    exact wp_ret ▸ rfl
  obtain ⟨a, s', e, rfl⟩ := wp_out w
  exact ⟨s', e⟩
end Lw

set_option Elab.async false
set_option linter.all false
set_option maxRecDepth 100000
set_option maxHeartbeats 0
namespace Lw
open PySem PySem.Spec PyProof.Rows L2 Ev
def top (i : Nat) : Stmt := PySem.Challenge.pw_wirewebs_k02_webs_judged.main.body.getD i (.Pass ⟨0, 0, 0, 0⟩)
def fr_is_integer : FRec := ⟨"is_integer", top 6, ["value"], ["value"], ⟨[], [], false⟩, bd_is_integer⟩
def fr_is_between : FRec := ⟨"is_between", top 7, ["least", "value", "most"], ["least", "value", "most"], ⟨[], [], false⟩, bd_is_between⟩
def fr_is_tuple_of : FRec := ⟨"is_tuple_of", top 8, ["length", "value"], ["length", "value"], ⟨[], [], false⟩, bd_is_tuple_of⟩
def fr_is_word : FRec := ⟨"is_word", top 9, ["value", "sign"], ["value"], ⟨[], [], false⟩, bd_is_word⟩
def fr_are_kinds : FRec := ⟨"are_kinds", top 13, ["value", "kind"], ["value"], ⟨[], [], false⟩, bd_are_kinds⟩
def fr_is_stock : FRec := ⟨"is_stock", top 14, ["value", "one", "word", "ins", "outs"], ["value"], ⟨[], [], false⟩, bd_is_stock⟩
def fr_check_stock : FRec := ⟨"check_stock", top 15, ["stock"], ["stock"], ⟨[], [], false⟩, bd_check_stock⟩
def fr_sorts_in : FRec := ⟨"sorts_in", top 16, ["stock", "word", "ins", "outs"], ["stock"], ⟨[], [], false⟩, bd_sorts_in⟩
def fr_are_wires : FRec := ⟨"are_wires", top 17, ["wires", "value", "index"], ["wires", "value"], ⟨[], [], false⟩, bd_are_wires⟩
def fr_kinds_at : FRec := ⟨"kinds_at", top 18, ["wires", "indexes", "index"], ["wires", "indexes"], ⟨[], [], false⟩, bd_kinds_at⟩
def fr_has_form : FRec := ⟨"has_form", top 19, ["wires", "box"], ["wires", "box"], ⟨[], [], false⟩, bd_has_form⟩
def fr_boxes_fault : FRec := ⟨"boxes_fault", top 20, ["wires", "boxes", "sorts", "found", "k", "box", "own"], ["wires", "boxes", "sorts"], ⟨[3], [], false⟩, bd_boxes_fault⟩
def fr_wires_fault : FRec := ⟨"wires_fault", top 21, ["wires", "wrong", "k", "kind"], ["wires"], ⟨[], [], false⟩, bd_wires_fault⟩
def fr_ends_fault : FRec := ⟨"ends_fault", top 22, ["wires", "side", "value", "wrong", "k", "index"], ["wires", "side", "value"], ⟨[], [], false⟩, bd_ends_fault⟩
def fr_fault_by : FRec := ⟨"fault_by", top 23, ["sorts", "value", "wires", "boxes", "left", "right", "place", "wrong"], ["sorts", "value"], ⟨[], [], false⟩, bd_fault_by⟩
def fr_web_fault : FRec := ⟨"web_fault", top 24, ["stock", "value"], ["stock", "value"], ⟨[], [], false⟩, bd_web_fault⟩
def fr_is_web : FRec := ⟨"is_web", top 25, ["stock", "value"], ["stock", "value"], ⟨[], [], false⟩, bd_is_web⟩
def fr__law_spring : FRec := ⟨"_law_spring", top 27, ["script", "great", "mixed", "cell"], ["script"], ⟨[], [1], true⟩, bd__law_spring⟩
def fr__law_drop : FRec := ⟨"_law_drop", top 28, ["spring", "many", "great", "found"], ["spring", "many"], ⟨[2], [], false⟩, bd__law_drop⟩
def fr__law_kinds : FRec := ⟨"_law_kinds", top 29, ["thing", "found"], ["thing"], ⟨[], [], false⟩, bd__law_kinds⟩
def fr__law_alike : FRec := ⟨"_law_alike", top 30, ["found", "due", "k"], ["found", "due"], ⟨[], [], false⟩, bd__law_alike⟩
def fr__law_words : FRec := ⟨"_law_words", top 31, ["spring", "many", "found", "k", "size", "word", "j"], ["spring", "many"], ⟨[2], [], false⟩, bd__law_words⟩
def fr__law_stock : FRec := ⟨"_law_stock", top 32, ["spring", "most", "kinds", "found", "word", "sides", "side", "k"], ["spring", "most"], ⟨[3, 5], [], false⟩, bd__law_stock⟩
def fr__law_pick : FRec := ⟨"_law_pick", top 33, ["spring", "wires", "kinds", "found", "kind", "some", "k"], ["spring", "wires", "kinds"], ⟨[3], [], false⟩, bd__law_pick⟩
def fr__law_web : FRec := ⟨"_law_web", top 34, ["spring", "stock", "most_wires", "most_boxes", "kinds", "wires", "boxes", "k", "ends", "side", "word", "ins", "outs", "one", "other", "many"], ["spring", "stock", "most_wires", "most_boxes"], ⟨[6, 8], [], false⟩, bd__law_web⟩
def fr__law_stock_kinds : FRec := ⟨"_law_stock_kinds", top 35, ["stock", "found", "word", "ins", "outs"], ["stock"], ⟨[], [], false⟩, bd__law_stock_kinds⟩
def fr__law_is_word : FRec := ⟨"_law_is_word", top 36, ["value", "sign"], ["value"], ⟨[], [], false⟩, bd__law_is_word⟩
def fr__law_are_indexes : FRec := ⟨"_law_are_indexes", top 37, ["value", "many", "one"], ["value", "many"], ⟨[], [], false⟩, bd__law_are_indexes⟩
def fr__law_box_fits : FRec := ⟨"_law_box_fits", top 38, ["wires", "stock", "box", "sides", "k"], ["wires", "stock", "box"], ⟨[], [], false⟩, bd__law_box_fits⟩
def fr__law_first : FRec := ⟨"_law_first", top 39, ["row", "place", "wrong", "k"], ["row", "place"], ⟨[], [], false⟩, bd__law_first⟩
def fr__law_place : FRec := ⟨"_law_place", top 40, ["stock", "value", "wires", "boxes", "left", "right", "found", "side", "ends", "kind", "box", "one"], ["stock", "value"], ⟨[], [], false⟩, bd__law_place⟩
def fr__law_bent : FRec := ⟨"_law_bent", top 41, ["spring", "tree", "odd", "at", "way"], ["spring", "tree"], ⟨[], [], false⟩, bd__law_bent⟩
def fr_law : FRec := ⟨"law", top 42, ["script", "spring", "turn", "stock", "web", "some", "ahead", "value", "own", "due"], ["script"], ⟨[], [1], false⟩, bd_law⟩
def pg : Prg := ⟨[fr_is_integer, fr_is_between, fr_is_tuple_of, fr_is_word, fr_are_kinds, fr_is_stock, fr_check_stock, fr_sorts_in, fr_are_wires, fr_kinds_at, fr_has_form, fr_boxes_fault, fr_wires_fault, fr_ends_fault, fr_fault_by, fr_web_fault, fr_is_web, fr__law_spring, fr__law_drop, fr__law_kinds, fr__law_alike, fr__law_words, fr__law_stock, fr__law_pick, fr__law_web, fr__law_stock_kinds, fr__law_is_word, fr__law_are_indexes, fr__law_box_fits, fr__law_first, fr__law_place, fr__law_bent],
  [("is_web", ["value", "stock"], [1, 0]), ("web_fault", ["value", "stock"], [1, 0])],
  [("LETTERS", .str "abcdefghijklmnopqrstuvwxyz"), ("MOST_LETTERS", .int 8), ("MOST_SORTS", .int 12), ("MOST_PLACES", .int 4)],
  ["len", "int", "all", "isinstance", "tuple", "list", "dict", "str", "bool", "range", "enumerate", "sorted", "set", "repr"], 60, [⟨"WebError", none, [0, 1]⟩, ⟨"InvalidStock", none, [1]⟩]⟩
theorem co_is_integer : pg.core fr_is_integer = some bd_is_integer := by kernel_rfl
theorem co_is_between : pg.core fr_is_between = some bd_is_between := by kernel_rfl
theorem co_is_tuple_of : pg.core fr_is_tuple_of = some bd_is_tuple_of := by kernel_rfl
theorem co_is_word : pg.core fr_is_word = some bd_is_word := by kernel_rfl
theorem co_are_kinds : pg.core fr_are_kinds = some bd_are_kinds := by kernel_rfl
theorem co_is_stock : pg.core fr_is_stock = some bd_is_stock := by kernel_rfl
theorem co_check_stock : pg.core fr_check_stock = some bd_check_stock := by kernel_rfl
theorem co_sorts_in : pg.core fr_sorts_in = some bd_sorts_in := by kernel_rfl
theorem co_are_wires : pg.core fr_are_wires = some bd_are_wires := by kernel_rfl
theorem co_kinds_at : pg.core fr_kinds_at = some bd_kinds_at := by kernel_rfl
theorem co_has_form : pg.core fr_has_form = some bd_has_form := by kernel_rfl
theorem co_boxes_fault : pg.core fr_boxes_fault = some bd_boxes_fault := by kernel_rfl
theorem co_wires_fault : pg.core fr_wires_fault = some bd_wires_fault := by kernel_rfl
theorem co_ends_fault : pg.core fr_ends_fault = some bd_ends_fault := by kernel_rfl
theorem co_fault_by : pg.core fr_fault_by = some bd_fault_by := by kernel_rfl
theorem co_web_fault : pg.core fr_web_fault = some bd_web_fault := by kernel_rfl
theorem co_is_web : pg.core fr_is_web = some bd_is_web := by kernel_rfl
theorem co__law_spring : pg.core fr__law_spring = some bd__law_spring := by kernel_rfl
theorem co__law_drop : pg.core fr__law_drop = some bd__law_drop := by kernel_rfl
theorem co__law_kinds : pg.core fr__law_kinds = some bd__law_kinds := by kernel_rfl
theorem co__law_alike : pg.core fr__law_alike = some bd__law_alike := by kernel_rfl
theorem co__law_words : pg.core fr__law_words = some bd__law_words := by kernel_rfl
theorem co__law_stock : pg.core fr__law_stock = some bd__law_stock := by kernel_rfl
theorem co__law_pick : pg.core fr__law_pick = some bd__law_pick := by kernel_rfl
theorem co__law_web : pg.core fr__law_web = some bd__law_web := by kernel_rfl
theorem co__law_stock_kinds : pg.core fr__law_stock_kinds = some bd__law_stock_kinds := by kernel_rfl
theorem co__law_is_word : pg.core fr__law_is_word = some bd__law_is_word := by kernel_rfl
theorem co__law_are_indexes : pg.core fr__law_are_indexes = some bd__law_are_indexes := by kernel_rfl
theorem co__law_box_fits : pg.core fr__law_box_fits = some bd__law_box_fits := by kernel_rfl
theorem co__law_first : pg.core fr__law_first = some bd__law_first := by kernel_rfl
theorem co__law_place : pg.core fr__law_place = some bd__law_place := by kernel_rfl
theorem co__law_bent : pg.core fr__law_bent = some bd__law_bent := by kernel_rfl
theorem pg_T : pg.T = T := rfl
theorem co_law : pg.coreL fr_law = some bd_law := by kernel_rfl
theorem sc_is_integer : FnScope fr_is_integer.N fr_is_integer.ps (defScope fr_is_integer.st) := ⟨rfl, rfl, rfl, by decide +kernel, rfl, by decide +kernel, by decide +kernel⟩
theorem sc_is_between : FnScope fr_is_between.N fr_is_between.ps (defScope fr_is_between.st) := ⟨rfl, rfl, rfl, by decide +kernel, rfl, by decide +kernel, by decide +kernel⟩
theorem sc_is_tuple_of : FnScope fr_is_tuple_of.N fr_is_tuple_of.ps (defScope fr_is_tuple_of.st) := ⟨rfl, rfl, rfl, by decide +kernel, rfl, by decide +kernel, by decide +kernel⟩
theorem sc_is_word : FnScope fr_is_word.N fr_is_word.ps (defScope fr_is_word.st) := ⟨rfl, rfl, rfl, by decide +kernel, rfl, by decide +kernel, by decide +kernel⟩
theorem sc_are_kinds : FnScope fr_are_kinds.N fr_are_kinds.ps (defScope fr_are_kinds.st) := ⟨rfl, rfl, rfl, by decide +kernel, rfl, by decide +kernel, by decide +kernel⟩
theorem sc_is_stock : FnScope fr_is_stock.N fr_is_stock.ps (defScope fr_is_stock.st) := ⟨rfl, rfl, rfl, by decide +kernel, rfl, by decide +kernel, by decide +kernel⟩
theorem sc_check_stock : FnScope fr_check_stock.N fr_check_stock.ps (defScope fr_check_stock.st) := ⟨rfl, rfl, rfl, by decide +kernel, rfl, by decide +kernel, by decide +kernel⟩
theorem sc_sorts_in : FnScope fr_sorts_in.N fr_sorts_in.ps (defScope fr_sorts_in.st) := ⟨rfl, rfl, rfl, by decide +kernel, rfl, by decide +kernel, by decide +kernel⟩
theorem sc_are_wires : FnScope fr_are_wires.N fr_are_wires.ps (defScope fr_are_wires.st) := ⟨rfl, rfl, rfl, by decide +kernel, rfl, by decide +kernel, by decide +kernel⟩
theorem sc_kinds_at : FnScope fr_kinds_at.N fr_kinds_at.ps (defScope fr_kinds_at.st) := ⟨rfl, rfl, rfl, by decide +kernel, rfl, by decide +kernel, by decide +kernel⟩
theorem sc_has_form : FnScope fr_has_form.N fr_has_form.ps (defScope fr_has_form.st) := ⟨rfl, rfl, rfl, by decide +kernel, rfl, by decide +kernel, by decide +kernel⟩
theorem sc_boxes_fault : FnScope fr_boxes_fault.N fr_boxes_fault.ps (defScope fr_boxes_fault.st) := ⟨rfl, rfl, rfl, by decide +kernel, rfl, by decide +kernel, by decide +kernel⟩
theorem sc_wires_fault : FnScope fr_wires_fault.N fr_wires_fault.ps (defScope fr_wires_fault.st) := ⟨rfl, rfl, rfl, by decide +kernel, rfl, by decide +kernel, by decide +kernel⟩
theorem sc_ends_fault : FnScope fr_ends_fault.N fr_ends_fault.ps (defScope fr_ends_fault.st) := ⟨rfl, rfl, rfl, by decide +kernel, rfl, by decide +kernel, by decide +kernel⟩
theorem sc_fault_by : FnScope fr_fault_by.N fr_fault_by.ps (defScope fr_fault_by.st) := ⟨rfl, rfl, rfl, by decide +kernel, rfl, by decide +kernel, by decide +kernel⟩
theorem sc_web_fault : FnScope fr_web_fault.N fr_web_fault.ps (defScope fr_web_fault.st) := ⟨rfl, rfl, rfl, by decide +kernel, rfl, by decide +kernel, by decide +kernel⟩
theorem sc_is_web : FnScope fr_is_web.N fr_is_web.ps (defScope fr_is_web.st) := ⟨rfl, rfl, rfl, by decide +kernel, rfl, by decide +kernel, by decide +kernel⟩
theorem sc__law_spring : FnScope fr__law_spring.N fr__law_spring.ps (defScope fr__law_spring.st) := ⟨rfl, rfl, rfl, by decide +kernel, rfl, by decide +kernel, by decide +kernel⟩
theorem sc__law_drop : FnScope fr__law_drop.N fr__law_drop.ps (defScope fr__law_drop.st) := ⟨rfl, rfl, rfl, by decide +kernel, rfl, by decide +kernel, by decide +kernel⟩
theorem sc__law_kinds : FnScope fr__law_kinds.N fr__law_kinds.ps (defScope fr__law_kinds.st) := ⟨rfl, rfl, rfl, by decide +kernel, rfl, by decide +kernel, by decide +kernel⟩
theorem sc__law_alike : FnScope fr__law_alike.N fr__law_alike.ps (defScope fr__law_alike.st) := ⟨rfl, rfl, rfl, by decide +kernel, rfl, by decide +kernel, by decide +kernel⟩
theorem sc__law_words : FnScope fr__law_words.N fr__law_words.ps (defScope fr__law_words.st) := ⟨rfl, rfl, rfl, by decide +kernel, rfl, by decide +kernel, by decide +kernel⟩
theorem sc__law_stock : FnScope fr__law_stock.N fr__law_stock.ps (defScope fr__law_stock.st) := ⟨rfl, rfl, rfl, by decide +kernel, rfl, by decide +kernel, by decide +kernel⟩
theorem sc__law_pick : FnScope fr__law_pick.N fr__law_pick.ps (defScope fr__law_pick.st) := ⟨rfl, rfl, rfl, by decide +kernel, rfl, by decide +kernel, by decide +kernel⟩
theorem sc__law_web : FnScope fr__law_web.N fr__law_web.ps (defScope fr__law_web.st) := ⟨rfl, rfl, rfl, by decide +kernel, rfl, by decide +kernel, by decide +kernel⟩
theorem sc__law_stock_kinds : FnScope fr__law_stock_kinds.N fr__law_stock_kinds.ps (defScope fr__law_stock_kinds.st) := ⟨rfl, rfl, rfl, by decide +kernel, rfl, by decide +kernel, by decide +kernel⟩
theorem sc__law_is_word : FnScope fr__law_is_word.N fr__law_is_word.ps (defScope fr__law_is_word.st) := ⟨rfl, rfl, rfl, by decide +kernel, rfl, by decide +kernel, by decide +kernel⟩
theorem sc__law_are_indexes : FnScope fr__law_are_indexes.N fr__law_are_indexes.ps (defScope fr__law_are_indexes.st) := ⟨rfl, rfl, rfl, by decide +kernel, rfl, by decide +kernel, by decide +kernel⟩
theorem sc__law_box_fits : FnScope fr__law_box_fits.N fr__law_box_fits.ps (defScope fr__law_box_fits.st) := ⟨rfl, rfl, rfl, by decide +kernel, rfl, by decide +kernel, by decide +kernel⟩
theorem sc__law_first : FnScope fr__law_first.N fr__law_first.ps (defScope fr__law_first.st) := ⟨rfl, rfl, rfl, by decide +kernel, rfl, by decide +kernel, by decide +kernel⟩
theorem sc__law_place : FnScope fr__law_place.N fr__law_place.ps (defScope fr__law_place.st) := ⟨rfl, rfl, rfl, by decide +kernel, rfl, by decide +kernel, by decide +kernel⟩
theorem sc__law_bent : FnScope fr__law_bent.N fr__law_bent.ps (defScope fr__law_bent.st) := ⟨rfl, rfl, rfl, by decide +kernel, rfl, by decide +kernel, by decide +kernel⟩
theorem sc_law : FnScope fr_law.N fr_law.ps (defScope fr_law.st) := ⟨rfl, rfl, rfl, by decide +kernel, rfl, by decide +kernel, by decide +kernel⟩
theorem good : pg.Good := by
  intro r hr
  unfold pg at hr
  simp only [List.mem_cons, List.not_mem_nil, or_false] at hr
  rcases hr with rfl | rfl | rfl | rfl | rfl | rfl | rfl | rfl | rfl | rfl | rfl | rfl | rfl | rfl | rfl | rfl | rfl | rfl | rfl | rfl | rfl | rfl | rfl | rfl | rfl | rfl | rfl | rfl | rfl | rfl | rfl | rfl
  · exact ⟨sc_is_integer, co_is_integer⟩
  · exact ⟨sc_is_between, co_is_between⟩
  · exact ⟨sc_is_tuple_of, co_is_tuple_of⟩
  · exact ⟨sc_is_word, co_is_word⟩
  · exact ⟨sc_are_kinds, co_are_kinds⟩
  · exact ⟨sc_is_stock, co_is_stock⟩
  · exact ⟨sc_check_stock, co_check_stock⟩
  · exact ⟨sc_sorts_in, co_sorts_in⟩
  · exact ⟨sc_are_wires, co_are_wires⟩
  · exact ⟨sc_kinds_at, co_kinds_at⟩
  · exact ⟨sc_has_form, co_has_form⟩
  · exact ⟨sc_boxes_fault, co_boxes_fault⟩
  · exact ⟨sc_wires_fault, co_wires_fault⟩
  · exact ⟨sc_ends_fault, co_ends_fault⟩
  · exact ⟨sc_fault_by, co_fault_by⟩
  · exact ⟨sc_web_fault, co_web_fault⟩
  · exact ⟨sc_is_web, co_is_web⟩
  · exact ⟨sc__law_spring, co__law_spring⟩
  · exact ⟨sc__law_drop, co__law_drop⟩
  · exact ⟨sc__law_kinds, co__law_kinds⟩
  · exact ⟨sc__law_alike, co__law_alike⟩
  · exact ⟨sc__law_words, co__law_words⟩
  · exact ⟨sc__law_stock, co__law_stock⟩
  · exact ⟨sc__law_pick, co__law_pick⟩
  · exact ⟨sc__law_web, co__law_web⟩
  · exact ⟨sc__law_stock_kinds, co__law_stock_kinds⟩
  · exact ⟨sc__law_is_word, co__law_is_word⟩
  · exact ⟨sc__law_are_indexes, co__law_are_indexes⟩
  · exact ⟨sc__law_box_fits, co__law_box_fits⟩
  · exact ⟨sc__law_first, co__law_first⟩
  · exact ⟨sc__law_place, co__law_place⟩
  · exact ⟨sc__law_bent, co__law_bent⟩
theorem bo_is_integer : BdOk pg fr_is_integer := fun K g fd F => ⟨L2.FunD.bindsN F fun _ _ _ _ _ _ us hl => match us, hl with | [_], _ => rfl, kwNone (by decide +kernel)⟩
theorem bo_is_between : BdOk pg fr_is_between := fun K g fd F => ⟨L2.FunD.bindsN F fun _ _ _ _ _ _ us hl => match us, hl with | [_, _, _], _ => rfl, kwNone (by decide +kernel)⟩
theorem bo_is_tuple_of : BdOk pg fr_is_tuple_of := fun K g fd F => ⟨L2.FunD.bindsN F fun _ _ _ _ _ _ us hl => match us, hl with | [_, _], _ => rfl, kwNone (by decide +kernel)⟩
theorem bo_is_word : BdOk pg fr_is_word := fun K g fd F => ⟨L2.FunD.bindsN F fun _ _ _ _ _ _ us hl => match us, hl with | [_], _ => rfl, kwNone (by decide +kernel)⟩
theorem bo_are_kinds : BdOk pg fr_are_kinds := fun K g fd F => ⟨L2.FunD.bindsN F fun _ _ _ _ _ _ us hl => match us, hl with | [_], _ => rfl, kwNone (by decide +kernel)⟩
theorem bo_is_stock : BdOk pg fr_is_stock := fun K g fd F => ⟨L2.FunD.bindsN F fun _ _ _ _ _ _ us hl => match us, hl with | [_], _ => rfl, kwNone (by decide +kernel)⟩
theorem bo_check_stock : BdOk pg fr_check_stock := fun K g fd F => ⟨L2.FunD.bindsN F fun _ _ _ _ _ _ us hl => match us, hl with | [_], _ => rfl, kwNone (by decide +kernel)⟩
theorem bo_sorts_in : BdOk pg fr_sorts_in := fun K g fd F => ⟨L2.FunD.bindsN F fun _ _ _ _ _ _ us hl => match us, hl with | [_], _ => rfl, kwNone (by decide +kernel)⟩
theorem bo_are_wires : BdOk pg fr_are_wires := fun K g fd F => ⟨L2.FunD.bindsN F fun _ _ _ _ _ _ us hl => match us, hl with | [_, _], _ => rfl, kwNone (by decide +kernel)⟩
theorem bo_kinds_at : BdOk pg fr_kinds_at := fun K g fd F => ⟨L2.FunD.bindsN F fun _ _ _ _ _ _ us hl => match us, hl with | [_, _], _ => rfl, kwNone (by decide +kernel)⟩
theorem bo_has_form : BdOk pg fr_has_form := fun K g fd F => ⟨L2.FunD.bindsN F fun _ _ _ _ _ _ us hl => match us, hl with | [_, _], _ => rfl, kwNone (by decide +kernel)⟩
theorem bo_boxes_fault : BdOk pg fr_boxes_fault := fun K g fd F => ⟨L2.FunD.bindsN F fun _ _ _ _ _ _ us hl => match us, hl with | [_, _, _], _ => rfl, kwNone (by decide +kernel)⟩
theorem bo_wires_fault : BdOk pg fr_wires_fault := fun K g fd F => ⟨L2.FunD.bindsN F fun _ _ _ _ _ _ us hl => match us, hl with | [_], _ => rfl, kwNone (by decide +kernel)⟩
theorem bo_ends_fault : BdOk pg fr_ends_fault := fun K g fd F => ⟨L2.FunD.bindsN F fun _ _ _ _ _ _ us hl => match us, hl with | [_, _, _], _ => rfl, kwNone (by decide +kernel)⟩
theorem bo_fault_by : BdOk pg fr_fault_by := fun K g fd F => ⟨L2.FunD.bindsN F fun _ _ _ _ _ _ us hl => match us, hl with | [_, _], _ => rfl, kwNone (by decide +kernel)⟩
theorem bo_web_fault : BdOk pg fr_web_fault := fun K g fd F => ⟨L2.FunD.bindsN F fun _ _ _ _ _ _ us hl => match us, hl with | [_, _], _ => rfl, fun ks pm h => by
  rcases kwOf (x := fr_web_fault.name) (L := pg.kws) h with h
  simp only [pg, List.mem_cons, List.not_mem_nil, or_false, Prod.mk.injEq] at h
  rcases h with h | h
  · exact absurd h.1 (by decide +kernel)
  · obtain ⟨_, rfl, rfl⟩ := h
    exact kwBind F fun _ _ _ _ _ _ ws hl => match ws, hl with | [_, _], _ => rfl⟩
theorem bo_is_web : BdOk pg fr_is_web := fun K g fd F => ⟨L2.FunD.bindsN F fun _ _ _ _ _ _ us hl => match us, hl with | [_, _], _ => rfl, fun ks pm h => by
  rcases kwOf (x := fr_is_web.name) (L := pg.kws) h with h
  simp only [pg, List.mem_cons, List.not_mem_nil, or_false, Prod.mk.injEq] at h
  rcases h with h | h
  · obtain ⟨_, rfl, rfl⟩ := h
    exact kwBind F fun _ _ _ _ _ _ ws hl => match ws, hl with | [_, _], _ => rfl
  · exact absurd h.1 (by decide +kernel)⟩
theorem bo__law_spring : BdOk pg fr__law_spring := fun K g fd F => ⟨L2.FunD.bindsN F fun _ _ _ _ _ _ us hl => match us, hl with | [_], _ => rfl, kwNone (by decide +kernel)⟩
theorem bo__law_drop : BdOk pg fr__law_drop := fun K g fd F => ⟨L2.FunD.bindsN F fun _ _ _ _ _ _ us hl => match us, hl with | [_, _], _ => rfl, kwNone (by decide +kernel)⟩
theorem bo__law_kinds : BdOk pg fr__law_kinds := fun K g fd F => ⟨L2.FunD.bindsN F fun _ _ _ _ _ _ us hl => match us, hl with | [_], _ => rfl, kwNone (by decide +kernel)⟩
theorem bo__law_alike : BdOk pg fr__law_alike := fun K g fd F => ⟨L2.FunD.bindsN F fun _ _ _ _ _ _ us hl => match us, hl with | [_, _], _ => rfl, kwNone (by decide +kernel)⟩
theorem bo__law_words : BdOk pg fr__law_words := fun K g fd F => ⟨L2.FunD.bindsN F fun _ _ _ _ _ _ us hl => match us, hl with | [_, _], _ => rfl, kwNone (by decide +kernel)⟩
theorem bo__law_stock : BdOk pg fr__law_stock := fun K g fd F => ⟨L2.FunD.bindsN F fun _ _ _ _ _ _ us hl => match us, hl with | [_, _], _ => rfl, kwNone (by decide +kernel)⟩
theorem bo__law_pick : BdOk pg fr__law_pick := fun K g fd F => ⟨L2.FunD.bindsN F fun _ _ _ _ _ _ us hl => match us, hl with | [_, _, _], _ => rfl, kwNone (by decide +kernel)⟩
theorem bo__law_web : BdOk pg fr__law_web := fun K g fd F => ⟨L2.FunD.bindsN F fun _ _ _ _ _ _ us hl => match us, hl with | [_, _, _, _], _ => rfl, kwNone (by decide +kernel)⟩
theorem bo__law_stock_kinds : BdOk pg fr__law_stock_kinds := fun K g fd F => ⟨L2.FunD.bindsN F fun _ _ _ _ _ _ us hl => match us, hl with | [_], _ => rfl, kwNone (by decide +kernel)⟩
theorem bo__law_is_word : BdOk pg fr__law_is_word := fun K g fd F => ⟨L2.FunD.bindsN F fun _ _ _ _ _ _ us hl => match us, hl with | [_], _ => rfl, kwNone (by decide +kernel)⟩
theorem bo__law_are_indexes : BdOk pg fr__law_are_indexes := fun K g fd F => ⟨L2.FunD.bindsN F fun _ _ _ _ _ _ us hl => match us, hl with | [_, _], _ => rfl, kwNone (by decide +kernel)⟩
theorem bo__law_box_fits : BdOk pg fr__law_box_fits := fun K g fd F => ⟨L2.FunD.bindsN F fun _ _ _ _ _ _ us hl => match us, hl with | [_, _, _], _ => rfl, kwNone (by decide +kernel)⟩
theorem bo__law_first : BdOk pg fr__law_first := fun K g fd F => ⟨L2.FunD.bindsN F fun _ _ _ _ _ _ us hl => match us, hl with | [_, _], _ => rfl, kwNone (by decide +kernel)⟩
theorem bo__law_place : BdOk pg fr__law_place := fun K g fd F => ⟨L2.FunD.bindsN F fun _ _ _ _ _ _ us hl => match us, hl with | [_, _], _ => rfl, kwNone (by decide +kernel)⟩
theorem bo__law_bent : BdOk pg fr__law_bent := fun K g fd F => ⟨L2.FunD.bindsN F fun _ _ _ _ _ _ us hl => match us, hl with | [_, _], _ => rfl, kwNone (by decide +kernel)⟩
theorem bdAll : ∀ r ∈ pg.fs, BdOk pg r := by
  intro r hr
  unfold pg at hr
  simp only [List.mem_cons, List.not_mem_nil, or_false] at hr
  rcases hr with rfl | rfl | rfl | rfl | rfl | rfl | rfl | rfl | rfl | rfl | rfl | rfl | rfl | rfl | rfl | rfl | rfl | rfl | rfl | rfl | rfl | rfl | rfl | rfl | rfl | rfl | rfl | rfl | rfl | rfl | rfl | rfl
  · exact bo_is_integer
  · exact bo_is_between
  · exact bo_is_tuple_of
  · exact bo_is_word
  · exact bo_are_kinds
  · exact bo_is_stock
  · exact bo_check_stock
  · exact bo_sorts_in
  · exact bo_are_wires
  · exact bo_kinds_at
  · exact bo_has_form
  · exact bo_boxes_fault
  · exact bo_wires_fault
  · exact bo_ends_fault
  · exact bo_fault_by
  · exact bo_web_fault
  · exact bo_is_web
  · exact bo__law_spring
  · exact bo__law_drop
  · exact bo__law_kinds
  · exact bo__law_alike
  · exact bo__law_words
  · exact bo__law_stock
  · exact bo__law_pick
  · exact bo__law_web
  · exact bo__law_stock_kinds
  · exact bo__law_is_word
  · exact bo__law_are_indexes
  · exact bo__law_box_fits
  · exact bo__law_first
  · exact bo__law_place
  · exact bo__law_bent
def dfs : List He.DefD := (pg.fs ++ [fr_law]).map FRec.dd
def fas : List He.Fa := pg.fa ++ [.glo "law"]
abbrev Rw : PySem.W.OpenRow := PySem.W.OpenLaw.row PySem.Challenge.rw_wirewebs_k02_webs_judged
abbrev hk : PySem.W.Hook := He.hookD 43 fas dfs
def ob (s : PySem.W.SharedT) : He.AlD := He.obsDG 43 fas dfs (HandSHeadRun.getT s)
theorem ob_eq (s : PySem.W.SharedT) : ob s = hk.obs s.abs := He.obsDG_eq (HandSHeadRun.getT_eq s)
def loose : List Str := (["__name__", "WebError", "InvalidStock", "__name__", "LETTERS", "MOST_LETTERS", "is_integer", "is_between", "is_tuple_of", "is_word", "__name__", "MOST_SORTS", "MOST_PLACES", "are_kinds", "is_stock", "check_stock", "sorts_in", "are_wires", "kinds_at", "has_form", "boxes_fault", "wires_fault", "ends_fault", "fault_by", "web_fault", "is_web", "__name__", "_law_spring", "_law_drop", "_law_kinds"] : List Str) ++ (["_law_alike", "_law_words", "_law_stock", "_law_pick", "_law_web", "_law_stock_kinds", "_law_is_word", "_law_are_indexes", "_law_box_fits", "_law_first", "_law_place", "_law_bent"] : List Str)
theorem run (w : World) : HandSHeadRun.RunEq Rw (PySem.W.view Rw.prog [42]) hk ob 20000 loose w := by
  intro os
  kernel_rfl
end Lw

open PySem PySem.W PySem.Calls PyProof.Rows
set_option Elab.async false
set_option maxRecDepth 100000
set_option maxHeartbeats 0
namespace Lw
theorem lawFacts {K : PySem.W.Frag} {h : Heap} {mg : Str → Option Value} {fa : Addr} {P : Program} {w : World} (inK : K.In h) (G : h.Ns mainGlobals mg) (hmg : mg ("law" : Str) = some (.ref fa)) (c : He.SaysD fas dfs K) (Wn k : Nat) :
    ∃ fd : FuncData, (∀ (s : Shared) (u : Value), BindsTo s fd ⟨[u], []⟩ [("script", u)]) ∧ ∀ base : Heap, K.In base → base.Ns mainGlobals mg → Ev.FnOkG P w K mg base (L2.CX P w) (k + 5) fa fd ["script"] (Ev.spF K (pg.ca K) 1 (Ev.runL pg fr_law Wn k)) := by
  obtain ⟨fd, F⟩ := Ev.saysD c (r := fr_law) (List.mem_map_of_mem (List.mem_append_right _ (by simp)))
  have e := hmg.symm.trans (He.glo_ok inK G (Ev.saysF c (f := .glo "law") (List.mem_append_right _ (by simp))))
  cases e
  have b := L2.FunD.bindsA (ps := ["script"]) F fun _ _ _ _ _ _ us hl => match us, hl with | [_], _ => rfl
  refine ⟨fd, fun s u => b s [u] rfl, fun base B N => ?_⟩
  have tb := Ev.tab_of (Pg := pg) B N c (fun f hf => List.mem_append_left _ hf) (fun r hr => List.mem_map_of_mem (List.mem_append_left _ hr)) bdAll (by decide +kernel) (by decide +kernel)
  exact Ev.law_okG tb good k sc_law co_law (He5.fun_of F)
theorem main_run : ∀ ns : List Int, ns.length ≤ 63 → ∃ S', Ev.runL pg fr_law 100 200 [.lst (ns.map .int)] [] = .ok (.bl true) S' := fun ns h => by
  unfold Ev.runL
  rw [pg_T]
  exact law_main ns h
end Lw
theorem PySem.Challenge.cw_wirewebs_k02_webs_judged_holds : PySem.Challenge.rw_wirewebs_k02_webs_judged.Holds := by
  w_on; o_law
  refine HandSHeadRun.head_any (r := OpenLaw.row PySem.Challenge.rw_wirewebs_k02_webs_judged) (q := view (OpenLaw.row PySem.Challenge.rw_wirewebs_k02_webs_judged).prog [42]) (H := Lw.hk) (ob := Lw.ob) (M := 20000) (loose := Lw.loose) (d := HandSHeadRun.topDef (OpenLaw.row PySem.Challenge.rw_wirewebs_k02_webs_judged).prog 42) (kwd := []) Lw.ob_eq
    (by kernel_rfl) (fun s => by kernel_rfl) Lw.run (by kernel_rfl) (by kernel_rfl) (by kernel_rfl) (by rfl) (by first | assumption | decide +kernel) (by decide +kernel) ⟨rfl, rfl, rfl, rfl, rfl, by decide +kernel⟩ ?hw ?hc
  case hw => w_witness2
  case hc =>
    refine Ev.walk_ofG (l := PySem.Challenge.rw_wirewebs_k02_webs_judged) (n := 63) (k := 205) (x := "script") (CX := fun w => L2.CX (PySem.Challenge.rw_wirewebs_k02_webs_judged).prog w) rfl (by decide) (by kernel_rfl) ⟨rfl, by decide, by decide⟩ ?F ?x
    case x => exact fun w H s e s' h => Ev.cx_false h
    case F =>
      intro w mg fa h Y G hmg0
      obtain ⟨K, inK, c⟩ := Y
      have hmg : mg ("law" : PySem.Str) = some (.ref fa) := by
        have e : (HandSHeadRun.topDef (OpenLaw.row PySem.Challenge.rw_wirewebs_k02_webs_judged).prog 42).name = ("law" : PySem.Str) := by kernel_rfl
        rw [← e]
        exact hmg0
      obtain ⟨fd, hb, hF⟩ := Lw.lawFacts (P := (PySem.Challenge.rw_wirewebs_k02_webs_judged).prog) (w := w) inK G hmg c 100 200
      exact ⟨K, fd, _, inK, hb, fun H a ns hl _ hS => Ev.law_sp (n := 63) (by decide) Lw.main_run H a ns hl hS, hF⟩

