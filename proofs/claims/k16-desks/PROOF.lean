import PyProof.Rows.All
import Wide.All
import OpenK.AllK
import Wide.FinOn
import HandS.ForMost
import HandS.ForExc
import HandS.Wide
import HandS.TupAny
import HandS.Deep
import HandS.SortOrd
import HandS.SortRule
import HandS.SortInts
import HandS.TryMany
import HandS.IsInst
import KE.GoesMore
import KE.GoesEnum
import KE.GoesZip
import KE.DatumOrd
import KE.KTupSum
import HandS.Style
import KE.KDictKeyed
import HandS.Conv
import HandS.SetFor
import HandS.Strs
import HandS.Star
import KE.KRevSl
import HandS.Property
import HandS.ExcInit
import KE.KExcInit
import KE.KTryMore
import HandS.Codes
import PyProof.ExcBaseAll.OverflowError
import PyProof.ExcBaseAll.ValueError
import PyProof.ExcBaseAll.RuntimeError
import HandS.HeadHook1
import HandS.HeadHook2
import HandS.Defaults
import HandS.Head0
import HandS.Head1
import HandS.Head2
import HandS.HeadEnd
import PySem.Challenge.RW_gaugemarks_k16_desks_by_hand
set_option Elab.async false
set_option linter.all false
set_option maxRecDepth 100000
set_option autoImplicit false

namespace GP
open PySem


inductive D where
  | non | bl (b : Bool) | int (i : Int) | str (s : Str)
  | tup (xs : List D) | lst (xs : List D)
  | dic (ks vs : List D)
  | obj (n : Nat)
  | exo (c : Nat) (fs : List D)
  | clo (f : Nat) (cap : List D)


inductive Sl where
  | emp | val (d : D) | own (xs : List D) | ownd (ks vs : List D) | keys (ks : List D)

inductive WO where
  | dict (kvs : List (Str × D))
  | inst (c : Nat) (fs : List (Str × D))
structure S where
  ρ : List Sl
  W : List WO
inductive Out (α : Type) where
  | val (a : α) | exc (x : D)
abbrev R (α : Type) := Option (Out α × S)

inductive Bop where | add | sub | mul | fdiv | mod | pow
inductive Cop where | eq | ne | lt | le | gt | ge | isin | nin | is
  deriving DecidableEq
inductive Blt where | len | min2 | max2 | min1 | max1 | sorted | list | tuple | sset | sum | all | int | str | repr
  deriving DecidableEq
inductive Mth where | split | join | index | get
  deriving DecidableEq
inductive Ty where | int | bool | str | tuple | list | cls (c : Nat)
inductive CG where | nm (i : Nat) | tp (l : List Nat)

mutual
inductive CE where
  | var (i : Nat)
  | con (d : D)
  | glob (g : Nat)
  | bin (op : Bop) (a b : CE)
  | neg (a : CE)
  | notv (a : CE)
  | andv (a b : CE)
  | orv (a b : CE)
  | cmp (op : Cop) (a b : CE)
  | isN (a : CE)
  | isnN (a : CE)
  | chain (o p : Cop) (a b c : CE)
  | ite (t : CT) (a b : CE)
  | tup (es : List CE)
  | tups (a : CE) (es : List CE)
  | lst (es : List CE)
  | dnew
  | knew
  | klist (x : Nat)
  | rlist (a b : CE)
  | rtup (a : CE)
  | dint (k : Int) (a : CE)
  | bisin (x : Nat) (neg : Bool) (a : CE)
  | wd (ks : List Str) (es : List CE)
  | idx (a i : CE)
  | bidx (x : Nat) (k : Int)
  | bemp (x : Nat) (neg : Bool)
  | slc (a : CE) (lo hi : Option CE)
  | rev (a : CE)
  | call (f : Nat) (es : List CE)
  | callk (f : Nat) (es es2 : List CE) (ix : List Nat)
  | blt (b : Blt) (es : List CE)
  | isi (a : CE) (t : Ty)
  | mth (m : Mth) (a b : CE)
  | bget (x : Nat) (k d : CE)
  | comp (elt : CE) (tg : CG) (it : CI) (cond : Option CT) (own : List Nat)
  | fld (a : CE) (k : Str)
  | prop (f c : Nat) (k : Str) (a : CE)
  | meth (f c : Nat) (k : Str) (a : CE) (es : List CE) (ds : List D)
  | make (f c : Nat) (es : List CE)
inductive CT where
  | val (e : CE) | not (t : CT) | and (a b : CT) | or (a b : CT)
inductive CI where
  | seq (e : CE) | rng1 (a : CE) | rng2 (a b : CE) | rng3 (a b : CE) (c : Int) | enm (e : CE) | zip (a b : CE) | zip3 (a b c : CE) | items (e : CE)
end
mutual
inductive CS where
  | set (i : Nat) (e : CE)
  | unp (l : List Nat) (e : CE)
  | par (l : List Nat) (es : List CE)
  | pars (i x : Nat) (k : Str) (a b : CE)
  | sub (x : Nat) (k e : CE)
  | aug (i : Nat) (op : Bop) (e : CE)
  | app (x : Nat) (e : CE)
  | ext (x : Nat) (e : CE)
  | expr (e : CE)
  | ret (e : CE)
  | retN
  | ite (t : CT) (a b : List CS)
  | for_ (tg : CG) (it : CI) (body : List CS)
  | whl (t : CT) (body : List CS)
  | cont
  | pass
  | raise (e : CE)
  | rais (c n : Nat) (es : List CE)
  | fst (o : CE) (k : Str) (e : CE)
  | tryg (body : List CS) (tk : List Nat) (g : CE)
end


mutual
def toPy : D → Option PyData
  | .non => some .none
  | .bl b => some (.bool b)
  | .int i => some (.int i)
  | .str s => some (.str s)
  | .tup xs => (toPyL xs).map .tuple
  | .lst xs => (toPyL xs).map .list
  | _ => none
def toPyL : List D → Option (List PyData)
  | [] => some []
  | x :: xs => match toPy x, toPyL xs with
    | some a, some b => some (a :: b)
    | _, _ => none
end

def eqD (d e : D) : Option Bool := match toPy d, toPy e with
  | some p, some q => if SeqAt.shaped p && SeqAt.shaped q then some (PyData.eqv p q) else none
  | _, _ => none

def sizeB (n : Nat) : Bool := decide (n ≤ sizeLine)
def mulOk (i j : Int) : Bool := decide (i.natAbs.log2 + j.natAbs.log2 < 1000000)

def addD : D → D → Option Sl
  | .int i, .int j => some (.val (.int (i + j)))
  | .str a, .str b => if sizeB (a.length + b.length) then some (.val (.str (a ++ b))) else none
  | .tup a, .tup b => if sizeB (a.length + b.length) then some (.val (.tup (a ++ b))) else none
  | .lst a, .lst b => if sizeB (a.length + b.length) then some (.own (a ++ b)) else none
  | _, _ => none
def subD : D → D → Option Sl
  | .int i, .int j => some (.val (.int (i - j)))
  | _, _ => none
def mulD : D → D → Option Sl
  | .int i, .int j => if mulOk i j then some (.val (.int (i * j))) else none
  | .str z, .int k => if decide (2 ≤ k ∧ k ≤ 1000) && decide (0 < z.length ∧ z.length ≤ 1000) then some (.val (.str ⟨(List.replicate k.toNat z.cps).foldl (· ++ ·) #[]⟩)) else none
  | .lst a, .int k => if decide (-(2 ^ 63) ≤ k ∧ k < 2 ^ 63) && sizeB (a.length * k.toNat) then some (.own (List.replicate k.toNat a).flatten) else none
  | _, _ => none
def fdivD : D → D → Option Sl
  | .int i, .int j => if decide (0 < j ∧ j.natAbs.log2 < 9000) then some (.val (.int (i / j))) else none
  | _, _ => none
def modD : D → D → Option Sl
  | .int i, .int j => if decide (0 < j) then some (.val (.int (i % j))) else none
  | _, _ => none
def powD : D → D → Option Sl
  | .int i, .int j => if decide (0 ≤ j ∧ j ≤ 1000000 ∧ i.natAbs < 2 ^ 64) then some (.val (.int (i ^ j.toNat))) else none
  | _, _ => none
def binD : Bop → D → D → Option Sl
  | .add => addD
  | .sub => subD
  | .mul => mulD
  | .fdiv => fdivD
  | .mod => modD
  | .pow => powD


def flatD : D → Bool
  | .non | .bl _ | .int _ | .str _ => true
  | _ => false
def inD : D → D → Option Bool
  | d, .lst xs => match toPy d, toPyL xs with
    | some p, some ps => if SeqAt.shaped p && SeqAt.shaped (.list ps) then some (ps.any fun z => PyData.eqv z p) else none
    | _, _ => none
  | d, .tup xs => match toPy d, toPyL xs with
    | some p, some ps => if flatD d && xs.all flatD then some (ps.any fun z => PyData.eqv z p) else none
    | _, _ => none
  | .str a, .str b => some (!(Builtin.Str.occurrences b a 0 b.length 1).isEmpty)
  | _, _ => none

def ltD : D → D → Option Bool
  | .int i, .int j => some (decide (i < j))
  | _, _ => none
def leD : D → D → Option Bool
  | .int i, .int j => some (decide (i ≤ j))
  | _, _ => none
def isD : D → D → Option Bool
  | .bl i, .bl j => some (decide (i = j))
  | _, _ => none
def cmpD (op : Cop) (a b : D) : Option Bool := match op with
  | .eq => eqD a b
  | .ne => (eqD a b).map (!·)
  | .lt => ltD a b
  | .le => leD a b
  | .gt => ltD b a
  | .ge => leD b a
  | .isin => inD a b
  | .nin => (inD a b).map (!·)
  | .is => isD a b
end GP

set_option Elab.async false
set_option linter.all false
set_option maxRecDepth 100000
set_option autoImplicit false

namespace GP
open PySem

def okv {α : Type} (a : α) (s : S) : R α := some (.val a, s)
def bnd {α β : Type} (r : R α) (f : α → S → R β) : R β := match r with
  | some (.val a, s) => f a s
  | some (.exc x, s) => some (.exc x, s)
  | none => none
def lft {α : Type} (o : Option α) (s : S) : R α := match o with
  | some a => some (.val a, s)
  | none => none
@[simp] theorem bnd_val {α β : Type} (a : α) (s : S) (f : α → S → R β) : bnd (some (.val a, s)) f = f a s := rfl
@[simp] theorem bnd_okv {α β : Type} (a : α) (s : S) (f : α → S → R β) : bnd (okv a s) f = f a s := rfl
@[simp] theorem bnd_none {α β : Type} (f : α → S → R β) : bnd (none : R α) f = none := rfl
@[simp] theorem bnd_exc {α β : Type} (x : D) (s : S) (f : α → S → R β) : bnd (some (.exc x, s) : R α) f = some (.exc x, s) := rfl
@[simp] theorem lft_some {α : Type} (a : α) (s : S) : lft (some a) s = okv a s := rfl
@[simp] theorem lft_none {α : Type} (s : S) : lft (none : Option α) s = none := rfl

def Sl.fz : Sl → Option D
  | .val d => some d
  | .own xs => some (.lst xs)
  | .ownd ks vs => some (.dic ks vs)
  | .keys _ => none
  | .emp => none
def frz (r : R Sl) : R D := bnd r fun sl s => lft sl.fz s

def S.put (s : S) (i : Nat) (x : Sl) : S := { s with ρ := s.ρ.set i x }


def cut {α : Type} (xs : List α) (lo hi : Option Int) : List α := (xs.drop (HT.sIx xs.length 0 lo)).take (HT.sIx xs.length xs.length hi - HT.sIx xs.length 0 lo)
def idxD : D → D → Option D
  | .lst xs, .int i => L2.atI xs i
  | .tup xs, .int i => L2.atI xs i
  | .str z, .int i => if sizeB z.length then (L2.atI z.cps.toList i).map fun c => .str ⟨#[c]⟩ else none
  | _, _ => none
def idxW (W : List WO) : D → D → Option D
  | .obj n, .str k => match W[n]? with
    | some (.dict kvs) => kvs.lookup k
    | _ => none
  | a, b => idxD a b
def intO : D → Option Int
  | .int i => some i
  | _ => none
def slcD (d : D) (lo hi : Option Int) : Option Sl := match d with
  | .lst xs => some (.own (cut xs lo hi))
  | .tup xs => some (.val (.tup (cut xs lo hi)))
  | .str z => if sizeB z.length then some (.val (.str (L2.cutS z lo hi))) else none
  | _ => none
def revD : D → Option Sl
  | .tup xs => some (.val (.tup xs.reverse))
  | _ => none
def itemsOf : D → Option (List D)
  | .lst xs => some xs
  | .tup xs => some xs
  | _ => none
def walkOf : D → Option (List D)
  | .lst xs => some xs
  | .tup xs => some xs
  | .str z => some (z.cps.toList.map fun c => .str ⟨#[c]⟩)
  | _ => none
def allSome {α β : Type} (f : α → Option β) : List α → Option (List β)
  | [] => some []
  | x :: xs => match f x, allSome f xs with
    | some a, some b => some (a :: b)
    | _, _ => none
def intsO (xs : List D) : Option (List Int) := allSome intO xs
def blO : D → Option Bool
  | .bl b => some b
  | _ => none
def strO : D → Option Str
  | .str z => some z
  | _ => none


def elemNum : D → Option Int
  | .int i => some i
  | .bl b => some (if b then 1 else 0)
  | _ => none
def keyO : D → Option (List Int)
  | .tup xs => allSome elemNum xs
  | _ => none
def lexLe : List Int → List Int → Bool
  | [], _ => true
  | _ :: _, [] => false
  | x :: xs, y :: ys => if x < y then true else if y < x then false else lexLe xs ys
def insBy {α : Type} (le : α → α → Bool) (x : α) : List α → List α
  | [] => [x]
  | y :: ys => if le x y then x :: y :: ys else y :: insBy le x ys
def sortBy {α : Type} (le : α → α → Bool) : List α → List α
  | [] => []
  | x :: xs => insBy le x (sortBy le xs)
def dedup : List Int → List Int
  | [] => []
  | [x] => [x]
  | x :: y :: r => if x = y then dedup (y :: r) else x :: dedup (y :: r)
def shape : D → Option (List Bool)
  | .tup xs => allSome (fun | .int _ => some true | .bl _ => some false | _ => none) xs
  | _ => none

def sameShape : List D → Bool
  | [] => true
  | x :: xs => (shape x).isSome && xs.all fun y => shape y == shape x
def pairOf : D → Option (Int × Int)
  | .tup [.int i, .int j] => some (i, j)
  | _ => none
def ltPr (p q : Int × Int) : Bool := if p.1 = q.1 then decide (p.2 < q.2) else decide (p.1 < q.1)
def unpair (p : Int × Int) : D := .tup [.int p.1, .int p.2]
def b01 (b : Bool) : Int := if b then 1 else 0
abbrev T3 := Int × Bool × Bool
def lt3 (p q : T3) : Bool := if p.1 = q.1 then (if p.2.1 = q.2.1 then decide (b01 p.2.2 < b01 q.2.2) else decide (b01 p.2.1 < b01 q.2.1)) else decide (p.1 < q.1)
def triOf : D → Option T3
  | .tup [.int i, .bl a, .bl b] => some (i, a, b)
  | _ => none
def untri (p : T3) : D := .tup [.int p.1, .bl p.2.1, .bl p.2.2]
def sortD (xs : List D) : Option (List D) := match intsO xs with
  | some ns => some ((sortBy (fun a b => decide (a ≤ b)) ns).map .int)
  | none => match allSome pairOf xs with
    | some ps => some ((sortBy (fun a b => !ltPr b a) ps).map unpair)
    | none => match allSome triOf xs with
      | some ps => some ((sortBy (fun a b => !lt3 b a) ps).map untri)
      | none => none
def minL : List Int → Option Int
  | [] => none
  | x :: xs => some (xs.foldl (fun a b => if b < a then b else a) x)
def maxL : List Int → Option Int
  | [] => none
  | x :: xs => some (xs.foldl (fun a b => if b > a then b else a) x)

def reprOk (p : PyData) : Bool := PyData.showable p && !PyData.hasDict p && sizeB p.shown.length && decide (p.depth ≤ 64)
def lenD : List D → Option Sl
  | [.lst xs] => some (.val (.int xs.length))
  | [.tup xs] => some (.val (.int xs.length))
  | [.str z] => if sizeB z.length then some (.val (.int z.length)) else none
  | _ => none
def min2D : List D → Option Sl
  | [.int i, .int j] => some (.val (.int (if j < i then j else i)))
  | _ => none
def max2D : List D → Option Sl
  | [.int i, .int j] => some (.val (.int (if j > i then j else i)))
  | _ => none
def min1D : List D → Option Sl
  | [.tup xs] => match intsO xs with
    | some ns => (minL ns).map fun i => .val (.int i)
    | none => none
  | [.lst xs] => match intsO xs with
    | some ns => (minL ns).map fun i => .val (.int i)
    | none => none
  | _ => none
def max1D : List D → Option Sl
  | [.tup xs] => match intsO xs with
    | some ns => (maxL ns).map fun i => .val (.int i)
    | none => none
  | [.lst xs] => match intsO xs with
    | some ns => (maxL ns).map fun i => .val (.int i)
    | none => none
  | _ => none
def sortedD : List D → Option Sl
  | [.lst xs] => (sortD xs).map .own
  | _ => none
def listD : List D → Option Sl
  | [.lst xs] => some (.own xs)
  | [.tup xs] => some (.own xs)
  | _ => none
def tupleD : List D → Option Sl
  | [.lst xs] => some (.val (.tup xs))
  | [.tup xs] => some (.val (.tup xs))
  | _ => none
def sumD : List D → Option Sl
  | [.lst xs] => (intsO xs).map fun ns => .val (.int ns.sum)
  | [.tup xs] => (intsO xs).map fun ns => .val (.int ns.sum)
  | _ => none
def allD : List D → Option Sl
  | [.lst xs] => (allSome blO xs).map fun bs => .val (.bl (bs.all id))
  | _ => none
def intD : List D → Option Sl
  | [.int i] => some (.val (.int i))
  | [.bl b] => some (.val (.int (if b then 1 else 0)))
  | [.str z] => if decide (z.length ≤ 640) then (PySem.intText? z).map fun n => .val (.int n) else none
  | _ => none
def strD : List D → Option Sl
  | [.int i] => if decide (i.natAbs.log2 < 1920) then some (.val (.str (toString i))) else none
  | _ => none
def reprD : List D → Option Sl
  | [d] => match toPy d with
    | some p => if reprOk p then some (.val (.str p.shown)) else none
    | none => none
  | _ => none
def ssetD : List D → Option Sl
  | [.lst xs] => (intsO xs).bind fun ns => if decide (ns.length < 4000) then some (.own ((dedup (sortBy (fun a b => decide (a ≤ b)) ns)).map .int)) else none
  | _ => none
def bltD : Blt → List D → Option Sl
  | .len => lenD
  | .min2 => min2D
  | .max2 => max2D
  | .min1 => min1D
  | .max1 => max1D
  | .sorted => sortedD
  | .list => listD
  | .tuple => tupleD
  | .sset => ssetD
  | .sum => sumD
  | .all => allD
  | .int => intD
  | .str => strD
  | .repr => reprD
def splitD : D → D → Option Sl
  | .str a, .str b => if (b.length == 0) == false && sizeB (a.length + 2) then some (.own ((Txt.split a b).map .str)) else none
  | _, _ => none
def joinD : D → D → Option Sl
  | .str a, .lst xs => match allSome strO xs with
    | some ys => if decide ((ys.map (fun y => y.length)).sum + ys.length * a.length ≤ 16777216) then some (.val (.str (Txt.join a ys))) else none
    | none => none
  | _, _ => none
def indexD : D → D → Option Sl
  | .lst xs, d => match toPyL xs, toPy d with
    | some ps, some p => if SeqAt.shaped (.list ps) && SeqAt.shaped p then (ps.findIdx? fun z => PyData.eqv z p).map fun j => .val (.int (j : Nat)) else none
    | _, _ => none
  | _, _ => none
def mthD : Mth → D → D → Option Sl
  | .split => splitD
  | .join => joinD
  | .index => indexD
  | .get => fun _ _ => none

def mthPre : Mth → D → Bool
  | .index, .lst _ => true
  | .split, .str _ => true
  | .join, .str _ => true
  | _, _ => false
def isiD : D → Ty → Option Bool
  | .non, .cls _ | .bl _, .cls _ | .int _, .cls _ | .str _, .cls _ | .tup _, .cls _ | .lst _, .cls _ => none
  | .bl _, .bool | .bl _, .int | .int _, .int | .str _, .str | .tup _, .tuple | .lst _, .list => some true
  | .non, _ | .bl _, _ | .int _, _ | .str _, _ | .tup _, _ | .lst _, _ => some false
  | _, _ => none
def noneIn (xs : List D) : Option Bool := match toPyL xs with
  | some ps => if SeqAt.shaped (.list ps) then some xs.isEmpty else none
  | none => none
def isNonD : D → Bool
  | .non => true
  | _ => false
def truthD : D → Option Bool
  | .bl b => some b
  | .non => some false
  | .int i => some (i != 0)
  | _ => none

def rangeL (lo : Int) (c : Int) : Nat → List D
  | 0 => []
  | n + 1 => .int lo :: rangeL (lo + c) c n
def rgOkB (i j : Int) : Bool := decide (-(2 ^ 62) ≤ i ∧ i < 2 ^ 62 ∧ -(2 ^ 62) ≤ j ∧ j < 2 ^ 62 ∧ (j - i).toNat ≤ 2 ^ 24)
def rlistD : D → D → Option Sl
  | .int i, .int j => if rgOkB i j then some (.own (rangeL i 1 (j - i).toNat)) else none
  | _, _ => none
def rtupD : D → Option Sl
  | .int j => if rgOkB 0 j then some (.val (.tup (rangeL 0 1 j.toNat))) else none
  | _ => none
def enumL : Nat → List D → List D
  | _, [] => []
  | k, x :: xs => .tup [.int (k : Nat), x] :: enumL (k + 1) xs
def zipL : List D → List D → List D
  | x :: xs, y :: ys => .tup [x, y] :: zipL xs ys
  | _, _ => []
def zipL3 : List D → List D → List D → List D
  | x :: xs, y :: ys, z :: zs => .tup [x, y, z] :: zipL3 xs ys zs
  | _, _, _ => []
def rngOk (i : Int) : Bool := decide (-(2 ^ 62) ≤ i ∧ i < 2 ^ 62)

def setL (s : S) : List Nat → List D → Option S
  | [], [] => some s
  | i :: is, d :: ds => setL (s.put i (.val d)) is ds
  | _, _ => none
def bindG (s : S) : CG → D → Option S
  | .nm i, d => some (s.put i (.val d))
  | .tp l, .tup ds => setL s l ds
  | .tp l, .lst ds => setL s l ds
  | _, _ => none
def CG.ix : CG → List Nat
  | .nm i => [i]
  | .tp l => l


structure Ctx where
  call : Nat → List D → List WO → Option (Out D × List WO)
  gc : Nat → Option D
def Ctx.run (Γ : Ctx) (f : Nat) (ds : List D) (s : S) : R D := match Γ.call f ds s.W with
  | some (.val d, W) => some (.val d, { s with W := W })
  | some (.exc x, W) => some (.exc x, { s with W := W })
  | none => none


def turnsC (f : D → S → R (Option D)) : List D → S → R (List D)
  | [], s => okv [] s
  | x :: xs, s => bnd (f x s) fun o s1 => bnd (turnsC f xs s1) fun r s2 => okv (match o with | some d => d :: r | none => r) s2
inductive Fl where | nx | rt (d : D) | ct
def turnsF (f : D → S → R Fl) : List D → S → R Fl
  | [], s => okv .nx s
  | x :: xs, s => bnd (f x s) fun o s1 => match o with
    | .rt d => okv (.rt d) s1
    | _ => turnsF f xs s1
def turnF (tg : CG) (rb : S → R Fl) : D → S → R Fl := fun x s => match bindG s tg x with
  | none => none
  | some s1 => rb s1
def turnsW (t : S → R Bool) (f : S → R Fl) : Nat → S → R Fl
  | 0, _ => none
  | n + 1, s => bnd (t s) fun b s1 => if b then bnd (f s1) fun o s2 => match o with
      | .rt d => okv (.rt d) s2
      | _ => turnsW t f n s2
    else okv .nx s1
def noExc {α : Type} (r : R α) : R α := match r with
  | some (.val a, s) => some (.val a, s)
  | _ => none

def restore (ρ0 : List Sl) : List Nat → S → S
  | [], s => s
  | i :: is, s => (restore ρ0 is s).put i ((ρ0[i]?).getD .emp)
def isData : Option Sl → Bool
  | some (.val _) => true
  | some .emp => true
  | _ => false
def wipeS : List Nat → S → S
  | [], s => s
  | i :: is, s => (wipeS is s).put i .emp

def turnR (tg : CG) (rc : S → R Bool) (re : S → R Sl) (own : List Nat) : D → S → R (Option D) := fun x s2 => match bindG (wipeS own s2) tg x with
  | none => none
  | some s3 => bnd (rc s3) fun k s4 => if k then bnd (frz (re s4)) fun d s5 => okv (some d) s5 else okv none s4
def compR (ri : S → R (List D)) (tg : CG) (rc : S → R Bool) (re : S → R Sl) (own : List Nat) : S → R Sl := fun s => bnd (ri s) fun xs s1 =>
  if own.all fun i => isData s1.ρ[i]? then bnd (noExc (turnsC (turnR tg rc re own) xs s1)) fun ds s2 => if sizeB xs.length then okv (.own ds) (restore s1.ρ own s2) else none else none
def newDict (ks : List Str) (ds : List D) (s : S) : R Sl := if ks.length = ds.length then some (.val (.val (.obj s.W.length)), { s with W := s.W ++ [.dict (ks.zip ds)] }) else none

def ownDB (s : S) (x : Nat) : Bool := match s.ρ[x]? with
  | some (.ownd _ _) => true
  | _ => false

def kwPut {α : Type} (us ws : List α) (ix : List Nat) : List α := us ++ ix.filterMap fun i => ws[i]?


def fldW (W : List WO) : D → Str → Option D
  | .obj n, k => (match W[n]? with | some (.inst _ fs) => fs.lookup k | _ => none)
  | _, _ => none
def isCls (W : List WO) (x : D) (c : Nat) (k : Str) : Bool := match x with
  | .obj n => (match W[n]? with | some (.inst b fs) => decide (b = c) && (fs.lookup k).isNone | _ => false)
  | _ => false
def putD (k : Str) (v : D) : List (Str × D) → List (Str × D)
  | [] => [(k, v)]
  | (g, x) :: r => if g = k then (g, v) :: r else (g, x) :: putD k v r
def fstW (s : S) (x : D) (k : Str) (v : D) : Option S := match x with
  | .obj n => (match s.W[n]? with | some (.inst c fs) => if decide (fs.length < 1000) then some { s with W := s.W.set n (.inst c (putD k v fs)) } else none | _ => none)
  | _ => none
def newI (c : Nat) (s : S) : S := { s with W := s.W ++ [.inst c []] }
def gotN (n : Nat) (d : D) (s : S) : R Sl := if isNonD d then okv (.val (.obj n)) s else none

mutual
def evO (Γ : Ctx) : CE → S → R Sl
  | .var i, s => match s.ρ[i]? with
    | some sl => match sl.fz with
      | some d => okv (.val d) (s.put i (.val d))
      | none => none
    | none => none
  | .con d, s => okv (.val d) s
  | .glob g, s => lft ((Γ.gc g).map .val) s
  | .bin op a b, s => bnd (frz (evO Γ a s)) fun x s1 => bnd (frz (evO Γ b s1)) fun y s2 => lft (binD op x y) s2
  | .neg a, s => bnd (frz (evO Γ a s)) fun x s1 => lft ((intO x).map fun i => .val (.int (-i))) s1
  | .notv a, s => bnd (frz (evO Γ a s)) fun x s1 => lft ((blO x).map fun i => .val (.bl (!i))) s1
  | .andv a b, s => bnd (frz (evO Γ a s)) fun x s1 => match x with
    | .bl true => evO Γ b s1
    | .bl false => okv (.val (.bl false)) s1
    | _ => none
  | .orv a b, s => bnd (frz (evO Γ a s)) fun x s1 => match x with
    | .bl false => evO Γ b s1
    | .bl true => okv (.val (.bl true)) s1
    | _ => none
  | .cmp op a b, s => bnd (frz (evO Γ a s)) fun x s1 => bnd (frz (evO Γ b s1)) fun y s2 => lft ((cmpD op x y).map fun k => .val (.bl k)) s2
  | .isN a, s => bnd (frz (evO Γ a s)) fun x s1 => okv (.val (.bl (isNonD x))) s1
  | .isnN a, s => bnd (frz (evO Γ a s)) fun x s1 => okv (.val (.bl (!isNonD x))) s1
  | .chain o p a b c, s => bnd (frz (evO Γ a s)) fun x s1 => bnd (frz (evO Γ b s1)) fun y s2 => match cmpD o x y with
    | some true => bnd (frz (evO Γ c s2)) fun z s3 => lft ((cmpD p y z).map fun k => .val (.bl k)) s3
    | some false => okv (.val (.bl false)) s2
    | none => none
  | .ite t a b, s => bnd (evT Γ t s) fun k s1 => if k then evO Γ a s1 else evO Γ b s1
  | .tup es, s => bnd (evL Γ es s) fun ds s1 => if sizeB ds.length then okv (.val (.tup ds)) s1 else none
  | .tups a es, s => bnd (frz (evO Γ a s)) fun x s1 => match x with
    | .tup xs => bnd (evL Γ es s1) fun ds s2 => if sizeB (xs.length + ds.length) then okv (.val (.tup (xs ++ ds))) s2 else none
    | _ => none
  | .lst es, s => bnd (evL Γ es s) fun ds s1 => if sizeB ds.length then okv (.own ds) s1 else none
  | .dnew, s => okv (.ownd [] []) s
  | .knew, s => okv (.keys []) s
  | .rlist a b, s => bnd (frz (evO Γ a s)) fun x s1 => bnd (frz (evO Γ b s1)) fun y s2 => lft (rlistD x y) s2
  | .rtup a, s => bnd (frz (evO Γ a s)) fun x s1 => lft (rtupD x) s1
  | .dint k a, s => bnd (frz (evO Γ a s)) fun x s1 => okv (.ownd [.int k] [x]) s1
  | .bisin x neg a, s => bnd (frz (evO Γ a s)) fun d s1 => match s1.ρ[x]? with
    | some (.own xs) => lft ((inD d (.lst xs)).map fun k => .val (.bl (if neg then !k else k))) s1
    | _ => none
  | .klist x, s => match s.ρ[x]? with
    | some (.keys ks) => if sizeB ks.length then okv (.own ks) s else none
    | _ => none
  | .wd ks es, s => bnd (evL Γ es s) fun ds s1 => newDict ks ds s1
  | .idx a i, s => bnd (frz (evO Γ a s)) fun x s1 => bnd (frz (evO Γ i s1)) fun y s2 => lft ((idxW s2.W x y).map .val) s2
  | .bidx x k, s => match s.ρ[x]? with
    | some (.own xs) => lft ((L2.atI xs k).map .val) s
    | some (.val d) => lft ((idxD d (.int k)).map .val) s
    | _ => none
  | .bemp x neg, s => match s.ρ[x]? with
    | some (.own xs) => lft ((noneIn xs).map fun k => .val (.bl (if neg then !k else k))) s
    | some (.val (.lst xs)) => lft ((noneIn xs).map fun k => .val (.bl (if neg then !k else k))) s
    | _ => none
  | .slc a lo hi, s => bnd (frz (evO Γ a s)) fun x s1 => bnd (evP Γ lo s1) fun l s2 => bnd (evP Γ hi s2) fun h s3 => lft (slcD x l h) s3
  | .rev a, s => bnd (frz (evO Γ a s)) fun x s1 => lft (revD x) s1
  | .call f es, s => bnd (evL Γ es s) fun ds s1 => bnd (Γ.run f ds s1) fun d s2 => okv (.val d) s2
  | .callk f es es2 ix, s => bnd (evL Γ es s) fun ds s1 => bnd (evL Γ es2 s1) fun es' s2 => bnd (Γ.run f (kwPut ds es' ix) s2) fun d s3 => okv (.val d) s3
  | .blt b es, s => bnd (evL Γ es s) fun ds s1 => lft (bltD b ds) s1
  | .isi a t, s => bnd (frz (evO Γ a s)) fun x s1 => lft ((isiD x t).map fun k => .val (.bl k)) s1
  | .mth m a b, s => bnd (frz (evO Γ a s)) fun x s1 => if mthPre m x then bnd (frz (evO Γ b s1)) fun y s2 => lft (mthD m x y) s2 else none
  | .bget x k d, s => if ownDB s x then bnd (frz (evO Γ k s)) fun kd s1 => bnd (frz (evO Γ d s1)) fun dd s2 => match s2.ρ[x]?, kd with
    | some (.ownd ks vs), .int n => lft ((intsO ks).map fun ns => .val (((ns.zip vs).lookup n).getD dd)) s2
    | _, _ => none else none
  | .comp elt tg it cond own, s => compR (evI Γ it) tg (evC Γ cond) (evO Γ elt) own s
  | .fld a k, s => bnd (frz (evO Γ a s)) fun x s1 => lft ((fldW s1.W x k).map .val) s1
  | .prop f c k a, s => bnd (frz (evO Γ a s)) fun x s1 => if isCls s1.W x c k then bnd (noExc (Γ.run f [x] s1)) fun d s2 => okv (.val d) s2 else none
  | .meth f c k a es ds, s => bnd (frz (evO Γ a s)) fun x s1 => if isCls s1.W x c k then bnd (evL Γ es s1) fun xs s2 => bnd (Γ.run f (x :: (xs ++ ds)) s2) fun d s3 => okv (.val d) s3 else none
  | .make f c es, s => bnd (evL Γ es s) fun xs s1 => bnd (Γ.run f (.obj s1.W.length :: xs) (newI c s1)) fun d s2 => gotN s1.W.length d s2
def evL (Γ : Ctx) : List CE → S → R (List D)
  | [], s => okv [] s
  | e :: es, s => bnd (frz (evO Γ e s)) fun d s1 => bnd (evL Γ es s1) fun ds s2 => okv (d :: ds) s2
def evP (Γ : Ctx) : Option CE → S → R (Option Int)
  | none, s => okv none s
  | some e, s => bnd (frz (evO Γ e s)) fun d s1 => lft ((intO d).map some) s1
def evC (Γ : Ctx) : Option CT → S → R Bool
  | none, s => okv true s
  | some t, s => evT Γ t s
def evT (Γ : Ctx) : CT → S → R Bool
  | .val e, s => bnd (frz (evO Γ e s)) fun d s1 => lft (blO d) s1
  | .not t, s => bnd (evT Γ t s) fun b s1 => okv (!b) s1
  | .and a b, s => bnd (evT Γ a s) fun x s1 => if x then evT Γ b s1 else okv false s1
  | .or a b, s => bnd (evT Γ a s) fun x s1 => if x then okv true s1 else evT Γ b s1
def evI (Γ : Ctx) : CI → S → R (List D)
  | .seq e, s => bnd (frz (evO Γ e s)) fun d s1 => lft (walkOf d) s1
  | .rng1 a, s => bnd (frz (evO Γ a s)) fun d s1 => match d with
    | .int j => if rngOk j then okv (rangeL 0 1 j.toNat) s1 else none
    | _ => none
  | .rng2 a b, s => bnd (frz (evO Γ a s)) fun d s1 => bnd (frz (evO Γ b s1)) fun e s2 => match d, e with
    | .int i, .int j => if rngOk i && rngOk j then okv (rangeL i 1 (j - i).toNat) s2 else none
    | _, _ => none
  | .rng3 a b c, s => bnd (frz (evO Γ a s)) fun d s1 => bnd (frz (evO Γ b s1)) fun e s2 => match d, e with
    | .int i, .int j => if rngOk i && rngOk j && c == -1 then okv (rangeL i (-1) (i - j).toNat) s2 else none
    | _, _ => none
  | .enm e, s => bnd (frz (evO Γ e s)) fun d s1 => lft ((itemsOf d).map (enumL 0)) s1
  | .zip a b, s => bnd (frz (evO Γ a s)) fun d s1 => bnd (frz (evO Γ b s1)) fun e s2 => match itemsOf d, itemsOf e with
    | some xs, some ys => okv (zipL xs ys) s2
    | _, _ => none
  | .zip3 a b c, s => bnd (frz (evO Γ a s)) fun d s1 => bnd (frz (evO Γ b s1)) fun e s2 => bnd (frz (evO Γ c s2)) fun f s3 => match itemsOf d, itemsOf e, itemsOf f with
    | some xs, some ys, some zs => okv (zipL3 xs ys zs) s3
    | _, _, _ => none
  | .items e, s => bnd (frz (evO Γ e s)) fun d s1 => match d with
    | .dic ks vs => okv (zipL ks vs) s1
    | _ => none
end

def evOs (Γ : Ctx) : List CE → S → R (List Sl)
  | [], s => okv [] s
  | e :: es, s => bnd (evO Γ e s) fun d s1 => bnd (evOs Γ es s1) fun ds s2 => okv (d :: ds) s2
def setO (s : S) : List Nat → List Sl → Option S
  | [], [] => some s
  | i :: is, d :: ds => setO (s.put i d) is ds
  | _, _ => none
def putKV {α : Type} (k : Str) (v : α) (l : List (Str × α)) : List (Str × α) := l.map fun p => if p.1 = k then (p.1, v) else p
def putI (n : Int) (v : D) (ns : List Int) (vs : List D) : List D × List D :=
  if (ns.any fun k => decide (k = n)) = true then (ns.map .int, List.zipWith (fun k x => if k = n then v else x) ns vs) else (ns.map .int ++ [.int n], vs ++ [v])
def subW (s : S) (n : Nat) (k : Str) (v : D) : Option S := match s.W[n]? with
  | some (.dict kvs) => if (kvs.lookup k).isSome && sizeB (kvs.length + 1) then some { s with W := s.W.set n (.dict (putKV k v kvs)) } else none
  | _ => none
def isSet (s : S) (x : Nat) : Bool := match s.ρ[x]? with
  | some .emp => false
  | none => false
  | _ => true
def isTrueD : D → Bool
  | .bl true => true
  | _ => false

def keyOk (es : List D) : Bool := (keyO (.tup es)).isSome && !es.isEmpty && decide (es.length ≤ 7)
def addK (k : D) (ks : List D) : List D := if (ks.any fun z => decide (keyO z = keyO k)) = true then ks else ks ++ [k]
def subS (s : S) (x : Nat) (k v : D) : Option S := match s.ρ[x]?, k with
  | some (.own xs), .int i => (L2.ixN xs.length i).map fun j => s.put x (.own (xs.set j v))
  | some (.keys ks), .tup es => if isTrueD v && keyOk es && sizeB (ks.length + 1) then some (s.put x (.keys (addK (.tup es) ks))) else none
  | some (.ownd ks vs), .int n => (intsO ks).bind fun ns => if sizeB (ns.length + 1) then some (s.put x (.ownd (putI n v ns vs).1 (putI n v ns vs).2)) else none
  | some (.val (.obj n)), .str y => subW s n y v
  | _, _ => none

def ownL (s : S) (x : Nat) : Bool := match s.ρ[x]? with
  | some (.own _) => true
  | _ => false
def appS (s : S) (x : Nat) (d : D) : Option S := match s.ρ[x]? with
  | some (.own xs) => if decide (xs.length < sizeLine) then some (s.put x (.own (xs ++ [d]))) else none
  | _ => none
def extS (s : S) (x : Nat) (d : D) : Option S := match s.ρ[x]?, d with
  | some (.own xs), .lst ys => if sizeB (xs.length + ys.length) then some (s.put x (.own (xs ++ ys))) else none
  | _, _ => none

mutual
def evS (Γ : Ctx) : CS → S → R Fl
  | .set i e, s => bnd (evO Γ e s) fun x s1 => okv .nx (s1.put i x)
  | .unp l e, s => bnd (frz (evO Γ e s)) fun d s1 => match itemsOf d with
    | some ds => (match setL s1 l ds with | some s2 => okv .nx s2 | none => none)
    | none => none
  | .par l es, s => bnd (evOs Γ es s) fun ds s1 => match setO s1 l ds with
    | some s2 => okv .nx s2
    | none => none
  | .pars i x k a b, s => bnd (frz (evO Γ a s)) fun d s1 => bnd (frz (evO Γ b s1)) fun e s2 => match subS (s2.put i (.val d)) x (.str k) e with
    | some s3 => okv .nx s3
    | none => none
  | .sub x k e, s => bnd (frz (evO Γ e s)) fun d s1 => if isSet s1 x then bnd (frz (evO Γ k s1)) fun kd s2 => match subS s2 x kd d with
    | some s3 => okv .nx s3
    | none => none else none
  | .aug i op e, s => match s.ρ[i]? with
    | some (.val (.int a)) => bnd (frz (evO Γ e s)) fun d s1 => (match op, d with
      | .add, .int b => okv .nx (s1.put i (.val (.int (a + b))))
      | _, _ => none)
    | _ => none
  | .app x e, s => if ownL s x then bnd (frz (evO Γ e s)) fun d s1 => (match appS s1 x d with | some s2 => okv .nx s2 | none => none) else none
  | .ext x e, s => if ownL s x then bnd (frz (evO Γ e s)) fun d s1 => (match extS s1 x d with | some s2 => okv .nx s2 | none => none) else none
  | .expr e, s => bnd (evO Γ e s) fun _ s1 => okv .nx s1
  | .ret e, s => bnd (frz (evO Γ e s)) fun d s1 => okv (.rt d) s1
  | .retN, s => okv (.rt .non) s
  | .ite t a b, s => bnd (evT Γ t s) fun k s1 => if k then evSs Γ a s1 else evSs Γ b s1
  | .for_ tg it body, s => bnd (evI Γ it s) fun xs s1 => turnsF (turnF tg (evSs Γ body)) xs s1
  | .whl t body, s => turnsW (evT Γ t) (evSs Γ body) 1000 s
  | .cont, s => okv .ct s
  | .pass, s => okv .nx s
  | .raise _, _ => none
  | .rais c n es, s => bnd (evL Γ es s) fun ds s1 => if ds.length = n then some (.exc (.exo c ds.reverse), s1) else none
  | .fst o k e, s => bnd (frz (evO Γ e s)) fun d s1 => bnd (frz (evO Γ o s1)) fun x s2 => match fstW s2 x k d with
    | some s3 => okv .nx s3
    | none => none
  | .tryg body tk g, s => match evSs Γ body s with
    | some (.exc (.exo c fs), s1) => if tk.contains c then bnd (frz (evO Γ g s1)) fun d s2 => okv (.rt d) s2 else some (.exc (.exo c fs), s1)
    | some (.exc _, _) => none
    | y => y
def evSs (Γ : Ctx) : List CS → S → R Fl
  | [], s => okv .nx s
  | c :: cs, s => bnd (evS Γ c s) fun o s1 => match o with
    | .nx => evSs Γ cs s1
    | y => okv y s1
end


structure Fn where
  np : Nat
  ns : Nat
  body : List CS
def callK (T : Nat → Option Fn) (gc : Nat → Option D) : Nat → Nat → List D → List WO → Option (Out D × List WO)
  | 0, _, _, _ => none
  | k + 1, f, ds, W => match T f with
    | none => none
    | some F => if ds.length = F.np then
        match evSs ⟨callK T gc k, gc⟩ F.body ⟨ds.map .val ++ List.replicate (F.ns - F.np) .emp, W⟩ with
        | some (.val .nx, s) => some (.val .non, s.W)
        | some (.val (.rt d), s) => some (.val d, s.W)
        | some (.exc x, s) => some (.exc x, s.W)
        | _ => none
      else none
end GP

set_option Elab.async false
set_option linter.all false
set_option maxRecDepth 100000
set_option autoImplicit false

namespace GP
open PySem SrtO
section
variable {α : Type} {lt : α → α → Bool}
theorem insBy_parts (x : α) : ∀ ys : List α, ∃ A B, ys = A ++ B ∧ insBy (fun a b => !lt b a) x ys = A ++ x :: B ∧ (∀ a ∈ A, lt a x = true) ∧ (∀ y B', B = y :: B' → lt y x = false)
  | [] => ⟨[], [], rfl, rfl, fun a h => (nomatch h), fun y B' h => (nomatch h)⟩
  | y :: ys => by
    unfold insBy
    cases q : lt y x with
    | false =>
      refine ⟨[], y :: ys, rfl, ?_, fun a h => (nomatch h), fun z B' h => by cases h; exact q⟩
      simp [q]
    | true =>
      obtain ⟨A, B, e1, e2, e3, e4⟩ := insBy_parts x ys
      refine ⟨y :: A, B, by rw [e1]; rfl, ?_, fun a h => ?_, e4⟩
      · simp [q, e2]
      · rcases List.mem_cons.mp h with rfl | h
        · exact q
        · exact e3 a h
theorem insBy_ok (O : Swo lt) (x : α) {ys : List α} (hs : Srtd lt ys) : Srtd lt (insBy (fun a b => !lt b a) x ys) ∧ Stb lt (insBy (fun a b => !lt b a) x ys) (x :: ys) := by
  obtain ⟨A, B, e1, e2, e3, e4⟩ := insBy_parts (lt := lt) x ys
  rw [e2]
  rw [e1] at hs ⊢
  obtain ⟨sA, sB, sAB⟩ := srtd_app.mp hs
  have hB : ∀ b ∈ B, lt b x = false := by
    cases B with
    | nil => exact fun b h => (nomatch h)
    | cons y B' =>
      have h1 := e4 y B' rfl
      intro b hb
      rcases List.mem_cons.mp hb with rfl | hb'
      · exact h1
      · exact O.tr x y b h1 (srtd_head sB b hb')
  refine ⟨srtd_app.mpr ⟨sA, List.pairwise_cons.mpr ⟨hB, sB⟩, fun a ha b hb => ?_⟩, ⟨List.perm_middle, fun z => ?_⟩⟩
  · rcases List.mem_cons.mp hb with rfl | hb
    · exact O.asym _ _ (e3 a ha)
    · exact sAB a ha b hb
  · rw [List.filter_append, List.filter_cons, List.filter_cons, List.filter_append]
    cases q : eqv lt z x with
    | false => simp
    | true =>
      have hA : A.filter (eqv lt z) = [] := List.filter_eq_nil_iff.mpr fun a ha h => by
        obtain ⟨h1, h2⟩ := eqv_iff.mp h
        obtain ⟨q1, q2⟩ := eqv_iff.mp q
        have := e3 a ha
        have c := O.tr x z a q1 h2
        rw [this] at c
        cases c
      rw [hA]
      simp
theorem sortBy_ok (O : Swo lt) : ∀ xs : List α, Srtd lt (sortBy (fun a b => !lt b a) xs) ∧ Stb lt (sortBy (fun a b => !lt b a) xs) xs
  | [] => ⟨List.Pairwise.nil, Stb.refl _⟩
  | x :: xs => by
    obtain ⟨h1, h2⟩ := sortBy_ok O xs
    obtain ⟨h3, h4⟩ := insBy_ok O x h1
    exact ⟨h3, h4.trans (Stb.app (Stb.refl [x]) h2)⟩
theorem Stb.symm' {l m : List α} (h : Stb lt l m) : Stb lt m l := ⟨h.perm.symm, fun x => (h.cls x).symm⟩
theorem sortBy_uniq (O : Swo lt) {xs ys : List α} (h1 : Srtd lt ys) (h2 : Stb lt ys xs) : ys = sortBy (fun a b => !lt b a) xs :=
  let ⟨h3, h4⟩ := sortBy_ok O xs
  stb_uniq O h1 h3 (h2.trans (Stb.symm' h4))
end
theorem insBy_map {α β : Type} {le : α → α → Bool} {le' : β → β → Bool} {f : α → β} (h : ∀ a b, le a b = le' (f a) (f b)) (x : α) : ∀ ys : List α, (insBy le x ys).map f = insBy le' (f x) (ys.map f)
  | [] => rfl
  | y :: ys => by
    unfold insBy
    rw [h x y]
    cases q : le' (f x) (f y) with
    | true => simp [q]
    | false => simp [q]; exact insBy_map h x ys
theorem sortBy_map {α β : Type} {le : α → α → Bool} {le' : β → β → Bool} {f : α → β} (h : ∀ a b, le a b = le' (f a) (f b)) : ∀ ys : List α, (sortBy le ys).map f = sortBy le' (ys.map f)
  | [] => rfl
  | y :: ys => by
    show (insBy le y (sortBy le ys)).map f = insBy le' (f y) (sortBy le' (ys.map f))
    rw [insBy_map h, sortBy_map h ys]
theorem intLt_swo : Swo (fun a b : Int => decide (a < b)) := ⟨fun x y h => by simp at h ⊢; omega, fun x y z h1 h2 => by simp at h1 h2 ⊢; omega⟩
theorem int_le_eq : (fun a b : Int => decide (a ≤ b)) = fun a b => !decide (b < a) := by
  funext a b
  by_cases h : a ≤ b
  · rw [decide_eq_true h, decide_eq_false (by omega)]; rfl
  · rw [decide_eq_false h, decide_eq_true (by omega)]; rfl
theorem sortInt_uniq {xs ys : List Int} (h1 : ys.Perm xs) (h2 : ys.Pairwise (· ≤ ·)) : ys = sortBy (fun a b => decide (a ≤ b)) xs := by
  obtain ⟨h3, h4⟩ := sortBy_ok intLt_swo xs
  rw [int_le_eq]
  have h3' : (sortBy (fun a b => !decide (b < a)) xs).Pairwise (· ≤ ·) := h3.imp fun {a b} h => by simpa using h
  exact List.Perm.eq_of_pairwise (fun x y _ _ h1 h2 => Int.le_antisymm h1 h2) h2 h3' (h1.trans h4.perm.symm)
end GP

set_option Elab.async false
set_option linter.all false
set_option maxRecDepth 100000
set_option autoImplicit false

namespace GP
open PySem PySem.Spec L2
abbrev St := L2.St


structure En where
  K : PySem.W.Frag
  cls : Nat → Option Addr
  ins : Nat → Option Addr
  fld : Nat → List Str


def FzL (K : PySem.W.Frag) (H : Hp) (a : Addr) (xs : List V) : Prop := (∃ o, H a = some (.frz o (.lst xs))) ∨ ((∃ ns : List Int, xs = ns.map V.int) ∧
    ∃ (its : List Value) (n : Nat), K.lookup a = some { cls := .type "list", data := .seq its.toArray n } ∧ its.length ≤ sizeLine ∧ Vals xs its)
theorem FzL.sq {K : PySem.W.Frag} {H : Hp} {a : Addr} {xs : List V} (h : FzL K H a xs) : SqL K H a xs := by
  rcases h with h | ⟨_, its, n, h, z, r⟩
  · exact .inl (.inr h)
  · exact .inr ⟨_, its.toArray, n, h, rfl, rfl, rfl, by rw [List.size_toArray]; exact z, by simpa using r⟩


def TpL (K : PySem.W.Frag) (H : Hp) (a : Addr) (xs : List V) : Prop := H a = some (.tup xs) ∨ ((∃ (z : Str) (zs : List Str), xs = (z :: zs).map V.str) ∧
    ∃ (o : Obj) (its : Array Value) (n : Nat), K.lookup a = some o ∧ o.cls = .type "tuple" ∧ o.data = .seq its n ∧ its.size ≤ sizeLine ∧ Vals xs its.toList)
theorem TpL.sq {K : PySem.W.Frag} {H : Hp} {a : Addr} {xs : List V} (h : TpL K H a xs) : SqT K H a xs := by
  rcases h with h | ⟨_, h⟩
  · exact .inl (.inl h)
  · exact .inr h
mutual
inductive Dat (e : En) (m : List Addr) (H : Hp) : V → D → Prop
  | non : Dat e m H .non .non
  | bl (b : Bool) : Dat e m H (.bl b) (.bl b)
  | int (i : Int) : Dat e m H (.int i) (.int i)
  | str (z : Str) : Dat e m H (.str z) (.str z)
  | tup {a : Addr} {vs : List V} {ds : List D} : TpL e.K H a vs → DatL e m H vs ds → Dat e m H (.ref a) (.tup ds)
  | lst {a : Addr} {vs : List V} {ds : List D} : FzL e.K H a vs → DatL e m H vs ds → Dat e m H (.ref a) (.lst ds)
  | dic {a : Addr} {o : Obj} {kvs : List (Key × V)} {ks vs : List D} : H a = some (.frz o (.dK kvs)) → DatL e m H (kvs.map fun p => kV p.1) ks → DatL e m H (kvs.map fun p => p.2) vs → Dat e m H (.ref a) (.dic ks vs)
  | obj {a : Addr} {n : Nat} : m[n]? = some a → Dat e m H (.ref a) (.obj n)
inductive DatL (e : En) (m : List Addr) (H : Hp) : List V → List D → Prop
  | nil : DatL e m H [] []
  | cons {v : V} {d : D} {vs : List V} {ds : List D} : Dat e m H v d → DatL e m H vs ds → DatL e m H (v :: vs) (d :: ds)
end

section
variable {e : En} {m : List Addr} {H : Hp}
theorem DatL.length {vs : List V} {ds : List D} (h : DatL e m H vs ds) : vs.length = ds.length := by
  induction ds generalizing vs with
  | nil => cases h; rfl
  | cons d ds ih => cases h with | cons h t => rw [List.length_cons, List.length_cons, ih t]
theorem DatL.get {vs : List V} {ds : List D} {i : Nat} {d : D} (h : DatL e m H vs ds) (hd : ds[i]? = some d) : ∃ v, vs[i]? = some v ∧ Dat e m H v d := by
  induction ds generalizing vs i with
  | nil => simp at hd
  | cons x ds ih => cases h with
    | cons h t => cases i with
      | zero => simp at hd; subst hd; exact ⟨_, rfl, h⟩
      | succ i => simp at hd; obtain ⟨v, q, r⟩ := ih t hd; exact ⟨v, by simpa using q, r⟩
theorem DatL.getV {vs : List V} {ds : List D} {i : Nat} {v : V} (h : DatL e m H vs ds) (hd : vs[i]? = some v) : ∃ d, ds[i]? = some d ∧ Dat e m H v d := by
  induction ds generalizing vs i with
  | nil => cases h; simp at hd
  | cons x ds ih => cases h with
    | cons h t => cases i with
      | zero => simp at hd; subst hd; exact ⟨_, rfl, h⟩
      | succ i => simp at hd; obtain ⟨v, q, r⟩ := ih t hd; exact ⟨v, by simpa using q, r⟩
theorem DatL.append {vs us : List V} {ds es : List D} (h : DatL e m H vs ds) (h' : DatL e m H us es) : DatL e m H (vs ++ us) (ds ++ es) := by
  induction ds generalizing vs with
  | nil => cases h; exact h'
  | cons d ds ih => cases h with | cons h t => exact .cons h (ih t)
theorem DatL.take {vs : List V} {ds : List D} (h : DatL e m H vs ds) (n : Nat) : DatL e m H (vs.take n) (ds.take n) := by
  induction ds generalizing vs n with
  | nil => cases h; simp; exact .nil
  | cons d ds ih => cases h with
    | cons h t => cases n with
      | zero => exact .nil
      | succ n => exact .cons h (ih t n)
theorem DatL.drop {vs : List V} {ds : List D} (h : DatL e m H vs ds) (n : Nat) : DatL e m H (vs.drop n) (ds.drop n) := by
  induction ds generalizing vs n with
  | nil => cases h; simp; exact .nil
  | cons d ds ih => cases h with
    | cons h t => cases n with
      | zero => exact .cons h t
      | succ n => exact ih t n
theorem DatL.set {vs : List V} {ds : List D} {v : V} {d : D} (h : DatL e m H vs ds) (hd : Dat e m H v d) (i : Nat) : DatL e m H (vs.set i v) (ds.set i d) := by
  induction ds generalizing vs i with
  | nil => cases h; exact .nil
  | cons d' ds ih => cases h with
    | cons h t => cases i with
      | zero => exact .cons hd t
      | succ i => exact .cons h (ih t i)
theorem DatL.rep {vs : List V} {ds : List D} (h : DatL e m H vs ds) (n : Nat) : DatL e m H (List.replicate n vs).flatten (List.replicate n ds).flatten := by
  induction n with
  | zero => exact .nil
  | succ n ih => rw [List.replicate_succ, List.replicate_succ, List.flatten_cons, List.flatten_cons]; exact h.append ih
theorem DatL.ints {ns : List Int} {vs : List V} (h : DatL e m H vs (ns.map .int)) : vs = ns.map V.int := by
  induction ns generalizing vs with
  | nil => cases h; rfl
  | cons n ns ih => cases h with | cons h t => cases h; rw [ih t]; rfl
theorem DatL.ofInts : ∀ (ns : List Int), DatL e m H (ns.map V.int) (ns.map .int)
  | [] => .nil
  | n :: ns => .cons (.int n) (DatL.ofInts ns)
theorem DatL.strs {ns : List Str} {vs : List V} (h : DatL e m H vs (ns.map .str)) : vs = ns.map V.str := by
  induction ns generalizing vs with
  | nil => cases h; rfl
  | cons n ns ih => cases h with | cons h t => cases h; rw [ih t]; rfl
theorem DatL.ofStrs : ∀ (ns : List Str), DatL e m H (ns.map V.str) (ns.map .str)
  | [] => .nil
  | n :: ns => .cons (.str n) (DatL.ofStrs ns)
theorem DatL.bls {ns : List Bool} {vs : List V} (h : DatL e m H vs (ns.map .bl)) : vs = ns.map V.bl := by
  induction ns generalizing vs with
  | nil => cases h; rfl
  | cons n ns ih => cases h with | cons h t => cases h; rw [ih t]; rfl
end

theorem allSome_map {α β : Type} {f : α → Option β} {g : β → α} (hf : ∀ a b, f a = some b → a = g b) : ∀ {xs : List α} {ys : List β}, allSome f xs = some ys → xs = ys.map g
  | [], ys, h => by simp [allSome] at h; subst h; rfl
  | x :: xs, ys, h => by
    unfold allSome at h
    split at h
    · rename_i a b h1 h2
      cases h
      rw [List.map_cons, ← hf _ _ h1, ← allSome_map hf h2]
    · cases h
theorem ints_map {xs : List D} {ns : List Int} (h : intsO xs = some ns) : xs = ns.map .int := allSome_map (f := intO) (g := .int) (fun a b h => by cases a <;> simp [intO] at h; subst h; rfl) h
theorem strs_map {xs : List D} {ns : List Str} (h : allSome strO xs = some ns) : xs = ns.map .str := allSome_map (f := strO) (g := .str) (fun a b h => by cases a <;> simp [strO] at h; subst h; rfl) h
theorem bls_map {xs : List D} {ns : List Bool} (h : allSome blO xs = some ns) : xs = ns.map .bl := allSome_map (f := blO) (g := .bl) (fun a b h => by cases a <;> simp [blO] at h; subst h; rfl) h



def khash (ks : List Int) : Int := reduceHash (Builtin.Tuple.tupleHashOf (ks.map hashInt))

def kdO (a : Addr) (xs : List (List Int × Addr)) : HO := .ext fun h => (a == sysModules) = false ∧ ∃ o es ep, h.get? a = some o ∧ o.ExactDict ∧ o.data = .dict es ep ∧ es.toList = xs.map fun x => (⟨khash x.1, .ref x.2, .bool true⟩ : DictEntry)
structure KeyL (e : En) (m : List Addr) (H : Hp) (xs : List (List Int × Addr)) (ks : List D) : Prop where
  dat : DatL e m H (xs.map fun x => V.ref x.2) ks
  key : ks.map keyO = xs.map fun x => some x.1
  nd : (xs.map fun x => x.1).Nodup
  ok : ∀ d ∈ ks, ∃ es, d = .tup es ∧ keyOk es = true
def Sl.isOwn : Sl → Bool
  | .own _ => true
  | .keys _ => true
  | .ownd _ _ => true
  | _ => false
def SlAt (e : En) (m : List Addr) (H : Hp) (σ : St) (i : Nat) : Sl → Prop
  | .emp => True
  | .val d => ∃ v, σ[i]? = some (some v) ∧ Dat e m H v d
  | .own xs => ∃ a vs, σ[i]? = some (some (.ref a)) ∧ H a = some (.lst vs) ∧ DatL e m H vs xs
  | .ownd ks us => ∃ a kvs, σ[i]? = some (some (.ref a)) ∧ H a = some (.dK kvs) ∧ DatL e m H (kvs.map fun p => kV p.1) ks ∧ DatL e m H (kvs.map fun p => p.2) us
  | .keys ks => ∃ a xs, σ[i]? = some (some (.ref a)) ∧ H a = some (kdO a xs) ∧ KeyL e m H xs ks

inductive DatF (e : En) (m : List Addr) (H : Hp) : List (Str × V) → List (Str × D) → Prop
  | nil : DatF e m H [] []
  | cons {k : Str} {v : V} {d : D} {vs : List (Str × V)} {ds : List (Str × D)} : Dat e m H v d → DatF e m H vs ds → DatF e m H ((k, v) :: vs) ((k, d) :: ds)
def skey (p : Str × V) : Key × V := (.inr p.1, p.2)
def WoAt (e : En) (m : List Addr) (H : Hp) (a : Addr) : WO → Prop
  | .dict kvs => ∃ us, H a = some (.dK (us.map skey)) ∧ DatF e m H us kvs
  | .inst c fs => ∃ C dx us, e.ins c = some C ∧ H a = some (.ins C dx us) ∧ DatF e m H us fs
def OwnAt (σ : St) (s : S) (i : Nat) (a : Addr) : Prop := σ[i]? = some (some (.ref a)) ∧ ∃ sl, s.ρ[i]? = some sl ∧ sl.isOwn = true

def Wr (σ : St) (m : List Addr) (s : S) (a : Addr) : Prop := a ∈ m ∨ ∃ i, OwnAt σ s i a
structure Fm (e : En) (σ : St) (H : Hp) (m : List Addr) (s : S) : Prop where
  len : σ.length = s.ρ.length
  slot : ∀ (i : Nat) (sl : Sl), s.ρ[i]? = some sl → SlAt e m H σ i sl
  wl : m.length = s.W.length
  wok : ∀ (n : Nat) (a : Addr) (o : WO), m[n]? = some a → s.W[n]? = some o → WoAt e m H a o
  wn : ∀ (i j : Nat) (a : Addr), m[i]? = some a → m[j]? = some a → i = j
  od : ∀ i j a, OwnAt σ s i a → OwnAt σ s j a → i = j
  om : ∀ i a, OwnAt σ s i a → a ∉ m
structure Evo (σ : St) (m : List Addr) (s : S) (H : Hp) (σ' : St) (m' : List Addr) (s' : S) (H' : Hp) : Prop where
  keep : ∀ b o, H b = some o → ¬ Wr σ m s b → H' b = some o
  grow : ∀ b, Wr σ' m' s' b → Wr σ m s b ∨ H b = none
  wm : ∀ (n : Nat) (a : Addr), m[n]? = some a → m'[n]? = some a
  there : ∀ b o, H b = some o → ∃ o', H' b = some o'
theorem Evo.refl {σ : St} {m : List Addr} {s : S} {H : Hp} : Evo σ m s H σ m s H := ⟨fun _ _ h _ => h, fun _ h => .inl h, fun _ _ h => h, fun _ o h => ⟨o, h⟩⟩
theorem Evo.fresh {σ σ' : St} {m m' : List Addr} {s s' : S} {H H' : Hp} (a : Evo σ m s H σ' m' s' H') {p : Addr} (h : H' p = none) : H p = none := by
  cases q : H p with
  | none => rfl
  | some o => obtain ⟨o', x⟩ := a.there p o q; rw [h] at x; cases x
theorem Evo.trans {σ σ' σ'' : St} {m m' m'' : List Addr} {s s' s'' : S} {H H' H'' : Hp} (a : Evo σ m s H σ' m' s' H') (b : Evo σ' m' s' H' σ'' m'' s'' H'') : Evo σ m s H σ'' m'' s'' H'' where
  keep := fun c o h n => b.keep c o (a.keep c o h n) fun w => by
    rcases a.grow c w with x | x
    · exact n x
    · rw [h] at x; cases x
  grow := fun c w => by
    rcases b.grow c w with x | x
    · exact a.grow c x
    · by_cases w2 : Wr σ m s c
      · exact .inl w2
      · right
        cases q : H c with
        | none => rfl
        | some o => rw [a.keep c o q w2] at x; cases x
  wm := fun n c h => b.wm n c (a.wm n c h)
  there := fun c o h => let ⟨o1, h1⟩ := a.there c o h; b.there c o1 h1

def wrO : HO → Bool
  | .lst _ => true
  | .dK _ => true
  | .ext _ => true
  | .ins _ _ _ => true
  | _ => false
theorem Fm.wr {e : En} {σ : St} {H : Hp} {m : List Addr} {s : S} (f : Fm e σ H m s) {a : Addr} (w : Wr σ m s a) : ∃ o, H a = some o ∧ wrO o = true := by
  rcases w with w | ⟨i, hi, sl, hs, ho⟩
  · obtain ⟨n, hn, rfl⟩ := List.mem_iff_getElem.mp w
    have h1 : m[n]? = some m[n] := List.getElem?_eq_getElem hn
    have hn2 : n < s.W.length := by rw [← f.wl]; exact hn
    have := f.wok n _ _ h1 (List.getElem?_eq_getElem hn2)
    cases q : s.W[n] with
    | dict kvs => rw [q] at this; obtain ⟨us, x, _⟩ := this; exact ⟨_, x, rfl⟩
    | inst c fs => rw [q] at this; obtain ⟨C, dx, us, _, x, _⟩ := this; exact ⟨_, x, rfl⟩
  · have := f.slot i sl hs
    cases sl with
    | emp => cases ho
    | val d => cases ho
    | own xs => obtain ⟨b, vs, x, y, _⟩ := this; rw [hi] at x; cases x; exact ⟨_, y, rfl⟩
    | ownd ks us => obtain ⟨b, vs, x, y, _⟩ := this; rw [hi] at x; cases x; exact ⟨_, y, rfl⟩
    | keys ks => obtain ⟨b, vs, x, y, _⟩ := this; rw [hi] at x; cases x; exact ⟨_, y, rfl⟩

structure Stay (m : List Addr) (H : Hp) (m' : List Addr) (H' : Hp) : Prop where
  keep : ∀ b o, H b = some o → wrO o = false → H' b = some o
  wm : ∀ (n : Nat) (a : Addr), m[n]? = some a → m'[n]? = some a
theorem Evo.stay {e : En} {σ σ' : St} {m m' : List Addr} {s s' : S} {H H' : Hp} (v : Evo σ m s H σ' m' s' H') (f : Fm e σ H m s) : Stay m H m' H' :=
  ⟨fun b o h n => v.keep b o h fun w => (by obtain ⟨o', h', q⟩ := f.wr w; rw [h] at h'; cases h'; rw [n] at q; cases q), v.wm⟩
theorem Stay.refl {m : List Addr} {H : Hp} : Stay m H m H := ⟨fun _ _ h _ => h, fun _ _ h => h⟩
theorem Stay.trans {m m' m'' : List Addr} {H H' H'' : Hp} (a : Stay m H m' H') (b : Stay m' H' m'' H'') : Stay m H m'' H'' :=
  ⟨fun c o h n => b.keep c o (a.keep c o h n) n, fun n c h => b.wm n c (a.wm n c h)⟩
section
variable {e : En} {m m' : List Addr} {H H' : Hp}
theorem Stay.tpL (v : Stay m H m' H') {a : Addr} {xs : List V} (h : TpL e.K H a xs) : TpL e.K H' a xs := by
  rcases h with h | h
  · exact .inl (v.keep _ _ h rfl)
  · exact .inr h
theorem Stay.fzL (v : Stay m H m' H') {a : Addr} {xs : List V} (h : FzL e.K H a xs) : FzL e.K H' a xs := by
  rcases h with ⟨o, h⟩ | h
  · exact .inl ⟨o, v.keep _ _ h rfl⟩
  · exact .inr h
mutual
theorem Dat.stay (v : Stay m H m' H') : ∀ {x : V} {d : D}, Dat e m H x d → Dat e m' H' x d
  | _, _, .non => .non
  | _, _, .bl b => .bl b
  | _, _, .int i => .int i
  | _, _, .str z => .str z
  | _, _, .tup h t => .tup (v.tpL h) (DatL.stay v t)
  | _, _, .lst h t => .lst (v.fzL h) (DatL.stay v t)
  | _, _, .dic h k t => .dic (v.keep _ _ h rfl) (DatL.stay v k) (DatL.stay v t)
  | _, _, .obj h => .obj (v.wm _ _ h)
theorem DatL.stay (v : Stay m H m' H') : ∀ {xs : List V} {ds : List D}, DatL e m H xs ds → DatL e m' H' xs ds
  | _, _, .nil => .nil
  | _, _, .cons h t => .cons (Dat.stay v h) (DatL.stay v t)
end
theorem DatF.stay (v : Stay m H m' H') {xs : List (Str × V)} {ds : List (Str × D)} (h : DatF e m H xs ds) : DatF e m' H' xs ds := by
  induction h with
  | nil => exact .nil
  | cons h _ ih => exact .cons (Dat.stay v h) ih
end
theorem KeyL.stay {e : En} {m m' : List Addr} {H H' : Hp} (v : Stay m H m' H') {xs : List (List Int × Addr)} {ks : List D} (h : KeyL e m H xs ks) : KeyL e m' H' xs ks := ⟨DatL.stay v h.dat, h.key, h.nd, h.ok⟩

theorem Stay.new {m : List Addr} {H : Hp} {p : Addr} {o : HO} (h : H p = none) : Stay m H m (upd H p o) :=
  ⟨fun b u q _ => by rw [upd_ne (ne_of_none q h)]; exact q, fun _ _ h => h⟩

theorem Fm.mono {e : En} {σ : St} {H H' : Hp} {m : List Addr} {s : S} (f : Fm e σ H m s) (v : Stay m H m H') (k : ∀ a o, Wr σ m s a → H a = some o → H' a = some o) : Fm e σ H' m s where
  len := f.len
  slot := fun i sl hs => by
    have x := f.slot i sl hs
    cases sl with
    | emp => trivial
    | val d => obtain ⟨u, q, r⟩ := x; exact ⟨u, q, r.stay v⟩
    | own xs => obtain ⟨a, vs, q, h, r⟩ := x; exact ⟨a, vs, q, k a _ (.inr ⟨i, q, _, hs, rfl⟩) h, DatL.stay v r⟩
    | ownd ks us => obtain ⟨a, kvs, q, h, r, r2⟩ := x; exact ⟨a, kvs, q, k a _ (.inr ⟨i, q, _, hs, rfl⟩) h, DatL.stay v r, DatL.stay v r2⟩
    | keys ks => obtain ⟨a, xs, q, h, r⟩ := x; exact ⟨a, xs, q, k a _ (.inr ⟨i, q, _, hs, rfl⟩) h, r.stay v⟩
  wl := f.wl
  wok := fun n a o h1 h2 => by
    have x := f.wok n a o h1 h2
    have wa : Wr σ m s a := .inl (List.mem_of_getElem? h1)
    cases o with
    | dict kvs => obtain ⟨us, h, r⟩ := x; exact ⟨us, k a _ wa h, r.stay v⟩
    | inst c fs => obtain ⟨C, dx, us, hc, h, r⟩ := x; exact ⟨C, dx, us, hc, k a _ wa h, r.stay v⟩
  wn := f.wn
  od := f.od
  om := f.om
theorem Fm.free {e : En} {σ : St} {H : Hp} {m : List Addr} {s : S} (f : Fm e σ H m s) {p : Addr} (h : H p = none) : ¬ Wr σ m s p := fun w => by
  obtain ⟨o, q, _⟩ := f.wr w
  rw [h] at q; cases q

theorem Fm.upd {e : En} {σ : St} {H : Hp} {m : List Addr} {s : S} (f : Fm e σ H m s) {p : Addr} {o : HO} (n : ¬ Wr σ m s p) (h : ∀ u, H p = some u → wrO u = true) : Fm e σ (L2.upd H p o) m s :=
  f.mono ⟨fun b u q w => by rw [upd_ne (fun z => by subst z; rw [h u q] at w; cases w)]; exact q, fun _ _ h => h⟩ fun a u w q => by rw [upd_ne (fun z => by subst z; exact n w)]; exact q
theorem Fm.new {e : En} {σ : St} {H : Hp} {m : List Addr} {s : S} (f : Fm e σ H m s) {p : Addr} {o : HO} (h : H p = none) : Fm e σ (L2.upd H p o) m s :=
  f.upd (f.free h) fun u q => by rw [h] at q; cases q
theorem Evo.new {σ σ' : St} {m m' : List Addr} {s s' : S} {H H' : Hp} (a : Evo σ m s H σ' m' s' H') {p : Addr} {o : HO} (h : H p = none) : Evo σ m s H σ' m' s' (L2.upd H' p o) where
  keep := fun b u q n => by rw [upd_ne (ne_of_none q h)]; exact a.keep b u q n
  grow := a.grow
  wm := a.wm
  there := fun b u q => by rw [upd_ne (ne_of_none q h)]; exact a.there b u q
end GP

set_option Elab.async false
set_option linter.all false
set_option maxRecDepth 100000
set_option autoImplicit false

namespace GP
open PySem PySem.Spec L2
section
variable {X : Cx} {pins : List (Addr × Obj)} {σ : L2.St} {H : Hp} {s : Shared}

theorem lstF {l : Addr} {xs : List V} (I : Inv X pins σ H s) (h : H l = some (.lst xs) ∨ FzL X.K H l xs) :
    xs.length ≤ sizeLine ∧ ∃ (us : List Value) (n : Nat), Vals xs us ∧ xs.length = us.length ∧ s.heap.get? l = some { cls := .type "list", data := .seq us.toArray n } := by
  have go : Rd H l (.lst xs) → xs.length ≤ sizeLine ∧ ∃ (us : List Value) (n : Nat), Vals xs us ∧ xs.length = us.length ∧ s.heap.get? l = some { cls := .type "list", data := .seq us.toArray n } := fun h => by
    obtain ⟨z, us, n, r, g⟩ := h.ok I.hok
    exact ⟨z, us, n, r, r.length, g⟩
  rcases h with h | h | ⟨_, its, n, h, z, r⟩
  · exact go (.inl h)
  · exact go (.inr h)
  · exact ⟨by rw [r.length]; exact z, its, n, r, r.length, I.kIn _ _ h⟩
def LL (K : PySem.W.Frag) (H : Hp) (l : Addr) (xs : List V) : Prop := H l = some (.lst xs) ∨ FzL K H l xs
def rCatF (K : PySem.W.Frag) : R2 := fun x y H Q => ∃ l b xs ys, x = .ref l ∧ y = .ref b ∧ LL K H l xs ∧ LL K H b ys ∧ xs.length + ys.length ≤ sizeLine ∧ ∀ p, H p = none → Q (.ref p) (upd H p (.lst (xs ++ ys)))
theorem op_catF : OpR X (binaryOp .Add) (rCatF X.K) := by
  intro pins s σ H x y v u Q I rx ry ⟨l, b, xs, ys, ex, ey, h1, h2, hz, q⟩
  subst ex; subst ey
  cases rx; cases ry
  obtain ⟨_, us, n, r, hl, g1⟩ := lstF I h1
  obtain ⟨_, ws, n2, r2, hl2, g2⟩ := lstF I h2
  refine PySem.P.add_list g1 g2 ?_ (by simp only [List.size_toArray]; omega)
  rw [show us.toArray ++ ws.toArray = (us ++ ws).toArray by simp]
  exact ⟨.ref _, _, I.lnew (t' := s.toks) (r.append r2) (by simp only [List.length_append]; omega), rfl, q _ I.fresh⟩
theorem foldRep (us : List Value) (k : Nat) : List.foldl (fun a b => a ++ b) #[] (List.replicate k us.toArray) = (List.replicate k us).flatten.toArray := by
  have h := foldl_rep us k []
  rwa [List.nil_append] at h
def rExtF (K : PySem.W.Frag) : V → List V → Hp → VK → Prop := fun x vs H Q => ∃ l b xs ys, x = .ref l ∧ vs = [.ref b] ∧ H l = some (.lst xs) ∧ LL K H b ys ∧ xs.length + ys.length ≤ sizeLine ∧ Q .non (upd H l (.lst (xs ++ ys)))
theorem mt_extF : MtM X "list.extend" (rExtF X.K) := by
  intro pins s σ H x vs v us Q I rx rv ⟨l, b, xs, ys, ex, ev, h1, h2, hz, q⟩
  subst ex; subst ev
  cases rx
  obtain ⟨u, hu, ru⟩ := rv.one
  subst hu
  cases ru
  obtain ⟨_, ps, n, r, hl, g1⟩ := I.lstM h1
  obtain ⟨_, qs, n2, r2, hl2, g2⟩ := lstF I h2
  have hs : ps.toArray.size + qs.toArray.size ≤ sizeLine := by simp only [List.size_toArray]; omega
  have hn : Builtin.List.listTooLong (ps.toArray.size + qs.toArray.size) = false := notLongL hs
  refine PySem.call_meets F.slot_list_extend ⟨_, g1, rfl⟩ F.entry_list_extend (F.args_list_extend_2 _ _) (AutoSeq1.list_extend_list_list_0 l ps.toArray n b qs.toArray n2 (by rw [hn]; simp) (by simp only [List.size_toArray]; omega) (by omega)) ⟨g1, g2, ?_⟩
  exact ⟨.non, _, I.lset (its' := ps ++ qs) h1 g1 (by simp) (r.append r2) (by rw [List.length_append]; omega), rfl, q⟩
def rRepF (K : PySem.W.Frag) : R2 := fun x y H Q => ∃ l k xs, x = .ref l ∧ y = .int k ∧ LL K H l xs ∧ -(2 ^ 63) ≤ k ∧ k < 2 ^ 63 ∧ xs.length * k.toNat ≤ sizeLine ∧ ∀ p, H p = none → Q (.ref p) (upd H p (.lst (List.replicate k.toNat xs).flatten))
theorem op_repF : OpR X (binaryOp .Mult) (rRepF X.K) := by
  intro pins s σ H x y v u Q I rx ry ⟨l, k, xs, ex, ey, h1, k1, k2, hz, q⟩
  subst ex; subst ey
  cases rx
  obtain ⟨t, hu⟩ := ry
  subst hu
  obtain ⟨_, us, n, r, hl, g⟩ := lstF I h1
  have hs : us.toArray.size * k.toNat ≤ sizeLine := by rw [List.size_toArray, ← hl]; exact hz
  have c1 : us.toArray.size * k.toNat ≤ (2 ^ 63 - 1) / 8 := Nat.le_trans hs (by decide)
  have c2 : Builtin.List.listTooLong (us.toArray.size * k.toNat) = false := notLongL hs
  have c3 : Builtin.List.listFitsIndex k = true := fitsIndex_both k1 k2
  have c4 : List.foldl (fun a b => a ++ b) #[] (List.replicate (if us.toArray.isEmpty = true then 0 else k.toNat) us.toArray) = (List.replicate k.toNat us).flatten.toArray := by
    cases us with
    | nil => simp
    | cons a r => rw [if_neg (by simp)]; exact foldRep _ _
  refine wpAny_binaryOp_repeat_ref (T := "list") (U := "int") (by decide) ⟨_, g, rfl⟩ (fun s' => typeIs_int s' k t) noFill_list_mul F.fills_int_mul F.slot_int_rmul repeat_list F.slot_int_index.lookup ?_
  refine PySem.call_meets F.slot_int_rmul (typeIs_int s k t) F.entry_int_rmul (F.args_int_rmul_2 _ _) (int___rmul___int_list k t l us.toArray n) ⟨g, rfl, ⟨_, g, rfl⟩, ?_⟩
  refine PySem.call_meets F.slot_list_mul ⟨_, g, rfl⟩ F.entry_list_mul (F.args_list_mul_2 _ _) (AutoListH.list___mul___list_int_3 l us.toArray n k t (by rw [c3]; simp) (by omega) (by rw [c2]; simp)) ⟨g, ?_⟩
  rw [c4]
  exact ⟨.ref _, _, I.lnew (t' := s.toks) (r.rep k.toNat) (by rw [PyProof.Rows.lm_len_rep_flat, Nat.mul_comm]; exact hz), rfl, q _ I.fresh⟩
end
end GP

set_option Elab.async false
set_option linter.all false
set_option maxRecDepth 100000
set_option autoImplicit false

namespace GP
open PySem PySem.Spec L2


def Exr (e : En) (m : List Addr) (H : Hp) (x : D) (cls : Value) (d : Option Addr) : Prop := match x with
  | .exo c fs => ∃ C dx us, e.cls c = some C ∧ cls = .ref C ∧ d = some dx ∧ H dx = some (.xd us) ∧ us.map (fun p => p.1) = e.fld c ∧ DatL e m H (us.map fun p => p.2) fs
  | _ => False
def Run {α : Type} (e : En) (Wx : WX) (σ : St) (m : List Addr) (s : S) (H : Hp) (r : R α) (k : α → List Addr → S → Hp → Prop) : Prop := match r with
  | some (.val a, s') => ∀ m' H', Evo σ m s H σ m' s' H' → Fm e σ H' m' s' → k a m' s' H'
  | some (.exc x, s') => ∀ m' H' cls d, Evo σ m s H σ m' s' H' → Fm e σ H' m' s' → Exr e m' H' x cls d → Wx cls d σ H'
  | none => False
section
variable {α β : Type} {e : En} {Wx : WX} {σ : St} {m : List Addr} {s : S} {H : Hp} {r : R α} {f : α → S → R β}
theorem Run.split {k : β → List Addr → S → Hp → Prop} (h : Run e Wx σ m s H (bnd r f) k) : Run e Wx σ m s H r (fun a m1 s1 H1 => Run e Wx σ m1 s1 H1 (f a s1) k) := by
  match r, h with
  | none, h => exact h
  | some (.exc x, s1), h => exact h
  | some (.val a, s1), h =>
    intro m1 H1 v1 f1
    rw [bnd_val] at h
    match g : f a s1, h with
    | none, h => exact h
    | some (.exc x, s2), h => exact fun m2 H2 cls d v2 f2 x2 => h m2 H2 cls d (v1.trans v2) f2 x2
    | some (.val b, s2), h => exact fun m2 H2 v2 f2 => h m2 H2 (v1.trans v2) f2
theorem Run.imp {k k' : α → List Addr → S → Hp → Prop} (h : Run e Wx σ m s H r k) (i : ∀ a m1 s1 H1, Evo σ m s H σ m1 s1 H1 → Fm e σ H1 m1 s1 → k a m1 s1 H1 → k' a m1 s1 H1) : Run e Wx σ m s H r k' := by
  match r, h with
  | none, h => exact h
  | some (.exc x, s1), h => exact h
  | some (.val a, s1), h => exact fun m1 H1 v1 f1 => i _ _ _ _ v1 f1 (h m1 H1 v1 f1)
theorem Run.ok {a : α} {k : α → List Addr → S → Hp → Prop} (h : Run e Wx σ m s H (okv a s) k) (f : Fm e σ H m s) : k a m s H := h m H .refl f
theorem Run.lft {o : Option α} {k : α → List Addr → S → Hp → Prop} (h : Run e Wx σ m s H (GP.lft o s) k) : ∃ a, o = some a ∧ Run e Wx σ m s H (okv a s) k := by
  cases o with
  | none => exact h.elim
  | some a => exact ⟨a, rfl, h⟩
end


def Res (e : En) (σ : St) (m : List Addr) (s : S) (H0 H : Hp) (v : V) : Sl → Prop
  | .emp => False
  | .val d => Dat e m H v d
  | .own xs => ∃ p vs, v = .ref p ∧ H0 p = none ∧ H p = some (.lst vs) ∧ DatL e m H vs xs ∧ ¬ Wr σ m s p
  | .ownd ks us => ∃ p kvs, v = .ref p ∧ H0 p = none ∧ H p = some (.dK kvs) ∧ DatL e m H (kvs.map fun p => kV p.1) ks ∧ DatL e m H (kvs.map fun p => p.2) us ∧ ¬ Wr σ m s p
  | .keys ks => ∃ p xs, v = .ref p ∧ H0 p = none ∧ H p = some (kdO p xs) ∧ KeyL e m H xs ks ∧ ¬ Wr σ m s p
def TO (e : En) (Wx : WX) (r : S → R Sl) : TE := fun σ H Q => ∃ m s, Fm e σ H m s ∧ Run e Wx σ m s H (r s) (fun sl m' s' H' => ∀ v, Res e σ m' s' H H' v sl → Q v H')
def TD (e : En) (Wx : WX) (r : S → R D) : TE := fun σ H Q => ∃ m s, Fm e σ H m s ∧ Run e Wx σ m s H (r s) (fun d m' s' H' => ∀ v, Dat e m' H' v d → Q v H')
def TL (e : En) (Wx : WX) (r : S → R (List D)) : TA := fun σ H Q => ∃ m s, Fm e σ H m s ∧ Run e Wx σ m s H (r s) (fun ds m' s' H' => ∀ vs, DatL e m' H' vs ds → Q vs H')
def TB (e : En) (Wx : WX) (r : S → R Bool) : TT := fun σ H Q => ∃ m s, Fm e σ H m s ∧ Run e Wx σ m s H (r s) (fun b m' s' H' => Q b H')

theorem own_put {σ : St} {s : S} {i j : Nat} {a : Addr} {d : D} (w : OwnAt σ (s.put i (.val d)) j a) : OwnAt σ s j a ∧ j ≠ i := by
  obtain ⟨h, sl, hs, ho⟩ := w
  have hs : (s.ρ.set i (.val d))[j]? = some sl := hs
  by_cases e : i = j
  · subst e
    rw [List.getElem?_set_self'] at hs
    cases q : s.ρ[i]? with
    | none => rw [q] at hs; cases hs
    | some x => rw [q] at hs; cases hs; cases ho
  · rw [List.getElem?_set_ne e] at hs
    exact ⟨⟨h, sl, hs, ho⟩, fun z => e z.symm⟩
theorem wr_put {σ : St} {m : List Addr} {s : S} {i : Nat} {a : Addr} {d : D} (w : Wr σ m (s.put i (.val d)) a) : Wr σ m s a := by
  rcases w with w | ⟨j, w⟩
  · exact .inl w
  · exact .inr ⟨j, (own_put w).1⟩
theorem Fm.frz {e : En} {σ : St} {m : List Addr} {s : S} {H H' : Hp} {i : Nat} {v : V} {d : D} (f : Fm e σ H m s) (hs : σ[i]? = some (some v)) (hd : Dat e m H' v d) (st : Stay m H m H')
    (k : ∀ a o, Wr σ m (s.put i (.val d)) a → H a = some o → H' a = some o) : Fm e σ H' m (s.put i (.val d)) where
  len := by show σ.length = (s.ρ.set i _).length; rw [List.length_set]; exact f.len
  slot := fun j sl hj => by
    have hj : (s.ρ.set i (.val d))[j]? = some sl := hj
    by_cases e : i = j
    · subst e
      rw [List.getElem?_set_self'] at hj
      cases q : s.ρ[i]? with
      | none => rw [q] at hj; cases hj
      | some x => rw [q] at hj; cases hj; exact ⟨v, hs, hd⟩
    · have hj' := hj
      rw [List.getElem?_set_ne e] at hj
      have x := f.slot j sl hj
      cases sl with
      | emp => trivial
      | val d => obtain ⟨u, q, r⟩ := x; exact ⟨u, q, r.stay st⟩
      | own xs => obtain ⟨a, vs, q, h, r⟩ := x; exact ⟨a, vs, q, k a _ (.inr ⟨j, q, _, hj', rfl⟩) h, DatL.stay st r⟩
      | ownd ks us => obtain ⟨a, kvs, q, h, r, r2⟩ := x; exact ⟨a, kvs, q, k a _ (.inr ⟨j, q, _, hj', rfl⟩) h, DatL.stay st r, DatL.stay st r2⟩
      | keys ks => obtain ⟨a, xs, q, h, r⟩ := x; exact ⟨a, xs, q, k a _ (.inr ⟨j, q, _, hj', rfl⟩) h, r.stay st⟩
  wl := f.wl
  wok := fun n a o h1 h2 => by
    have x := f.wok n a o h1 h2
    have wa : Wr σ m (s.put i (.val d)) a := .inl (List.mem_of_getElem? h1)
    cases o with
    | dict kvs => obtain ⟨us, h, r⟩ := x; exact ⟨us, k a _ wa h, r.stay st⟩
    | inst c fs => obtain ⟨C, dx, us, hc, h, r⟩ := x; exact ⟨C, dx, us, hc, k a _ wa h, r.stay st⟩
  wn := f.wn
  od := fun j l a h1 h2 => f.od j l a (own_put h1).1 (own_put h2).1
  om := fun j a h => f.om j a (own_put h).1

def New (H H' : Hp) : Prop := H' = H ∨ ∃ p o, H p = none ∧ H' = upd H p o
theorem New.evo {σ : St} {m : List Addr} {s : S} {H H' : Hp} (n : New H H') : Evo σ m s H σ m s H' := by
  rcases n with rfl | ⟨p, o, h, rfl⟩
  · exact .refl
  · exact Evo.new .refl h
theorem New.fm {e : En} {σ : St} {m : List Addr} {s : S} {H H' : Hp} (n : New H H') (f : Fm e σ H m s) : Fm e σ H' m s := by
  rcases n with rfl | ⟨p, o, h, rfl⟩
  · exact f
  · exact f.new h
theorem New.stay {m : List Addr} {H H' : Hp} (n : New H H') : Stay m H m H' := by
  rcases n with rfl | ⟨p, o, h, rfl⟩
  · exact .refl
  · exact .new h

def Got (e : En) (m : List Addr) (H : Hp) (sl : Sl) (Q : VK) : Prop := match sl with
  | .emp => True
  | .val d => ∀ v H', New H H' → Dat e m H' v d → Q v H'
  | .own xs => ∀ p vs, H p = none → DatL e m H vs xs → Q (.ref p) (upd H p (.lst vs))
  | .ownd ks us => ∀ p kvs, H p = none → DatL e m H (kvs.map fun p => kV p.1) ks → DatL e m H (kvs.map fun p => p.2) us → Q (.ref p) (upd H p (.dK kvs))
  | .keys ks => ∀ p xs, H p = none → KeyL e m H xs ks → Q (.ref p) (upd H p (kdO p xs))
section
variable {e : En} {Wx : WX} {σ : St} {m m0 : List Addr} {s s0 : S} {H H0 : Hp} {Q : VK}
theorem Run.got {sl : Sl} (h : Run e Wx σ m s H (okv sl s) (fun sl m' s' H' => ∀ v, Res e σ m' s' H0 H' v sl → Q v H')) (v0 : Evo σ m0 s0 H0 σ m s H) (f : Fm e σ H m s) : Got e m H sl Q := by
  cases sl with
  | emp => trivial
  | val d => exact fun v H' n x => h m H' n.evo (n.fm f) v x
  | own xs => exact fun p vs hp x => h m _ (Evo.new .refl hp) (f.new hp) _ ⟨p, vs, rfl, v0.fresh hp, upd_same, DatL.stay (.new hp) x, fun w => f.free hp w⟩
  | ownd ks us => exact fun p kvs hp x y => h m _ (Evo.new .refl hp) (f.new hp) _ ⟨p, kvs, rfl, v0.fresh hp, upd_same, DatL.stay (.new hp) x, DatL.stay (.new hp) y, fun w => f.free hp w⟩
  | keys ks => exact fun p xs hp x => h m _ (Evo.new .refl hp) (f.new hp) _ ⟨p, xs, rfl, v0.fresh hp, upd_same, x.stay (.new hp), fun w => f.free hp w⟩
theorem Run.gotD {d : D} (h : Run e Wx σ m s H (okv d s) (fun d m' s' H' => ∀ v, Dat e m' H' v d → Q v H')) (f : Fm e σ H m s) : ∀ v H', New H H' → Dat e m H' v d → Q v H' := fun v H' n x => h m H' n.evo (n.fm f) v x
end

section
variable {X : Cx} {ex : Expr} {es : List Expr} {t t' : TE}
theorem PE.imp (h : PE X ex t) (i : ∀ σ H Q, t' σ H Q → t σ H Q) : PE X ex t' := ⟨fun pins s σ H Q I w => h.run pins s σ H Q I (i σ H Q w)⟩
theorem PA.imp {t t' : TA} (h : PA X es t) (i : ∀ σ H Q, t' σ H Q → t σ H Q) : PA X es t' := ⟨fun pos pins s σ H Q I w => h.run pos pins s σ H Q I (i σ H Q w)⟩
theorem PT.imp {t t' : TT} (h : PT X ex t) (i : ∀ σ H Q, t' σ H Q → t σ H Q) : PT X ex t' := ⟨fun pins s σ H Q I w => h.run pins s σ H Q I (i σ H Q w)⟩

theorem pe_lk (h : PE X ex t) : PE X ex (fun σ H Q => t σ H fun v H1 => Q v H1 ∨ ∃ p u, H1 p = some u ∧ Mut (some u) ∧ ∀ od, Q v (upd H1 p (.frz od u))) := by
  refine ⟨fun pins s σ H Q I w => ?_⟩
  refine thn (h.run pins s σ H _ I w) fun u s1 ⟨v, H1, I1, r1, q⟩ => ?_
  rcases q with q | ⟨p, o, hp, mu, q⟩
  · exact ⟨v, H1, I1, r1, q⟩
  · obtain ⟨od, I2⟩ := I1.lock hp mu
    exact ⟨v, _, I2, r1, q od⟩
end
section
variable {e : En} {Wx : WX} {X : Cx} {ex : Expr} {r : S → R Sl}
theorem xd (h : PE X ex (TO e Wx r)) : PE X ex (TD e Wx fun s => frz (r s)) := by
  refine PE.imp (pe_lk h) fun σ H Q ⟨m, s, f, w⟩ => ⟨m, s, f, ?_⟩
  have w : Run e Wx σ m s H (bnd (r s) fun sl s => lft sl.fz s) (fun d m' s' H' => ∀ v, Dat e m' H' v d → Q v H') := w
  generalize r s = rs at w ⊢
  match rs, w with
  | none, w => exact w
  | some (.exc x, s1), w => exact w
  | some (.val sl, s1), w =>
    rw [bnd_val] at w
    intro m1 H1 v1 f1 v rv
    cases sl with
    | emp => exact rv.elim
    | keys _ => exact w.elim
    | val d => exact .inl (w m1 H1 v1 f1 v rv)
    | own xs =>
      obtain ⟨p, vs, rfl, h0, h1, hd, nw⟩ := rv
      refine .inr ⟨p, _, h1, trivial, fun od => ?_⟩
      have st : Stay m1 H1 m1 (upd H1 p (.frz od (.lst vs))) := ⟨fun b u q n => by rw [upd_ne (fun z => by subst z; rw [h1] at q; cases q; cases n)]; exact q, fun _ _ h => h⟩
      exact w m1 _ (v1.new h0) (f1.upd nw fun u q => by rw [h1] at q; cases q; rfl) _ (.lst (.inl ⟨od, upd_same⟩) (DatL.stay st hd))
    | ownd ks us =>
      obtain ⟨p, kvs, rfl, h0, h1, hd, hd2, nw⟩ := rv
      refine .inr ⟨p, _, h1, trivial, fun od => ?_⟩
      have st : Stay m1 H1 m1 (upd H1 p (.frz od (.dK kvs))) := ⟨fun b u q n => by rw [upd_ne (fun z => by subst z; rw [h1] at q; cases q; cases n)]; exact q, fun _ _ h => h⟩
      exact w m1 _ (v1.new h0) (f1.upd nw fun u q => by rw [h1] at q; cases q; rfl) _ (.dic upd_same (DatL.stay st hd) (DatL.stay st hd2))
end
end GP

set_option Elab.async false
set_option linter.all false
set_option maxRecDepth 100000
set_option autoImplicit false
set_option maxHeartbeats 1000000

namespace GP
open PySem PySem.Spec L2

section
variable {e : En} {X : Cx} {m : List Addr} {H : Hp} {Q : VK}
theorem sizeB_le {n : Nat} (h : sizeB n = true) : n ≤ sizeLine := of_decide_eq_true h
theorem Got.at {d : D} {v : V} (g : Got e m H (.val d) Q) (h : Dat e m H v d) : Q v H := g v H (.inl rfl) h

theorem Got.tup {ds : List D} {vs : List V} (g : Got e m H (.val (.tup ds)) Q) (h : DatL e m H vs ds) (p : Addr) (hp : H p = none) : Q (.ref p) (upd H p (.tup vs)) :=
  g _ _ (.inr ⟨p, _, hp, rfl⟩) (.tup (.inl upd_same) (DatL.stay (.new hp) h))
theorem sqL (hK : X.K = e.K) {a : Addr} {xs : List V} (h : FzL e.K H a xs) : SqL X.K H a xs := hK ▸ h.sq
theorem sqT (hK : X.K = e.K) {a : Addr} {xs : List V} (h : TpL e.K H a xs) : SqT X.K H a xs := hK ▸ h.sq
def rBin (e : En) (op : Bop) : R2 := fun x y H Q => ∃ m da db sl, Dat e m H x da ∧ Dat e m H y db ∧ binD op da db = some sl ∧ Got e m H sl Q
theorem o_add (hK : X.K = e.K) : OpR X (binaryOp .Add) (rBin e .add) := by
  rintro pins s σ H x y v u Q I rx ry ⟨m, da, db, sl, hx, hy, hb, g⟩
  change addD da db = some sl at hb
  unfold addD at hb
  split at hb <;> try cases hb
  case h_1 i j =>
    cases hx; cases hy
    exact op_add pins s σ H _ _ v u Q I rx ry ⟨i, j, rfl, rfl, g.at (.int _)⟩
  case h_2 a b =>
    split at hb <;> cases hb
    rename_i hz
    cases hx; cases hy
    exact op_add_str pins s σ H _ _ v u Q I rx ry ⟨a, b, rfl, rfl, sizeB_le hz, g.at (.str _)⟩
  case h_3 xs ys =>
    split at hb <;> cases hb
    rename_i hz
    cases hx with | tup h1 t1 => cases hy with | tup h2 t2 =>
      refine op_catA pins s σ H _ _ v u Q I rx ry ⟨_, _, _, _, rfl, rfl, sqT hK h1, sqT hK h2, ?_, fun z => ?_, fun _ z => ?_, fun _ _ p hp => g.tup (t1.append t2) p hp⟩
      · rw [t1.length, t2.length]; exact sizeB_le hz
      · subst z; cases t1; exact g.at (.tup h2 t2)
      · subst z; cases t2; rw [List.append_nil] at g; exact g.at (.tup h1 t1)
  case h_4 xs ys =>
    split at hb <;> cases hb
    rename_i hz
    cases hx with | lst h1 t1 => cases hy with | lst h2 t2 =>
      exact op_catF pins s σ H _ _ v u Q I rx ry ⟨_, _, _, _, rfl, rfl, .inr (hK ▸ h1), .inr (hK ▸ h2), by rw [t1.length, t2.length]; exact sizeB_le hz, fun p hp => g p _ hp (t1.append t2)⟩
theorem o_sub : OpR X (binaryOp .Sub) (rBin e .sub) := by
  rintro pins s σ H x y v u Q I rx ry ⟨m, da, db, sl, hx, hy, hb, g⟩
  change subD da db = some sl at hb
  unfold subD at hb
  split at hb <;> try cases hb
  cases hx; cases hy
  exact op_sub pins s σ H _ _ v u Q I rx ry ⟨_, _, rfl, rfl, g.at (.int _)⟩
theorem fold_size {α : Type} (c : Array α) : ∀ (n : Nat) (a : Array α), (List.foldl (fun a b => a ++ b) a (List.replicate n c)).size = a.size + n * c.size
  | 0, a => by simp
  | n + 1, a => by
    rw [List.replicate_succ, List.foldl_cons, fold_size c n, Array.size_append, Nat.succ_mul]
    omega
theorem o_mul (hK : X.K = e.K) : OpR X (binaryOp .Mult) (rBin e .mul) := by
  rintro pins s σ H x y v u Q I rx ry ⟨m, da, db, sl, hx, hy, hb, g⟩
  change mulD da db = some sl at hb
  unfold mulD at hb
  split at hb <;> try cases hb
  case h_1 i j =>
    split at hb <;> cases hb
    rename_i hz
    cases hx; cases hy
    have hz2 := of_decide_eq_true (show decide (i.natAbs.log2 + j.natAbs.log2 < 1000000) = true from hz)
    exact op_mulW pins s σ H _ _ v u Q I rx ry ⟨_, _, rfl, rfl, hz2, g.at (.int _)⟩
  case h_2 z k =>
    split at hb <;> cases hb
    rename_i hz
    obtain ⟨h1, h2⟩ := Bool.and_eq_true_iff.mp hz
    have h1 := of_decide_eq_true h1
    have h2 := of_decide_eq_true h2
    cases hx; cases hy
    obtain ⟨t, rfl⟩ := rx
    obtain ⟨t', rfl⟩ := ry
    have e1 : (k == 1 || z.length == 0) = false := by
      rw [Bool.or_eq_false_iff]
      exact ⟨by simp; omega, by simp; omega⟩
    have e2 : ¬ k < 1 := by omega
    have b1 : z.length * k.toNat ≤ 1000 * 1000 := Nat.mul_le_mul h2.2 (by omega)
    have b2 : (z.length : Int) * k ≤ 1000 * 1000 := by
      have : (z.length : Int) * k ≤ 1000 * k := Int.mul_le_mul_of_nonneg_right (by omega) (by omega)
      omega
    refine PySem.P.mul_str (by simp; omega) (fun _ _ => ?_) (fun _ _ => ?_) ?_
    · have := Int.le_ediv_of_mul_le (a := (z.length : Int)) (b := 2 ^ 63 - 1) (c := k) (by omega) (by omega)
      omega
    · unfold Builtin.Str.tooLong
      simp only [decide_eq_false_iff_not]
      have : (1000000 : Nat) ≤ sizeLine := by decide
      omega
    · rw [if_neg e2, e1, if_neg (by decide)]
      refine ⟨?_, ?_⟩
      · show (List.foldl (fun a b => a ++ b) #[] (List.replicate k.toNat z.cps)).size ≤ sizeLine
        rw [fold_size]
        have : (1000000 : Nat) ≤ sizeLine := by decide
        have e3 : (#[] : Array Nat).size + k.toNat * z.cps.size = z.length * k.toNat := by rw [Nat.mul_comm]; simp [Str.length]
        omega
      · exact ⟨.str _, H, I.tok _, ⟨_, rfl⟩, g.at (.str _)⟩
  case h_3 xs k =>
    split at hb <;> cases hb
    rename_i hz
    obtain ⟨h1, h2⟩ := Bool.and_eq_true_iff.mp hz
    have h1 := of_decide_eq_true h1
    cases hx with | lst l1 t1 => cases hy with | int _ =>
      exact op_repF pins s σ H _ _ v u Q I rx ry ⟨_, _, _, rfl, rfl, .inr (hK ▸ l1), h1.1, h1.2, by rw [t1.length]; exact sizeB_le h2, fun p hp => g p _ hp (t1.rep _)⟩
theorem o_fdiv : OpR X (binaryOp .FloorDiv) (rBin e .fdiv) := by
  rintro pins s σ H x y v u Q I rx ry ⟨m, da, db, sl, hx, hy, hb, g⟩
  change fdivD da db = some sl at hb
  unfold fdivD at hb
  split at hb <;> try cases hb
  split at hb <;> cases hb
  rename_i hz
  cases hx; cases hy
  have hz2 := of_decide_eq_true hz
  exact op_fdivW pins s σ H _ _ v u Q I rx ry ⟨_, _, rfl, rfl, hz2, g.at (.int _)⟩
theorem o_mod : OpR X (binaryOp .Mod) (rBin e .mod) := by
  rintro pins s σ H x y v u Q I rx ry ⟨m, da, db, sl, hx, hy, hb, g⟩
  change modD da db = some sl at hb
  unfold modD at hb
  split at hb <;> try cases hb
  split at hb <;> cases hb
  rename_i hz
  cases hx; cases hy
  exact op_mod pins s σ H _ _ v u Q I rx ry ⟨_, _, rfl, rfl, of_decide_eq_true hz, g.at (.int _)⟩
theorem o_pow : OpR X (binaryOp .Pow) (rBin e .pow) := by
  rintro pins s σ H x y v u Q I rx ry ⟨m, da, db, sl, hx, hy, hb, g⟩
  change powD da db = some sl at hb
  unfold powD at hb
  split at hb <;> try cases hb
  split at hb <;> cases hb
  rename_i hz
  cases hx; cases hy
  have hz2 := of_decide_eq_true hz
  exact op_pow pins s σ H _ _ v u Q I rx ry ⟨_, _, rfl, rfl, hz2, g.at (.int _)⟩
def opB : Bop → Operator
  | .add => .Add | .sub => .Sub | .mul => .Mult | .fdiv => .FloorDiv | .mod => .Mod | .pow => .Pow
theorem o_bin (hK : X.K = e.K) (op : Bop) : OpR X (binaryOp (opB op)) (rBin e op) := by
  cases op
  · exact o_add hK
  · exact o_sub
  · exact o_mul hK
  · exact o_fdiv
  · exact o_mod
  · exact o_pow


mutual
theorem dp {m : List Addr} (hK : X.K = e.K) : ∀ {d : D} {v : V} {p : PyData}, Dat e m H v d → toPy d = some p → Dp X.K H v p
  | .non, _, _, .non, h => by simp only [toPy, Option.some.injEq] at h; subst h; exact .non
  | .bl b, _, _, .bl _, h => by simp only [toPy, Option.some.injEq] at h; subst h; exact .bl b
  | .int i, _, _, .int _, h => by simp only [toPy, Option.some.injEq] at h; subst h; exact .int i
  | .str z, _, _, .str _, h => by simp only [toPy, Option.some.injEq] at h; subst h; exact .str z
  | .tup xs, _, _, .tup q t, h => by
    simp only [toPy, Option.map_eq_some_iff] at h
    obtain ⟨ps, h, rfl⟩ := h
    exact .tup (sqT hK q) (dpL hK t h)
  | .lst xs, _, _, .lst q t, h => by
    simp only [toPy, Option.map_eq_some_iff] at h
    obtain ⟨ps, h, rfl⟩ := h
    exact .lst (sqL hK q) (dpL hK t h)
  | .dic _ _, _, _, _, h => by simp [toPy] at h
  | .obj _, _, _, _, h => by simp [toPy] at h
  | .exo _ _, _, _, _, h => by simp [toPy] at h
  | .clo _ _, _, _, _, h => by simp [toPy] at h
theorem dpL {m : List Addr} (hK : X.K = e.K) : ∀ {ds : List D} {vs : List V} {ps : List PyData}, DatL e m H vs ds → toPyL ds = some ps → DpAll X.K H vs ps
  | [], _, _, .nil, h => by simp only [toPyL, Option.some.injEq] at h; subst h; exact .nil
  | x :: xs, _, _, .cons q t, h => by
    unfold toPyL at h
    split at h
    · rename_i a b h1 h2
      cases h
      exact .cons (dp hK q h1) (dpL hK t h2)
    · cases h
end
def rCmp (e : En) (op : Cop) : R2 := fun x y H Q => ∃ m da db k, Dat e m H x da ∧ Dat e m H y db ∧ cmpD op da db = some k ∧ Q (.bl k) H
theorem eqD_some {a b : D} {k : Bool} (h : eqD a b = some k) : ∃ p q, toPy a = some p ∧ toPy b = some q ∧ SeqAt.shaped p = true ∧ SeqAt.shaped q = true ∧ k = PyData.eqv p q := by
  unfold eqD at h
  split at h
  · rename_i p q h1 h2
    split at h
    · rename_i hs
      cases h
      obtain ⟨s1, s2⟩ := Bool.and_eq_true_iff.mp hs
      exact ⟨p, q, h1, h2, s1, s2, rfl⟩
    · cases h
  · cases h
theorem flat_py {d : D} {v : V} {m : List Addr} (h : Dat e m H v d) (f : flatD d = true) : flatV v = true := by
  cases h <;> first | rfl | cases f
theorem eqv_flat {a b : D} {x y : V} {p q : PyData} (ha : Dat e m H x a) (hb : Dat e m H y b) (fa : flatD a = true) (fb : flatD b = true) (h1 : toPy a = some p) (h2 : toPy b = some q) : eqV x y = PyData.eqv p q := by
  cases ha <;> first | cases fa | skip
  all_goals cases hb <;> first | cases fb | skip
  all_goals simp only [toPy, Option.some.injEq] at h1 h2; subst h1; subst h2
  all_goals simp [eqV, PyData.eqv]
theorem flat_all {xs : List D} {vs : List V} (h : DatL e m H vs xs) (f : xs.all flatD = true) : vs.all flatV = true := by
  induction xs generalizing vs with
  | nil => cases h; rfl
  | cons d ds ih => cases h with | cons h t =>
    rw [List.all_cons, Bool.and_eq_true_iff] at f ⊢
    exact ⟨flat_py h f.1, ih t f.2⟩
theorem inV_any {d : D} {x : V} {p : PyData} (hd : Dat e m H x d) (fd : flatD d = true) (hp : toPy d = some p) : ∀ {xs : List D} {vs : List V} {ps : List PyData}, DatL e m H vs xs → xs.all flatD = true → toPyL xs = some ps → inV x vs = ps.any fun z => PyData.eqv z p
  | [], _, _, .nil, _, h => by simp only [toPyL, Option.some.injEq] at h; subst h; rfl
  | a :: as, _, _, .cons q t, f, h => by
    unfold toPyL at h
    split at h
    · rename_i u us h1 h2
      cases h
      rw [List.all_cons, Bool.and_eq_true_iff] at f
      unfold inV
      rw [List.any_cons, List.any_cons, eqv_flat q hd f.1 fd h1 hp]
      have ih := inV_any hd fd hp t f.2 h2
      unfold inV at ih
      rw [ih]
    · cases h
def opC : Cop → CmpOp
  | .eq => .Eq | .ne => .NotEq | .lt => .Lt | .le => .LtE | .gt => .Gt | .ge => .GtE | .isin => .In | .nin => .NotIn
  | .is => .Is
theorem o_in (hK : X.K = e.K) (hu : X.A.units + 65 < cLine) (neg : Bool) : OpR X (compareOp (if neg then .NotIn else .In)) (fun x y H Q => ∃ m da db k, Dat e m H x da ∧ Dat e m H y db ∧ inD da db = some k ∧ Q (.bl (if neg then !k else k)) H) := by
  rintro pins s σ H x y v u Q I rx ry ⟨m, da, db, k, hx, hy, hb, g⟩
  unfold inD at hb
  split at hb
  · rename_i d xs
    split at hb
    · rename_i p ps h1 h2
      split at hb <;> cases hb
      rename_i hs
      obtain ⟨s1, s2⟩ := Bool.and_eq_true_iff.mp hs
      have hy2 : toPy (.lst xs) = some (.list ps) := by simp only [toPy, h2, Option.map_some]
      cases neg
      · exact op_inD hu pins s σ H _ _ v u Q I rx ry ⟨p, ps, dp hK hx h1, dp hK hy hy2, s1, s2, g⟩
      · exact op_notInD hu pins s σ H _ _ v u Q I rx ry ⟨p, ps, dp hK hx h1, dp hK hy hy2, s1, s2, g⟩
    · cases hb
  · rename_i d xs
    split at hb
    · rename_i p ps h1 h2
      split at hb <;> cases hb
      rename_i hs
      obtain ⟨s1, s2⟩ := Bool.and_eq_true_iff.mp hs
      cases hy with | tup q t =>
        have ea := inV_any hx s1 h1 t s2 h2
        cases neg
        · exact op_in_seq pins s σ H _ _ v u Q I rx ry ⟨_, _, rfl, .inr (sqT hK q), flat_py hx s1, flat_all t s2, by rw [ea]; exact g⟩
        · exact op_notIn_seq pins s σ H _ _ v u Q I rx ry ⟨_, _, rfl, .inr (sqT hK q), flat_py hx s1, flat_all t s2, by rw [ea]; exact g⟩
    · cases hb
  · rename_i a b
    cases hb
    cases hx; cases hy
    cases neg
    · exact op_in_str pins s σ H _ _ v u Q I rx ry ⟨_, _, rfl, rfl, g⟩
    · exact op_notIn_str pins s σ H _ _ v u Q I rx ry ⟨_, _, rfl, rfl, g⟩
  · cases hb
theorem ltD_some {a b : D} {k : Bool} (h : ltD a b = some k) : ∃ i j, a = .int i ∧ b = .int j ∧ k = decide (i < j) := by
  unfold ltD at h
  split at h <;> cases h
  exact ⟨_, _, rfl, rfl, rfl⟩
theorem leD_some {a b : D} {k : Bool} (h : leD a b = some k) : ∃ i j, a = .int i ∧ b = .int j ∧ k = decide (i ≤ j) := by
  unfold leD at h
  split at h <;> cases h
  exact ⟨_, _, rfl, rfl, rfl⟩
theorem op_isB : OpR X (compareOp .Is) (fun x y H Q => ∃ a b, x = .bl a ∧ y = .bl b ∧ Q (.bl (decide (a = b))) H) := by
  rintro pins s σ H x y v u Q I rx ry ⟨a, b, rfl, rfl, q⟩
  cases rx
  cases ry
  cases a <;> cases b <;> exact wpAny_pure (fin_bl I q rfl)
theorem o_cmp (hK : X.K = e.K) (hu : X.A.units + 65 < cLine) (op : Cop) : OpR X (compareOp (opC op)) (rCmp e op) := by
  rintro pins s σ H x y v u Q I rx ry ⟨m, da, db, k, hx, hy, hb, g⟩
  cases op with
  | eq =>
    obtain ⟨p, q, h1, h2, s1, s2, rfl⟩ := eqD_some hb
    exact op_eqD (by omega) pins s σ H _ _ v u Q I rx ry ⟨p, q, dp hK hx h1, dp hK hy h2, s1, s2, g⟩
  | ne =>
    obtain ⟨k', hb', rfl⟩ := Option.map_eq_some_iff.mp hb
    obtain ⟨p, q, h1, h2, s1, s2, rfl⟩ := eqD_some hb'
    exact op_neD (by omega) pins s σ H _ _ v u Q I rx ry ⟨p, q, dp hK hx h1, dp hK hy h2, s1, s2, g⟩
  | lt =>
    obtain ⟨i, j, rfl, rfl, rfl⟩ := ltD_some hb
    cases hx; cases hy
    exact op_lt pins s σ H _ _ v u Q I rx ry ⟨_, _, rfl, rfl, g⟩
  | le =>
    obtain ⟨i, j, rfl, rfl, rfl⟩ := leD_some hb
    cases hx; cases hy
    exact op_le pins s σ H _ _ v u Q I rx ry ⟨_, _, rfl, rfl, g⟩
  | gt =>
    obtain ⟨i, j, rfl, rfl, rfl⟩ := ltD_some hb
    cases hx; cases hy
    exact op_gt pins s σ H _ _ v u Q I rx ry ⟨_, _, rfl, rfl, g⟩
  | ge =>
    obtain ⟨i, j, rfl, rfl, rfl⟩ := leD_some hb
    cases hx; cases hy
    exact op_ge pins s σ H _ _ v u Q I rx ry ⟨_, _, rfl, rfl, g⟩
  | isin => exact o_in hK hu false pins s σ H _ _ v u Q I rx ry ⟨m, da, db, k, hx, hy, hb, g⟩
  | nin =>
    obtain ⟨k', hb', rfl⟩ := Option.map_eq_some_iff.mp hb
    exact o_in hK hu true pins s σ H _ _ v u Q I rx ry ⟨m, da, db, k', hx, hy, hb', g⟩
  | is =>
    change isD da db = some k at hb
    unfold isD at hb
    split at hb
    · cases hb
      cases hx
      cases hy
      exact op_isB pins s σ H _ _ v u Q I rx ry ⟨_, _, rfl, rfl, g⟩
    · cases hb
end
end GP

set_option Elab.async false
set_option linter.all false
set_option maxRecDepth 100000
set_option autoImplicit false
set_option maxHeartbeats 1000000

namespace GP
open PySem PySem.Spec L2


structure Gd (e : En) (N : List Str) (sc : Scope) (kk : Nat) (Wx : WX) (X : Cx) : Prop where
  hK : X.K = e.K
  room : Room kk X.A
  gds : X.A.guards = some []
  calm : X.calm = true
  hN : X.N = N
  nd : N.Nodup
  hsc : X.env.scope = sc
  po : PassesOwn (model X.prog X.w) X.A X.env X.xe
  tk : Takes X Wx

section
variable {α : Type} {e : En} {Wx : WX} {σ : St} {m : List Addr} {s : S} {H : Hp}

theorem Run.two {ra : R D} {rb : S → R D} {f : D → D → S → R α} {k : α → List Addr → S → Hp → Prop} (w : Run e Wx σ m s H (bnd ra fun x s1 => bnd (rb s1) fun y s2 => f x y s2) k) {Q : V → V → Hp → Prop}
    (i : ∀ x y v u m2 s2 H2, Evo σ m s H σ m2 s2 H2 → Fm e σ H2 m2 s2 → Dat e m2 H2 v x → Dat e m2 H2 u y → Run e Wx σ m2 s2 H2 (f x y s2) k → Q v u H2) :
    Run e Wx σ m s H ra (fun x m1 s1 H1 => ∀ v, Dat e m1 H1 v x → TD e Wx rb σ H1 fun u H2 => Q v u H2) :=
  w.split.imp fun x m1 s1 H1 v1 f1 w1 v hv => ⟨m1, s1, f1, w1.split.imp fun y m2 s2 H2 v2 f2 w2 u hu => i x y v u m2 s2 H2 (v1.trans v2) f2 (hv.stay (v2.stay f1)) hu w2⟩
theorem Run.one {ra : R D} {f : D → S → R α} {k : α → List Addr → S → Hp → Prop} (w : Run e Wx σ m s H (bnd ra f) k) {Q : V → Hp → Prop}
    (i : ∀ x v m2 s2 H2, Evo σ m s H σ m2 s2 H2 → Fm e σ H2 m2 s2 → Dat e m2 H2 v x → Run e Wx σ m2 s2 H2 (f x s2) k → Q v H2) :
    Run e Wx σ m s H ra (fun x m1 s1 H1 => ∀ v, Dat e m1 H1 v x → Q v H1) :=
  w.split.imp fun x m1 s1 H1 v1 f1 w1 v hv => i x v m1 s1 H1 v1 f1 hv w1
end

section
variable {e : En} {N : List Str} {sc : Scope} {kk : Nat} {Wx : WX} {X : Cx} {Γ : Ctx} {a b c ex : Expr} {es : List Expr} {pos : Pos} {ra rb rc : S → R Sl} {rt : S → R Bool} {rl : S → R (List D)}
theorem x_var (G : Gd e N sc kk Wx X) {i : Nat} {x : Str} (hN : N[i]? = some x) (hv : Vis X.env.scope x) (h1 : (x == ("__debug__" : Str)) = false) (h2 : (x == ("__classdict__" : Str)) = false) : PE X (.Name x pos) (TO e Wx (evO Γ (.var i))) := by
  refine PE.imp (pe_lk (pe_var (i := i) (by rw [G.hN]; exact hN) hv h1 h2)) fun σ H Q ⟨m, s, f, w⟩ => ?_
  have w : Run e Wx σ m s H (match s.ρ[i]? with
    | some sl => match sl.fz with
      | some d => okv (.val d) (s.put i (.val d))
      | none => none
    | none => none) (fun sl m' s' H' => ∀ v, Res e σ m' s' H H' v sl → Q v H') := by unfold evO at w; exact w
  cases q : s.ρ[i]? with
  | none => rw [q] at w; exact w.elim
  | some sl =>
    rw [q] at w
    have y := f.slot i sl q
    cases sl with
    | emp => exact w.elim
    | keys _ => exact w.elim
    | val d =>
      obtain ⟨v, hs, hd⟩ := y
      exact ⟨v, hs, .inl (w m H ⟨fun b o h _ => h, fun b x => .inl (wr_put x), fun _ _ h => h, fun b o h => ⟨o, h⟩⟩ (f.frz hs hd .refl fun _ _ _ h => h) v hd)⟩
    | own xs =>
      obtain ⟨p, vs, hs, hp, hd⟩ := y
      refine ⟨.ref p, hs, .inr ⟨p, _, hp, trivial, fun od => ?_⟩⟩
      have wp : Wr σ m s p := .inr ⟨i, hs, _, q, rfl⟩
      have st : Stay m H m (upd H p (.frz od (.lst vs))) := ⟨fun b u q n => by rw [upd_ne (fun z => by subst z; rw [hp] at q; cases q; cases n)]; exact q, fun _ _ h => h⟩
      have dd : Dat e m (upd H p (.frz od (.lst vs))) (.ref p) (.lst xs) := .lst (.inl ⟨od, upd_same⟩) (DatL.stay st hd)
      refine w m _ ⟨fun b o h n => by rw [upd_ne (fun z => by subst z; exact n wp)]; exact h, fun b x => .inl (wr_put x), fun _ _ h => h, fun b o h => ?_⟩ (f.frz hs dd st fun b o wb h => ?_) _ dd
      · by_cases z : b = p
        · subst z; exact ⟨_, upd_same⟩
        · exact ⟨o, by rw [upd_ne z]; exact h⟩
      · rw [upd_ne]
        · exact h
        · rintro rfl
          rcases wb with wb | ⟨j, wb⟩
          · exact f.om i _ ⟨hs, _, q, rfl⟩ wb
          · exact (own_put wb).2 (f.od j i _ (own_put wb).1 ⟨hs, _, q, rfl⟩)
    | ownd ks us =>
      obtain ⟨p, kvs, hs, hp, hd, hd2⟩ := y
      refine ⟨.ref p, hs, .inr ⟨p, _, hp, trivial, fun od => ?_⟩⟩
      have wp : Wr σ m s p := .inr ⟨i, hs, _, q, rfl⟩
      have st : Stay m H m (upd H p (.frz od (.dK kvs))) := ⟨fun b u q n => by rw [upd_ne (fun z => by subst z; rw [hp] at q; cases q; cases n)]; exact q, fun _ _ h => h⟩
      have dd : Dat e m (upd H p (.frz od (.dK kvs))) (.ref p) (.dic ks us) := .dic upd_same (DatL.stay st hd) (DatL.stay st hd2)
      refine w m _ ⟨fun b o h n => by rw [upd_ne (fun z => by subst z; exact n wp)]; exact h, fun b x => .inl (wr_put x), fun _ _ h => h, fun b o h => ?_⟩ (f.frz hs dd st fun b o wb h => ?_) _ dd
      · by_cases z : b = p
        · subst z; exact ⟨_, upd_same⟩
        · exact ⟨o, by rw [upd_ne z]; exact h⟩
      · rw [upd_ne]
        · exact h
        · rintro rfl
          rcases wb with wb | ⟨j, wb⟩
          · exact f.om i _ ⟨hs, _, q, rfl⟩ wb
          · exact (own_put wb).2 (f.od j i _ (own_put wb).1 ⟨hs, _, q, rfl⟩)
theorem x_con {v : V} {d : D} (h : PE X ex (tC v)) (hd : ∀ m H, Dat e m H v d) : PE X ex (TO e Wx (evO Γ (.con d))) :=
  PE.imp h fun σ H Q ⟨m, s, f, w⟩ => by
    have w : Run e Wx σ m s H (okv (.val d) s) (fun sl m' s' H' => ∀ v, Res e σ m' s' H H' v sl → Q v H') := by unfold evO at w; exact w
    exact w m H .refl f v (hd _ _)
theorem x_glob {v : V} {d : D} {g : Nat} (h : PE X ex (tC v)) (hg : Γ.gc g = some d) (hd : ∀ m H, Dat e m H v d) : PE X ex (TO e Wx (evO Γ (.glob g))) :=
  PE.imp h fun σ H Q ⟨m, s, f, w⟩ => by
    have w : Run e Wx σ m s H (okv (.val d) s) (fun sl m' s' H' => ∀ v, Res e σ m' s' H H' v sl → Q v H') := by unfold evO at w; rw [hg] at w; exact w
    exact w m H .refl f v (hd _ _)
theorem x_bin (G : Gd e N sc kk Wx X) {op : Bop} (ha : PE X a (TO e Wx ra)) (hb : PE X b (TO e Wx rb)) :
    PE X (.BinOp a (opB op) b pos) (TO e Wx fun s => bnd (frz (ra s)) fun x s1 => bnd (frz (rb s1)) fun y s2 => lft (binD op x y) s2) :=
  PE.imp (pe_op (o_bin G.hK op) (xd ha) (xd hb)) fun σ H Q ⟨m, s, f, w⟩ => ⟨m, s, f, Run.two w fun x y v u m2 s2 H2 v2 f2 hx hy w2 => by
    obtain ⟨sl, hb, w3⟩ := w2.lft
    exact ⟨m2, x, y, sl, hx, hy, hb, w3.got v2 f2⟩⟩
theorem x_neg (ha : PE X a (TO e Wx ra)) : PE X (.UnaryOp .USub a pos) (TO e Wx fun s => bnd (frz (ra s)) fun x s1 => lft ((intO x).map fun i => .val (.int (-i))) s1) :=
  PE.imp (pe_un un_neg (xd ha)) fun σ H Q ⟨m, s, f, w⟩ => ⟨m, s, f, Run.one w fun x v m2 s2 H2 v2 f2 hx w2 => by
    obtain ⟨sl, hb, w3⟩ := w2.lft
    obtain ⟨i, hi, rfl⟩ := Option.map_eq_some_iff.mp hb
    cases x <;> cases hi
    cases hx
    exact ⟨_, rfl, (w3.got v2 f2).at (.int _)⟩⟩
theorem x_not (ha : PE X a (TO e Wx ra)) : PE X (.UnaryOp .Not a pos) (TO e Wx fun s => bnd (frz (ra s)) fun x s1 => lft ((blO x).map fun i => .val (.bl (!i))) s1) :=
  PE.imp (pe_not (xd ha)) fun σ H Q ⟨m, s, f, w⟩ => ⟨m, s, f, Run.one w fun x v m2 s2 H2 v2 f2 hx w2 => by
    obtain ⟨sl, hb, w3⟩ := w2.lft
    obtain ⟨i, hi, rfl⟩ := Option.map_eq_some_iff.mp hb
    cases x <;> cases hi
    cases hx
    exact ⟨_, rfl, (w3.got v2 f2).at (.bl _)⟩⟩
theorem x_cmp (G : Gd e N sc kk Wx X) {op : Cop} (ha : PE X a (TO e Wx ra)) (hb : PE X b (TO e Wx rb)) (hm : behindInMarks (opC op) b = false) :
    PE X (.Compare a [opC op] [b] pos) (TO e Wx fun s => bnd (frz (ra s)) fun x s1 => bnd (frz (rb s1)) fun y s2 => lft ((cmpD op x y).map fun k => .val (.bl k)) s2) :=
  PE.imp (pe_cmpR (o_cmp G.hK (by have := G.room.un; omega) op) (xd ha) (xd hb) hm) fun σ H Q ⟨m, s, f, w⟩ => ⟨m, s, f, Run.two w fun x y v u m2 s2 H2 v2 f2 hx hy w2 => by
    obtain ⟨sl, hb, w3⟩ := w2.lft
    obtain ⟨k, hk, rfl⟩ := Option.map_eq_some_iff.mp hb
    exact ⟨m2, x, y, k, hx, hy, hk, (w3.got v2 f2).at (.bl _)⟩⟩
theorem Res.from {σ : St} {m m1 : List Addr} {s s1 : S} {H H1 H2 : Hp} {v : V} {sl : Sl} {m2 : List Addr} {s2 : S} (r : Res e σ m2 s2 H1 H2 v sl) (w : Evo σ m s H σ m1 s1 H1) : Res e σ m2 s2 H H2 v sl := by
  cases sl with
  | emp => exact r
  | val d => exact r
  | own xs => obtain ⟨p, vs, h1, h2, h3⟩ := r; exact ⟨p, vs, h1, w.fresh h2, h3⟩
  | ownd ks us => obtain ⟨p, vs, h1, h2, h3⟩ := r; exact ⟨p, vs, h1, w.fresh h2, h3⟩
  | keys ks => obtain ⟨p, vs, h1, h2, h3⟩ := r; exact ⟨p, vs, h1, w.fresh h2, h3⟩

theorem Run.on {σ : St} {m m1 : List Addr} {s s1 : S} {H H1 : Hp} {Q : VK} {r : S → R Sl} (w : Run e Wx σ m1 s1 H1 (r s1) (fun sl m' s' H' => ∀ v, Res e σ m' s' H H' v sl → Q v H')) (v : Evo σ m s H σ m1 s1 H1) (f : Fm e σ H1 m1 s1) : TO e Wx r σ H1 Q :=
  ⟨m1, s1, f, w.imp fun sl m' s' H' _ _ k u ru => k u (ru.from v)⟩
theorem x_and (ha : PE X a (TO e Wx ra)) (hb : PE X (.BoolOp .And (b :: es) pos) (TO e Wx rb)) :
    PE X (.BoolOp .And (a :: b :: es) pos) (TO e Wx fun s => bnd (frz (ra s)) fun x s1 => match x with | .bl true => rb s1 | .bl false => okv (.val (.bl false)) s1 | _ => none) :=
  PE.imp (pe_and (xd ha) hb) fun σ H Q ⟨m, s, f, w⟩ => ⟨m, s, f, Run.one w fun x v m2 s2 H2 v2 f2 hx w2 => by
    cases x with
    | bl k =>
      cases hx
      cases k with
      | true => exact ⟨true, rfl, w2.on v2 f2⟩
      | false => exact ⟨false, rfl, (w2.got v2 f2).at (.bl _)⟩
    | _ => exact w2.elim⟩
theorem x_or (ha : PE X a (TO e Wx ra)) (hb : PE X (.BoolOp .Or (b :: es) pos) (TO e Wx rb)) :
    PE X (.BoolOp .Or (a :: b :: es) pos) (TO e Wx fun s => bnd (frz (ra s)) fun x s1 => match x with | .bl false => rb s1 | .bl true => okv (.val (.bl true)) s1 | _ => none) :=
  PE.imp (pe_or (xd ha) hb) fun σ H Q ⟨m, s, f, w⟩ => ⟨m, s, f, Run.one w fun x v m2 s2 H2 v2 f2 hx w2 => by
    cases x with
    | bl k =>
      cases hx
      cases k with
      | true => exact ⟨true, rfl, (w2.got v2 f2).at (.bl _)⟩
      | false => exact ⟨false, rfl, w2.on v2 f2⟩
    | _ => exact w2.elim⟩
theorem non_iff {m : List Addr} {H : Hp} {v : V} {x : D} (h : Dat e m H v x) : decide (v = .non) = isNonD x := by
  cases h <;> rfl
theorem x_isN {j : Nat} {p2 : Pos} (ha : PE X a (TO e Wx ra)) :
    PE X (.Compare a [.Is] [.Constant .none j p2] pos) (TO e Wx fun s => bnd (frz (ra s)) fun x s1 => okv (.val (.bl (isNonD x))) s1) :=
  PE.imp (pe_cmp (pc_isN (xd ha))) fun σ H Q ⟨m, s, f, w⟩ => ⟨m, s, f, Run.one w fun x v m2 s2 H2 v2 f2 hx w2 => by
    show Q (.bl (decide (v = .non))) H2
    rw [non_iff hx]
    exact (w2.got v2 f2).at (.bl _)⟩
theorem x_isnN {j : Nat} {p2 : Pos} (ha : PE X a (TO e Wx ra)) :
    PE X (.Compare a [.IsNot] [.Constant .none j p2] pos) (TO e Wx fun s => bnd (frz (ra s)) fun x s1 => okv (.val (.bl (!isNonD x))) s1) :=
  PE.imp (pe_cmp (pc_notN (xd ha))) fun σ H Q ⟨m, s, f, w⟩ => ⟨m, s, f, Run.one w fun x v m2 s2 H2 v2 f2 hx w2 => by
    show Q (.bl (!decide (v = .non))) H2
    rw [non_iff hx]
    exact (w2.got v2 f2).at (.bl _)⟩
theorem x_chain (G : Gd e N sc kk Wx X) {o p : Cop} (ha : PE X a (TO e Wx ra)) (hb : PE X b (TO e Wx rb)) (hc : PE X c (TO e Wx rc)) (hm : lastMarks [opC o, opC p] [b, c] = false) :
    PE X (.Compare a [opC o, opC p] [b, c] pos) (TO e Wx fun s => bnd (frz (ra s)) fun x s1 => bnd (frz (rb s1)) fun y s2 => match cmpD o x y with
    | some true => bnd (frz (rc s2)) fun z s3 => lft ((cmpD p y z).map fun k => .val (.bl k)) s3
    | some false => okv (.val (.bl false)) s2
    | none => none) := by
  have hu : X.A.units + 65 < cLine := by have := G.room.un; omega
  refine PE.imp (pe_chain (o_cmp G.hK hu o) (o_cmp G.hK hu p) (xd ha) (xd hb) (xd hc) hm) fun σ H Q ⟨m, s, f, w⟩ => ⟨m, s, f, Run.two w fun x y v u m2 s2 H2 v2 f2 hx hy w2 => ?_⟩
  cases q : cmpD o x y with
  | none => rw [q] at w2; exact w2.elim
  | some k =>
    rw [q] at w2
    refine ⟨m2, x, y, k, hx, hy, q, k, rfl, ?_⟩
    cases k with
    | false => exact (w2.got v2 f2).at (.bl _)
    | true =>
      rw [if_pos rfl]
      refine ⟨m2, s2, f2, Run.one w2 fun z t m3 s3 H3 v3 f3 hz w3 => ?_⟩
      obtain ⟨sl, hs, w4⟩ := w3.lft
      obtain ⟨k, hk, rfl⟩ := Option.map_eq_some_iff.mp hs
      exact ⟨m3, y, z, k, hy.stay (v3.stay f2), hz, hk, (w4.got (v2.trans v3) f3).at (.bl _)⟩
theorem x_ite {t : Expr} (ht : PT X t (TB e Wx rt)) (ha : PE X a (TO e Wx ra)) (hb : PE X b (TO e Wx rb)) : PE X (.IfExp t a b pos) (TO e Wx fun s => bnd (rt s) fun k s1 => if k then ra s1 else rb s1) :=
  PE.imp (pe_ifExp ht ha hb) fun σ H Q ⟨m, s, f, w⟩ => ⟨m, s, f, w.split.imp fun k m1 s1 H1 v1 f1 w1 => by
    cases k with
    | true => exact w1.on v1 f1
    | false => exact w1.on v1 f1⟩


def noStar : Expr → Bool
  | .Starred _ _ => false
  | _ => true
theorem star_of {a : Expr} {es : List Expr} {env : Env} (h : noStar a = true) : starEach (a :: es) env = (false, eval a env) :: starEach es env := by
  cases a <;> first | rfl | cases h
theorem xl_nil : PA X [] (TL e Wx fun s => okv [] s) := PA.imp pa_nil fun σ H Q ⟨m, s, f, w⟩ => w m H .refl f [] .nil
theorem xl_cons (ha : PE X a (TO e Wx ra)) (hl : PA X es (TL e Wx rl)) (h : noStar a = true) : PA X (a :: es) (TL e Wx fun s => bnd (frz (ra s)) fun d s1 => bnd (rl s1) fun ds s2 => okv (d :: ds) s2) :=
  PA.imp (pa_cons (xd ha) hl (star_of h)) fun σ H Q ⟨m, s, f, w⟩ => ⟨m, s, f, Run.one w fun x v m2 s2 H2 v2 f2 hx w2 => ⟨m2, s2, f2, w2.split.imp fun ds m3 s3 H3 v3 f3 w3 vs hv => w3 m3 H3 .refl f3 _ (.cons (hx.stay (v3.stay f2)) hv)⟩⟩
theorem x_tup {k : Nat} (hl : PA X es (TL e Wx rl)) : PE X (.Tuple es k pos) (TO e Wx fun s => bnd (rl s) fun ds s1 => if sizeB ds.length then okv (.val (.tup ds)) s1 else none) :=
  PE.imp (pe_tup hl) fun σ H Q ⟨m, s, f, w⟩ => ⟨m, s, f, w.split.imp fun ds m1 s1 H1 v1 f1 w1 vs hv => by
    split at w1
    · rename_i hz
      refine ⟨by rw [hv.length]; exact sizeB_le hz, fun p hp => ?_⟩
      exact (w1.got v1 f1).tup hv p hp
    · exact w1.elim⟩
theorem x_lst (hl : PA X es (TL e Wx rl)) : PE X (.List es pos) (TO e Wx fun s => bnd (rl s) fun ds s1 => if sizeB ds.length then okv (.own ds) s1 else none) :=
  PE.imp (pe_lst hl) fun σ H Q ⟨m, s, f, w⟩ => ⟨m, s, f, w.split.imp fun ds m1 s1 H1 v1 f1 w1 vs hv => by
    split at w1
    · rename_i hz
      refine ⟨by rw [hv.length]; exact sizeB_le hz, fun p hp => ?_⟩
      exact (w1.got v1 f1) p vs hp hv
    · exact w1.elim⟩
theorem x_dnew : PE X (.Dict [] [] pos) (TO e Wx fun s => okv (.ownd [] []) s) :=
  PE.imp pe_dnewK fun σ H Q ⟨m, s, f, w⟩ => fun p hp => (w.got .refl f) p [] hp .nil .nil


def noSl : Expr → Bool
  | .Slice _ _ _ _ => false
  | _ => true
theorem plain_of {b : Expr} (h : noSl b = true) : ∀ o i, subscripted b false o i = operate [o, i] (getItem o i) := by
  cases b <;> first | (intro o i; rfl) | cases h
theorem ix_dict (hu : X.A.units + 1 < cLine) : IxR X (fun x y H Q => ∃ a v, x = .ref a ∧ DGet H a y (some v) ∧ Q v H) := by
  intro value slice pins s σ H x y v u Q I rx ry ⟨a, w, ex, g, q⟩ hs
  subst ex
  cases rx
  exact PyProof.Rows.tail_any (dict_typeIs I g) PySem.F.slot_dict_getitem.lookup (d_getItem hu I g ry fun w' s3 I3 rw' => ⟨w, H, I3, rw', q⟩) hs
end
end GP

set_option Elab.async false
set_option linter.all false
set_option maxRecDepth 100000
set_option autoImplicit false
set_option maxHeartbeats 1000000

namespace GP
open PySem PySem.Spec L2

section
variable {e : En} {m : List Addr} {H : Hp}
theorem DatL.atI {vs : List V} {ds : List D} {i : Int} {d : D} (h : DatL e m H vs ds) (g : L2.atI ds i = some d) : ∃ v, L2.atI vs i = some v ∧ Dat e m H v d := by
  unfold L2.atI at g ⊢
  rw [h.length]
  cases q : ixN ds.length i with
  | none => rw [q] at g; cases g
  | some j => rw [q] at g; exact h.get g
theorem DatL.cutD {vs : List V} {ds : List D} (h : DatL e m H vs ds) (lo hi : Option Int) : DatL e m H (cutV vs lo hi) (cut ds lo hi) := by
  unfold cutV cut
  rw [h.length]
  exact (h.drop _).take _
theorem DatF.look {us : List (Str × V)} {kvs : List (Str × D)} {k : Str} {d : D} (h : DatF e m H us kvs) (g : kvs.lookup k = some d) : ∃ v, valV (us.map skey) (Sum.inr k) = some v ∧ us.lookup k = some v ∧ Dat e m H v d := by
  induction h with
  | nil => cases g
  | @cons k' v d' us kvs hd t ih =>
    rw [List.lookup_cons] at g
    unfold valV
    rw [List.map_cons, List.find?_cons, List.lookup_cons]
    by_cases q : k = k'
    · subst q
      simp only [beq_self_eq_true] at g
      cases g
      simp only [skey, decide_true, beq_self_eq_true]
      exact ⟨v, rfl, rfl, hd⟩
    · have q1 : (k == k') = false := beq_eq_false_iff_ne.mpr q
      rw [q1] at g ⊢
      have q2 : decide ((skey (k', v)).1 = Sum.inr k) = false := decide_eq_false fun z => q (Sum.inr.inj z).symm
      rw [q2]
      exact ih g
end
section
variable {e : En} {N : List Str} {sc : Scope} {kk : Nat} {Wx : WX} {X : Cx} {Γ : Ctx} {a b c ex : Expr} {es : List Expr} {pos : Pos} {ra rb rc : S → R Sl} {rt : S → R Bool} {rl : S → R (List D)}
theorem Gd.hu (G : Gd e N sc kk Wx X) : X.A.units + 100 < cLine := by have := G.room.un; omega
theorem i_idxD (hK : X.K = e.K) {m : List Addr} {H : Hp} {x y d : D} {v u : V} {Q : VK} (hx : Dat e m H v x) (hy : Dat e m H u y) (h : idxD x y = some d) (q : ∀ w, Dat e m H w d → Q w H) : rIx X.K v u H Q := by
  unfold idxD at h
  split at h
  · cases hx with | lst h1 t1 => cases hy; obtain ⟨w, h2, h3⟩ := t1.atI h; exact .inl ⟨_, _, _, w, rfl, rfl, (sqL hK h1), h2, q w h3⟩
  · cases hx with | tup h1 t1 => cases hy; obtain ⟨w, h2, h3⟩ := t1.atI h; exact .inr (.inl ⟨_, _, _, w, rfl, rfl, sqT hK h1, h2, q w h3⟩)
  · split at h
    · rename_i hz
      cases hx; cases hy
      obtain ⟨c, hc, rfl⟩ := Option.map_eq_some_iff.mp h
      exact .inr (.inr ⟨_, _, c, rfl, rfl, sizeB_le hz, hc, q _ (.str _)⟩)
    · cases h
  · cases h
theorem i_idx (hK : X.K = e.K) {m : List Addr} {s : S} {σ : St} {H : Hp} {x y d : D} {v u : V} {Q : VK} (f : Fm e σ H m s) (hx : Dat e m H v x) (hy : Dat e m H u y) (h : idxW s.W x y = some d) (q : ∀ w, Dat e m H w d → Q w H) :
    rIx X.K v u H Q ∨ ∃ a w, v = .ref a ∧ DGet H a u (some w) ∧ Q w H := by
  unfold idxW at h
  split at h
  · rename_i n k
    split at h
    · rename_i kvs hw
      right
      cases hx with | obj hm =>
      cases hy
      obtain ⟨us, hH, hF⟩ := f.wok n _ _ hm hw
      obtain ⟨w, h1, _, h2⟩ := hF.look h
      exact ⟨_, w, rfl, .inl ⟨_, Sum.inr k, .inl hH, rfl, h1.symm⟩, q w h2⟩
    · cases h
  · exact .inl (i_idxD hK hx hy h q)
theorem x_idx (G : Gd e N sc kk Wx X) (ha : PE X a (TO e Wx ra)) (hb : PE X b (TO e Wx rb)) (hs : noSl b = true) :
    PE X (.Subscript a b pos) (TO e Wx fun s => bnd (frz (ra s)) fun x s1 => bnd (frz (rb s1)) fun y s2 => lft ((idxW s2.W x y).map .val) s2) :=
  PE.imp (pe_ix (IxR.or ix_seq (ix_dict (by have := G.hu; omega))) (xd ha) (xd hb) (plain_of hs)) fun σ H Q ⟨m, s, f, w⟩ => ⟨m, s, f, Run.two w fun x y v u m2 s2 H2 v2 f2 hx hy w2 => by
    obtain ⟨sl, hb, w3⟩ := w2.lft
    obtain ⟨d, hd, rfl⟩ := Option.map_eq_some_iff.mp hb
    exact i_idx G.hK f2 hx hy hd fun w hw => (w3.got v2 f2).at hw⟩

theorem at_slot {σ : St} {H : Hp} {m : List Addr} {s : S} {i : Nat} {sl : Sl} (f : Fm e σ H m s) (q : s.ρ[i]? = some sl) : SlAt e m H σ i sl := f.slot i sl q
theorem x_bidx (G : Gd e N sc kk Wx X) {i : Nat} {x : Str} {k : Int} {p1 : Pos} (hN : N[i]? = some x) (hv : Vis X.env.scope x) (h1 : (x == ("__debug__" : Str)) = false) (h2 : (x == ("__classdict__" : Str)) = false) (hb : PE X b (tC (.int k))) (hs : noSl b = true) :
    PE X (.Subscript (.Name x p1) b pos) (TO e Wx (evO Γ (.bidx i k))) := by
  refine PE.imp (pe_ix ix_seq (pe_var (i := i) (by rw [G.hN]; exact hN) hv h1 h2) hb (plain_of hs)) fun σ H Q ⟨m, s, f, w⟩ => ?_
  have w : Run e Wx σ m s H (match s.ρ[i]? with
    | some (.own xs) => lft ((L2.atI xs k).map .val) s
    | some (.val d) => lft ((idxD d (.int k)).map .val) s
    | _ => none) (fun sl m' s' H' => ∀ v, Res e σ m' s' H H' v sl → Q v H') := by unfold evO at w; exact w
  cases q : s.ρ[i]? with
  | none => rw [q] at w; exact w.elim
  | some sl =>
    rw [q] at w
    have y := f.slot i sl q
    cases sl with
    | emp => exact w.elim
    | ownd _ _ => exact w.elim
    | keys _ => exact w.elim
    | val d =>
      obtain ⟨v, hs, hd⟩ := y
      obtain ⟨sl, hb, w3⟩ := w.lft
      obtain ⟨d, hd2, rfl⟩ := Option.map_eq_some_iff.mp hb
      refine ⟨v, hs, ?_⟩
      exact i_idxD G.hK hd (.int k) hd2 fun w hw => (w3.got .refl f).at hw
    | own xs =>
      obtain ⟨p, vs, hs, hp, hd⟩ := y
      obtain ⟨sl, hb, w3⟩ := w.lft
      obtain ⟨d, hd2, rfl⟩ := Option.map_eq_some_iff.mp hb
      obtain ⟨u, h3, h4⟩ := hd.atI hd2
      exact ⟨.ref p, hs, .inl ⟨_, _, _, u, rfl, rfl, SqL.of hp, h3, (w3.got .refl f).at h4⟩⟩
def bempOp (X : Cx) (neg : Bool) : R2 := if neg then rNeD X.K else rEqD X.K
theorem bemp_op (G : Gd e N sc kk Wx X) (neg : Bool) : OpR X (compareOp (if neg then .NotEq else .Eq)) (bempOp X neg) := by
  have hu : X.A.units + 64 < cLine := by have := G.hu; omega
  cases neg
  · exact op_eqD hu
  · exact op_neD hu
theorem i_bemp (G : Gd e N sc kk Wx X) {i : Nat} {neg : Bool} {σ : St} {H : Hp} {Q : VK} (w : TO e Wx (evO Γ (.bemp i neg)) σ H Q) : tOp (bempOp X neg) (tVar i) (tLst tNil) σ H Q := by
  have hu : X.A.units + 64 < cLine := by have := G.hu; omega
  have go : ∀ {σ : St} {H : Hp} {Q : VK} {m : List Addr} {s : S} {v : V} {xs : List D} {vs : List V} {a : Addr}, Fm e σ H m s → v = .ref a → SqL X.K H a vs → (∀ p o, H p = none → SqL X.K (upd H p o) a vs) → DatL e m H vs xs →
      Run e Wx σ m s H (lft ((noneIn xs).map fun k => .val (.bl (if neg then !k else k))) s) (fun sl m' s' H' => ∀ v, Res e σ m' s' H H' v sl → Q v H') →
      (0 ≤ sizeLine ∧ ∀ p, H p = none → (if neg then rNeD X.K else rEqD X.K) v (.ref p) (upd H p (.lst [])) Q) := by
    intro σ H Q m s v xs vs a f hva hsq hsq2 hd w
    subst hva
    obtain ⟨sl, hb, w3⟩ := w.lft
    obtain ⟨k, hk, rfl⟩ := Option.map_eq_some_iff.mp hb
    unfold noneIn at hk
    split at hk
    · rename_i ps hps
      split at hk
      · rename_i hsh
        cases hk
        refine ⟨Nat.zero_le _, fun p hp => ?_⟩
        have d1 : Dp X.K (upd H p (.lst [])) (.ref a) (.list ps) := .lst (hsq2 p _ hp) (dpL G.hK (DatL.stay (.new hp) hd) hps)
        have d2 : Dp X.K (upd H p (.lst [])) (.ref p) (.list []) := .lst (SqL.of upd_same) .nil
        have ee : PyData.eqv (.list ps) (.list []) = xs.isEmpty := by
          cases xs with
          | nil => cases hps; rfl
          | cons x xs =>
            unfold toPyL at hps
            split at hps
            · cases hps; rfl
            · cases hps
        have q := (w3.got .refl f) (V.bl (if neg then !xs.isEmpty else xs.isEmpty)) (upd H p (.lst [])) (.inr ⟨p, _, hp, rfl⟩) (.bl _)
        cases neg with
        | true => exact ⟨_, _, d1, d2, hsh, rfl, by rw [ee]; exact q⟩
        | false => exact ⟨_, _, d1, d2, hsh, rfl, by rw [ee]; exact q⟩
      · cases hk
    · cases hk
  obtain ⟨m, s, f, w⟩ := w
  have w : Run e Wx σ m s H (match s.ρ[i]? with
    | some (.own xs) => lft ((noneIn xs).map fun k => .val (.bl (if neg then !k else k))) s
    | some (.val (.lst xs)) => lft ((noneIn xs).map fun k => .val (.bl (if neg then !k else k))) s
    | _ => none) (fun sl m' s' H' => ∀ v, Res e σ m' s' H H' v sl → Q v H') := by unfold evO at w; exact w
  cases q : s.ρ[i]? with
  | none => rw [q] at w; exact w.elim
  | some sl =>
    rw [q] at w
    have y := f.slot i sl q
    cases sl with
    | emp => exact w.elim
    | ownd _ _ => exact w.elim
    | keys _ => exact w.elim
    | val d =>
      cases d with
      | lst xs =>
        obtain ⟨v, hs, hd⟩ := y
        cases hd with
        | lst h3 h4 => exact ⟨_, hs, go f rfl (sqL G.hK h3) (fun p o hp => sqL G.hK (Stay.fzL (m := m) (m' := m) (.new hp) h3)) h4 w⟩
      | _ => exact w.elim
    | own xs =>
      obtain ⟨p, vs, hs, hp, hd⟩ := y
      exact ⟨.ref p, hs, go f rfl (SqL.of hp) (fun p' o hp' => SqL.of (by rw [upd_ne (ne_of_none hp hp')]; exact hp)) hd w⟩
theorem x_bemp (G : Gd e N sc kk Wx X) {i : Nat} {x : Str} {neg : Bool} {p1 p2 : Pos} (hN : N[i]? = some x) (hv : Vis X.env.scope x) (h1 : (x == ("__debug__" : Str)) = false) (h2 : (x == ("__classdict__" : Str)) = false) :
    PE X (.Compare (.Name x p1) [if neg then .NotEq else .Eq] [.List [] p2] pos) (TO e Wx (evO Γ (.bemp i neg))) :=
  PE.imp (pe_cmpR (bemp_op G neg) (pe_var (i := i) (by rw [G.hN]; exact hN) hv h1 h2) (pe_lst pa_nil) (by cases neg <;> rfl)) fun σ H Q w => i_bemp G w
theorem bemp_val {i : Nat} {neg : Bool} (s s' : S) (sl : Sl) (h : evO Γ (.bemp i neg) s = some (.val sl, s')) : ∃ d, sl = .val d := by
  unfold evO at h
  split at h
  · rename_i xs _
    cases q : noneIn xs with
    | none => rw [q] at h; cases h
    | some k => rw [q] at h; cases h; exact ⟨_, rfl⟩
  · rename_i xs _
    cases q : noneIn xs with
    | none => rw [q] at h; cases h
    | some k => rw [q] at h; cases h; exact ⟨_, rfl⟩
  · cases h
end
end GP

set_option Elab.async false
set_option linter.all false
set_option maxRecDepth 100000
set_option autoImplicit false
set_option maxHeartbeats 1000000

namespace GP
open PySem PySem.Spec L2

section
variable {e : En} {N : List Str} {sc : Scope} {kk : Nat} {Wx : WX} {X : Cx} {Γ : Ctx} {a b c ex : Expr} {es : List Expr} {pos : Pos} {ra rb rc : S → R Sl} {rt ru : S → R Bool} {rl : S → R (List D)} {m : List Addr} {H : Hp}

def TP (e : En) (Wx : WX) (r : S → R (Option Int)) : L2.TO := fun σ H Q => ∃ m s, Fm e σ H m s ∧ Run e Wx σ m s H (r s) (fun o m' s' H' => Q o H')
theorem xp_none : PO X none (TP e Wx fun s => okv none s) := ⟨fun pins s σ H Q I ⟨m, t, f, w⟩ => po_none.run pins s σ H Q I (w m H .refl f)⟩
theorem xp_some (ha : PE X a (TO e Wx ra)) : PO X (some a) (TP e Wx fun s => bnd (frz (ra s)) fun d s1 => lft ((intO d).map some) s1) :=
  ⟨fun pins s σ H Q I ⟨m, t, f, w⟩ => (po_some (xd ha)).run pins s σ H Q I ⟨m, t, f, Run.one w fun x v m2 s2 H2 v2 f2 hx w2 => by
    obtain ⟨sl, hb, w3⟩ := w2.lft
    obtain ⟨i, hi, rfl⟩ := Option.map_eq_some_iff.mp hb
    cases x <;> cases hi
    cases hx
    exact ⟨_, rfl, w3 m2 H2 .refl f2⟩⟩⟩
theorem cut_all {α : Type} {xs : List α} {lo hi : Option Int} (h : HT.sIx xs.length 0 lo = 0 ∧ HT.sIx xs.length xs.length hi = xs.length) : cut xs lo hi = xs := by
  unfold cut
  rw [h.1, h.2]
  simp
theorem o_slc (hK : X.K = e.K) : SlR X (fun x lo hi H Q => ∃ m d sl, Dat e m H x d ∧ slcD d lo hi = some sl ∧ Got e m H sl Q) := by
  intro pins s σ H x v vl vu lo hi sl Q I rx hs pl pu ⟨m, d, r, hx, hd, g⟩
  cases d <;> simp only [slcD] at hd <;> try cases hd
  case tup xs =>
    cases hx with | tup h1 t1 =>
    refine sl_tupA pins s σ H _ v vl vu lo hi sl Q I rx hs pl pu ⟨_, _, rfl, sqT hK h1, fun z => ?_, fun _ p hp => g.tup (t1.cutD lo hi) p hp⟩
    rw [t1.length] at z
    rw [cut_all z] at g
    exact g.at (.tup h1 t1)
  case lst xs =>
    cases hx with | lst h1 t1 =>
    exact sl_list pins s σ H _ v vl vu lo hi sl Q I rx hs pl pu ⟨_, _, rfl, sqL hK h1, fun p hp => g p _ hp (t1.cutD lo hi)⟩
  case str z =>
    split at hd <;> cases hd
    rename_i hz
    cases hx
    exact sl_str pins s σ H _ v vl vu lo hi sl Q I rx hs pl pu ⟨_, rfl, sizeB_le hz, g.at (.str _)⟩
theorem x_slc (G : Gd e N sc kk Wx X) {lo hi : Option Expr} {rlo rhi : S → R (Option Int)} {p2 : Pos} (ha : PE X a (TO e Wx ra)) (hl : PO X lo (TP e Wx rlo)) (hh : PO X hi (TP e Wx rhi)) :
    PE X (.Subscript a (.Slice lo hi none p2) pos) (TO e Wx fun s => bnd (frz (ra s)) fun x s1 => bnd (rlo s1) fun l s2 => bnd (rhi s2) fun h s3 => lft (slcD x l h) s3) :=
  PE.imp (pe_slice (o_slc G.hK) (xd ha) hl hh) fun σ H Q ⟨m, s, f, w⟩ => ⟨m, s, f, Run.one w fun x v m2 s2 H2 v2 f2 hx w2 => ⟨m2, s2, f2, w2.split.imp fun l m3 s3 H3 v3 f3 w3 => ⟨m3, s3, f3, w3.split.imp fun h m4 s4 H4 v4 f4 w4 => by
    obtain ⟨sl, hb, w5⟩ := w4.lft
    exact ⟨m4, x, sl, (hx.stay (v3.stay f2)).stay (v4.stay f3), hb, w5.got ((v2.trans v3).trans v4) f4⟩⟩⟩⟩


def plainT : Expr → Bool
  | .UnaryOp .Not _ _ => false
  | .BoolOp _ _ _ => false
  | .IfExp _ _ _ _ => false
  | .Compare _ _ _ _ => false
  | _ => true
theorem isTrue_of {a : Expr} {env : Env} (h : plainT a = true) : ∀ whole, isTrue a env whole = (do let v ← whole; standAt a.pos; holding [v] (truthy v)) := by
  intro whole
  cases a <;> first | rfl | cases h | skip
  rename_i op x p
  cases op <;> first | rfl | cases h
theorem i_test {r : S → R Sl} {σ : St} {H : Hp} {Q : Bool → Hp → Prop} (w : TB e Wx (fun s => bnd (frz (r s)) fun d s1 => lft (blO d) s1) σ H Q) : TD e Wx (fun s => frz (r s)) σ H (fun x H' => ∃ k, x = .bl k ∧ Q k H') := by
  obtain ⟨m, s, f, w⟩ := w
  refine ⟨m, s, f, Run.one w fun x v m2 s2 H2 v2 f2 hx w2 => ?_⟩
  obtain ⟨k, hk, w3⟩ := w2.lft
  cases x <;> cases hk
  cases hx
  exact ⟨_, rfl, w3 m2 H2 .refl f2⟩
theorem xt_val (ha : PE X a (TO e Wx ra)) (h : plainT a = true) : PT X a (TB e Wx fun s => bnd (frz (ra s)) fun d s1 => lft (blO d) s1) :=
  PT.imp (pt_val (xd ha) (isTrue_of h)) fun σ H Q w => i_test w
theorem i_toD {r : S → R Sl} {σ : St} {H : Hp} {Q : VK} (w : TD e Wx (fun s => frz (r s)) σ H Q) (val : ∀ s s' sl, r s = some (.val sl, s') → ∃ d, sl = .val d) : TO e Wx r σ H Q := by
  obtain ⟨m, s, f, w⟩ := w
  refine ⟨m, s, f, ?_⟩
  have w : Run e Wx σ m s H (bnd (r s) fun sl s => lft sl.fz s) _ := w
  cases q : r s with
  | none => rw [q] at w; exact w
  | some o =>
    rw [q] at w
    obtain ⟨o, s1⟩ := o
    cases o with
    | exc x => exact w
    | val sl =>
      obtain ⟨d, rfl⟩ := val s s1 sl q
      exact fun m1 H1 v1 f1 v hv => w m1 H1 v1 f1 v hv
theorem cmp_val {op : Cop} (s s' : S) (sl : Sl) (h : (bnd (frz (ra s)) fun x s1 => bnd (frz (rb s1)) fun y s2 => lft ((cmpD op x y).map fun k => Sl.val (.bl k)) s2) = some (.val sl, s')) : ∃ d, sl = .val d := by
  cases q : frz (ra s) with
  | none => rw [q] at h; cases h
  | some o =>
    obtain ⟨o, s1⟩ := o
    cases o with
    | exc x => rw [q] at h; cases h
    | val x =>
      rw [q, bnd_val] at h
      cases q2 : frz (rb s1) with
      | none => rw [q2] at h; cases h
      | some o =>
        obtain ⟨o, s2⟩ := o
        cases o with
        | exc x => rw [q2] at h; cases h
        | val y =>
          rw [q2, bnd_val] at h
          cases q3 : cmpD op x y with
          | none => rw [q3] at h; cases h
          | some k => rw [q3] at h; cases h; exact ⟨_, rfl⟩
theorem i_cmp {op : Cop} {σ : St} {H : Hp} {Q : VK} (w : TD e Wx (fun s => frz (bnd (frz (ra s)) fun x s1 => bnd (frz (rb s1)) fun y s2 => lft ((cmpD op x y).map fun k => Sl.val (.bl k)) s2)) σ H Q) :
    tOp (rCmp e op) (TD e Wx fun s => frz (ra s)) (TD e Wx fun s => frz (rb s)) σ H Q := by
  obtain ⟨m, s, f, w⟩ := i_toD w cmp_val
  exact ⟨m, s, f, Run.two w fun x y v u m2 s2 H2 v2 f2 hx hy w2 => by
    obtain ⟨sl, hb, w3⟩ := w2.lft
    obtain ⟨k, hk, rfl⟩ := Option.map_eq_some_iff.mp hb
    exact ⟨m2, x, y, k, hx, hy, hk, (w3.got v2 f2).at (.bl _)⟩⟩
theorem xt_cmp (G : Gd e N sc kk Wx X) {op : Cop} (ha : PE X a (TO e Wx ra)) (hb : PE X b (TO e Wx rb)) (hm : behindInMarks (opC op) b = false) :
    PT X (.Compare a [opC op] [b] pos) (TB e Wx fun s => bnd (frz (bnd (frz (ra s)) fun x s1 => bnd (frz (rb s1)) fun y s2 => lft ((cmpD op x y).map fun k => .val (.bl k)) s2)) fun d s1 => lft (blO d) s1) :=
  PT.imp (pt_cmpR (o_cmp G.hK (by have := G.hu; omega) op) (xd ha) (xd hb) hm) fun σ H Q w => i_cmp (i_test w)
theorem xt_not {t : Expr} (ht : PT X t (TB e Wx rt)) : PT X (.UnaryOp .Not t pos) (TB e Wx fun s => bnd (rt s) fun b s1 => okv (!b) s1) :=
  PT.imp (pt_not ht) fun σ H Q ⟨m, s, f, w⟩ => ⟨m, s, f, w.split.imp fun k m1 s1 H1 v1 f1 w1 => w1 m1 H1 .refl f1⟩

theorem PW.imp {t t' : TT} (h : PW X ex t) (i : ∀ σ H Q, t' σ H Q → t σ H Q) : PW X ex t' := ⟨fun wh pins s σ H Q I w => h.run wh pins s σ H Q I (i σ H Q w)⟩
theorem xw_and {t : Expr} {us : List Expr} {u : Expr} (ht : PT X t (TB e Wx rt)) (hu : PW X (.BoolOp .And (u :: us) pos) (TB e Wx ru)) : PW X (.BoolOp .And (t :: u :: us) pos) (TB e Wx fun s => bnd (rt s) fun x s1 => if x then ru s1 else okv false s1) :=
  PW.imp (pw_and ht hu) fun σ H Q ⟨m, s, f, w⟩ => ⟨m, s, f, w.split.imp fun k m1 s1 H1 v1 f1 w1 => by
    cases k with
    | true => exact ⟨m1, s1, f1, w1⟩
    | false => exact w1 m1 H1 .refl f1⟩
theorem xw_or {t : Expr} {us : List Expr} {u : Expr} (ht : PT X t (TB e Wx rt)) (hu : PW X (.BoolOp .Or (u :: us) pos) (TB e Wx ru)) : PW X (.BoolOp .Or (t :: u :: us) pos) (TB e Wx fun s => bnd (rt s) fun x s1 => if x then okv true s1 else ru s1) :=
  PW.imp (pw_or ht hu) fun σ H Q ⟨m, s, f, w⟩ => ⟨m, s, f, w.split.imp fun k m1 s1 H1 v1 f1 w1 => by
    cases k with
    | true => exact w1 m1 H1 .refl f1
    | false => exact ⟨m1, s1, f1, w1⟩⟩
def chainR (o p : Cop) (ra rb rc : S → R Sl) : S → R Sl := fun s => bnd (frz (ra s)) fun x s1 => bnd (frz (rb s1)) fun y s2 => match cmpD o x y with
    | some true => bnd (frz (rc s2)) fun z s3 => lft ((cmpD p y z).map fun k => .val (.bl k)) s3
    | some false => okv (.val (.bl false)) s2
    | none => none
theorem bnd_inv {α β : Type} {r : R α} {f : α → S → R β} {b : β} {s' : S} (h : bnd r f = some (.val b, s')) : ∃ a s1, r = some (.val a, s1) ∧ f a s1 = some (.val b, s') := by
  cases r with
  | none => cases h
  | some o => obtain ⟨o, s1⟩ := o; cases o with
    | exc x => cases h
    | val a => exact ⟨a, s1, rfl, h⟩
theorem lft_inv {α : Type} {o : Option α} {s s' : S} {b : α} (h : lft o s = some (.val b, s')) : o = some b ∧ s = s' := by
  cases o with
  | none => cases h
  | some a => cases h; exact ⟨rfl, rfl⟩
theorem chain_val {o p : Cop} (s s' : S) (sl : Sl) (h : chainR o p ra rb rc s = some (.val sl, s')) : ∃ d, sl = .val d := by
  obtain ⟨x, s1, _, h⟩ := bnd_inv h
  obtain ⟨y, s2, _, h⟩ := bnd_inv h
  split at h
  · obtain ⟨z, s3, _, h⟩ := bnd_inv h
    obtain ⟨h, _⟩ := lft_inv h
    obtain ⟨k, _, rfl⟩ := Option.map_eq_some_iff.mp h
    exact ⟨_, rfl⟩
  · cases h; exact ⟨_, rfl⟩
  · cases h
theorem i_chain {o p : Cop} {σ : St} {H : Hp} {Q : VK} (w : TO e Wx (chainR o p ra rb rc) σ H Q) : tChain (rCmp e o) (rCmp e p) (TD e Wx fun s => frz (ra s)) (TD e Wx fun s => frz (rb s)) (TD e Wx fun s => frz (rc s)) σ H Q := by
  obtain ⟨m, s, f, w⟩ := w
  refine ⟨m, s, f, Run.two w fun x y v u m2 s2 H2 v2 f2 hx hy w2 => ?_⟩
  cases q : cmpD o x y with
  | none => rw [q] at w2; exact w2.elim
  | some k =>
    rw [q] at w2
    refine ⟨m2, x, y, k, hx, hy, q, k, rfl, ?_⟩
    cases k with
    | false => exact (w2.got v2 f2).at (.bl _)
    | true =>
      rw [if_pos rfl]
      refine ⟨m2, s2, f2, Run.one w2 fun z t m3 s3 H3 v3 f3 hz w3 => ?_⟩
      obtain ⟨sl, hs, w4⟩ := w3.lft
      obtain ⟨k, hk, rfl⟩ := Option.map_eq_some_iff.mp hs
      exact ⟨m3, y, z, k, hy.stay (v3.stay f2), hz, hk, (w4.got (v2.trans v3) f3).at (.bl _)⟩
theorem xt_chain (G : Gd e N sc kk Wx X) {o p : Cop} (ha : PE X a (TO e Wx ra)) (hb : PE X b (TO e Wx rb)) (hc : PE X c (TO e Wx rc)) (hm : lastMarks [opC o, opC p] [b, c] = false) :
    PT X (.Compare a [opC o, opC p] [b, c] pos) (TB e Wx fun s => bnd (frz (chainR o p ra rb rc s)) fun d s1 => lft (blO d) s1) := by
  have hu : X.A.units + 65 < cLine := by have := G.hu; omega
  exact PT.imp (pt_chain (o_cmp G.hK hu o) (o_cmp G.hK hu p) (xd ha) (xd hb) (xd hc) hm) fun σ H Q w => i_chain (i_toD (i_test w) chain_val)
theorem xt_isN {j : Nat} {p2 : Pos} (ha : PE X a (TO e Wx ra)) :
    PT X (.Compare a [.Is] [.Constant .none j p2] pos) (TB e Wx fun s => bnd (frz (bnd (frz (ra s)) fun x s1 => okv (.val (.bl (isNonD x))) s1)) fun d s1 => lft (blO d) s1) :=
  PT.imp (pt_cmp (pc_isN (xd ha))) fun σ H Q w => by
    obtain ⟨m, s, f, w⟩ := i_toD (i_test w) fun s s' sl h => by
      obtain ⟨x, s1, _, h⟩ := bnd_inv h
      cases h; exact ⟨_, rfl⟩
    exact ⟨m, s, f, Run.one w fun x v m2 s2 H2 v2 f2 hx w2 => by
      rw [non_iff hx]
      exact (w2.got v2 f2).at (.bl _)⟩
theorem xt_isnN {j : Nat} {p2 : Pos} (ha : PE X a (TO e Wx ra)) :
    PT X (.Compare a [.IsNot] [.Constant .none j p2] pos) (TB e Wx fun s => bnd (frz (bnd (frz (ra s)) fun x s1 => okv (.val (.bl (!isNonD x))) s1)) fun d s1 => lft (blO d) s1) :=
  PT.imp (pt_cmp (pc_notN (xd ha))) fun σ H Q w => by
    obtain ⟨m, s, f, w⟩ := i_toD (i_test w) fun s s' sl h => by
      obtain ⟨x, s1, _, h⟩ := bnd_inv h
      cases h; exact ⟨_, rfl⟩
    exact ⟨m, s, f, Run.one w fun x v m2 s2 H2 v2 f2 hx w2 => by
      rw [non_iff hx]
      exact (w2.got v2 f2).at (.bl _)⟩
theorem xt_bemp (G : Gd e N sc kk Wx X) {i : Nat} {x : Str} {neg : Bool} {p1 p2 : Pos} (hN : N[i]? = some x) (hv : Vis X.env.scope x) (h1 : (x == ("__debug__" : Str)) = false) (h2 : (x == ("__classdict__" : Str)) = false) :
    PT X (.Compare (.Name x p1) [if neg then .NotEq else .Eq] [.List [] p2] pos) (TB e Wx fun s => bnd (frz (evO Γ (.bemp i neg) s)) fun d s1 => lft (blO d) s1) :=
  PT.imp (pt_cmpR (bemp_op G neg) (pe_var (i := i) (by rw [G.hN]; exact hN) hv h1 h2) (pe_lst pa_nil) (by cases neg <;> rfl)) fun σ H Q w => i_bemp G (i_toD (i_test w) bemp_val)


def abOk : Expr → Bool
  | .Call (.Name id _) [] [] _ => id != ("super" : Str)
  | _ => true
theorem ab_of {o : Expr} {attr : Str} {env : Env} {w : Sem Value} (h : abOk o = true) : attributeBase o attr env w = w := by
  unfold attributeBase
  split
  · rename_i id _ pos
    have : (id != ("super" : Str)) = true := h
    rw [this]
    rfl
  · rfl
def mthR (ra rb : S → R Sl) (m : Mth) : S → R Sl := fun s => bnd (frz (ra s)) fun x s1 => if mthPre m x then bnd (frz (rb s1)) fun y s2 => lft (mthD m x y) s2 else none
theorem i_mth {mt : Mth} {σ : St} {H : Hp} {Q : VK} {m : List Addr} {s : S} (w : Run e Wx σ m s H (mthR ra rb mt s) (fun sl m' s' H' => ∀ v, Res e σ m' s' H H' v sl → Q v H')) {K : V → V → Hp → Prop}
    (i : ∀ x y v u m2 H2 sl, Dat e m2 H2 v x → Dat e m2 H2 u y → mthD mt x y = some sl → Got e m2 H2 sl Q → K v u H2) :
    Run e Wx σ m s H (frz (ra s)) (fun x m1 s1 H1 => ∀ v, Dat e m1 H1 v x → mthPre mt x = true ∧ TD e Wx (fun s => frz (rb s)) σ H1 (fun u H2 => K v u H2)) :=
  w.split.imp fun x m1 s1 H1 v1 f1 w1 v hv => by
    split at w1
    · rename_i hp
      refine ⟨hp, m1, s1, f1, w1.split.imp fun y m2 s2 H2 v2 f2 w2 u hu => ?_⟩
      obtain ⟨sl, hb, w3⟩ := w2.lft
      exact i x y v u m2 H2 sl (hv.stay (v2.stay f1)) hu hb (w3.got (v1.trans v2) f2)
    · exact w1.elim
theorem x_split {apos : Pos} (ha : PE X a (TO e Wx ra)) (hb : PE X b (TO e Wx rb)) (hs : noStar b = true) (ho : abOk a = true) (hl : (apos.endLine == pos.line) = true) :
    PE X (.Call (.Attribute a "split" apos) [b] [] pos) (TO e Wx (mthR ra rb .split)) :=
  PE.imp (pe_split (xd ha) (xd hb) (star_of hs) (ab_of ho) hl) fun σ H Q ⟨m, s, f, w⟩ => ⟨m, s, f, (i_mth w (K := fun v u H => ∃ a b, v = .str a ∧ [u] = [.str b] ∧ (b.length == 0) = false ∧ a.length + 2 ≤ sizeLine ∧ rNewStrs (Txt.split a b) H Q) (fun x y v u m2 H2 sl hx hy hm g => by
      change splitD x y = some sl at hm
      unfold splitD at hm
      split at hm
      · split at hm <;> cases hm
        rename_i hz
        obtain ⟨z1, z2⟩ := Bool.and_eq_true_iff.mp hz
        cases hx; cases hy
        exact ⟨_, _, rfl, rfl, by simpa using z1, sizeB_le z2, fun p hp => g p _ hp (DatL.ofStrs _)⟩
      · cases hm)).imp fun x m1 s1 H1 v1 f1 w1 v hv => by
    obtain ⟨hp, w2⟩ := w1 v hv
    cases x <;> first | cases hp | skip
    cases hv
    exact ⟨⟨_, rfl⟩, w2⟩⟩
theorem x_join (G : Gd e N sc kk Wx X) {apos : Pos} (ha : PE X a (TO e Wx ra)) (hb : PE X b (TO e Wx rb)) (hs : noStar b = true) (ho : abOk a = true) (hl : (apos.endLine == pos.line) = true) :
    PE X (.Call (.Attribute a "join" apos) [b] [] pos) (TO e Wx (mthR ra rb .join)) :=
  PE.imp (pe_join (xd ha) (xd hb) (star_of hs) (ab_of ho) hl) fun σ H Q ⟨m, s, f, w⟩ => ⟨m, s, f, (i_mth w (K := fun v u H => ∃ a p, ∃ ys : List Str, v = .str a ∧ [u] = [.ref p] ∧ (SqL X.K H p (ys.map V.str) ∨ SqT X.K H p (ys.map V.str)) ∧ (ys.map (·.length)).sum + ys.length * a.length ≤ 16777216 ∧ Q (.str (Txt.join a ys)) H) (fun x y v u m2 H2 sl hx hy hm g => by
      change joinD x y = some sl at hm
      unfold joinD at hm
      split at hm
      · split at hm
        · rename_i ys hys
          split at hm <;> cases hm
          rename_i hz
          cases hx
          cases hy with | lst h1 t1 =>
          rw [strs_map hys] at t1
          refine ⟨_, _, _, rfl, rfl, .inl (?_ : SqL X.K H2 _ (ys.map V.str)), of_decide_eq_true hz, g.at (.str _)⟩
          rw [← t1.strs]
          exact sqL G.hK h1
        · cases hm
      · cases hm)).imp fun x m1 s1 H1 v1 f1 w1 v hv => by
    obtain ⟨hp, w2⟩ := w1 v hv
    cases x <;> first | cases hp | skip
    cases hv
    exact ⟨⟨_, rfl⟩, w2⟩⟩
theorem find_spec {α : Type} {p : α → Bool} : ∀ {xs : List α} {j : Nat}, xs.findIdx? p = some j → ∃ z, xs[j]? = some z ∧ p z = true ∧ ∀ (i : Nat) (y : α), i < j → xs[i]? = some y → p y = false
  | xs, j, h => by
    obtain ⟨h1, h2, h3⟩ := List.findIdx?_eq_some_iff_getElem.mp h
    refine ⟨xs[j], List.getElem?_eq_getElem h1, h2, fun i y hi hy => ?_⟩
    obtain ⟨q, rfl⟩ := List.getElem?_eq_some_iff.mp hy
    have := h3 i hi
    simpa using this
theorem x_index (G : Gd e N sc kk Wx X) {apos : Pos} (ha : PE X a (TO e Wx ra)) (hb : PE X b (TO e Wx rb)) (hs : noStar b = true) (ho : abOk a = true) (hl : (apos.endLine == pos.line) = true) :
    PE X (.Call (.Attribute a "index" apos) [b] [] pos) (TO e Wx (mthR ra rb .index)) := by
  have hu : X.A.units + 65 < cLine := by have := G.hu; omega
  have st : starEach [b] X.env = (false, eval b X.env) :: starEach [] X.env := star_of hs
  refine PE.imp (pe_bm PySem.F.plainAttrs_list PySem.F.slot_list_index PySem.F.type_list_index (mt_indexD hu) (xd ha) (pa_cons (xd hb) pa_nil st) (ab_of ho) (by rw [st]; rfl) hl st rfl) fun σ H Q ⟨m, s, f, w⟩ => ⟨m, s, f, (i_mth w (K := fun v u H => rIndexD X.K v [u] H Q) (fun x y v u m2 H2 sl hx hy hm g => by
      change indexD x y = some sl at hm
      cases x with
      | lst xs =>
        change (match toPyL xs, toPy y with
          | some ps, some p => if SeqAt.shaped (.list ps) && SeqAt.shaped p then (ps.findIdx? fun z => PyData.eqv z p).map fun j => Sl.val (.int (j : Nat)) else none
          | _, _ => none) = some sl at hm
        cases hps : toPyL xs with
        | none => rw [hps] at hm; cases hm
        | some ps =>
          cases hp : toPy y with
          | none => rw [hps, hp] at hm; cases hm
          | some p =>
            simp only [hps, hp] at hm
            split at hm
            · rename_i hz
              obtain ⟨z1, z2⟩ := Bool.and_eq_true_iff.mp hz
              obtain ⟨j, hj, rfl⟩ := Option.map_eq_some_iff.mp hm
              obtain ⟨z, h1, h2, h3⟩ := find_spec hj
              have hd : toPy (.lst xs) = some (.list ps) := by simp only [toPy, hps, Option.map_some]
              have d1 := dp G.hK hx hd
              cases hx with | lst l1 t1 =>
              exact ⟨_, u, p, ps, j, z, rfl, rfl, d1, dp G.hK hy hp, z1, z2, h1, h2, fun i y hi hy => h3 i y hi hy, g.at (.int _)⟩
            · cases hm
      | _ => cases hm)).imp fun x m1 s1 H1 v1 f1 w1 v hv => by
    obtain ⟨hp, w2⟩ := w1 v hv
    cases x <;> first | cases hp | skip
    cases hv with | lst l1 t1 =>
    exact ⟨.inl ⟨rfl, _, sqL G.hK l1⟩, w2⟩⟩
end
end GP

set_option Elab.async false
set_option linter.all false
set_option maxRecDepth 100000
set_option autoImplicit false
set_option maxHeartbeats 4000000

namespace GP
open PySem PySem.Spec PyProof.Rows L2
theorem lt3_iff {p q : T3} : lt3 p q = true ↔ p.1 < q.1 ∨ (p.1 = q.1 ∧ (b01 p.2.1 < b01 q.2.1 ∨ (b01 p.2.1 = b01 q.2.1 ∧ b01 p.2.2 < b01 q.2.2))) := by
  have inj : ∀ a b : Bool, b01 a = b01 b ↔ a = b := by intro a b; cases a <;> cases b <;> decide
  unfold lt3
  by_cases e : p.1 = q.1
  · rw [if_pos e]
    by_cases e2 : p.2.1 = q.2.1
    · rw [if_pos e2, decide_eq_true_eq, ← inj] at *
      omega
    · rw [if_neg e2, decide_eq_true_eq]
      rw [← inj] at e2
      omega
  · rw [if_neg e, decide_eq_true_eq]
    omega
theorem lt3_no {p q : T3} : lt3 p q = false ↔ ¬ (p.1 < q.1 ∨ (p.1 = q.1 ∧ (b01 p.2.1 < b01 q.2.1 ∨ (b01 p.2.1 = b01 q.2.1 ∧ b01 p.2.2 < b01 q.2.2)))) := by
  rw [← lt3_iff]
  cases lt3 p q <;> simp
theorem swo3 {α : Type} (k : α → T3) : SrtO.Swo fun v u => lt3 (k v) (k u) := by
  refine ⟨fun x y h => ?_, fun x y z h1 h2 => ?_⟩
  · have a := lt3_iff.mp h
    refine lt3_no.mpr ?_
    omega
  · have a := lt3_no.mp h1
    have b := lt3_no.mp h2
    refine lt3_no.mpr ?_
    omega
def IsTri (h : Heap) (v : Value) (k : T3) : Prop := ∃ a o t n, v = .ref a ∧ h.get? a = some o ∧ o.cls = .type "tuple" ∧ o.data = .seq #[.int k.1 t, .bool k.2.1, .bool k.2.2] n
theorem IsTri.keeps {h h' : Heap} {v : Value} {x : T3} (p : IsTri h v x) (k : ∀ b o, h.get? b = some o → o.cls = .type "tuple" → h'.get? b = some o) : IsTri h' v x := by
  obtain ⟨a, o, t, n, e, ho, hc, hd⟩ := p
  exact ⟨a, o, t, n, e, k _ _ ho hc, hc, hd⟩
section
variable {prog : Program} {w : World} {A : Around} {E : Value → Shared → Prop} {s : Shared}
theorem tri_cmp {vs : List Value} {k : Value → T3} (hp : ∀ v ∈ vs, IsTri s.heap v (k v)) : SrtO.Cmp prog w A s (tuples' true) (fun p => p.1 ∈ vs) (SrtO.lt2 fun v u => lt3 (k v) (k u)) := by
  intro p q hm hm'
  have h1 := hp _ hm
  have h2 := hp _ hm'
  show wpAny (model prog w) A (keyLt' (tuples' true) p.1 q.1) (fun r s' => s' = s ∧ r = lt3 (k p.1) (k q.1)) (fun _ _ => False) s
  generalize k p.1 = kp at h1 ⊢
  generalize k q.1 = kq at h2 ⊢
  obtain ⟨x, y, z⟩ := kp
  obtain ⟨x', y', z'⟩ := kq
  obtain ⟨a, o, t, n, e, ho, hc, hd⟩ := h1
  obtain ⟨a', o', t', n', e', ho', hc', hd'⟩ := h2
  rw [e, e']
  refine PySem.W.kat_lt ho hd ho' hd' ?_
  show PySem.W.KatLex prog w A true (decide (3 < 3)) _ [(.int x t, .int x' t'), (.bool y, .bool y'), (.bool z, .bool z')] 0 s
  refine PySem.W.kat_cons (SeqAt.EqAt.int_int x t x' t' prog w _ _ ?_)
  refine PySem.W.kat_go (fun e1 => ?_) (fun e1 => ?_)
  · have ex : x = x' := by simpa using e1
    subst ex
    refine PySem.W.kat_yes (PySem.W.kat_cons (SeqAt.EqAt.bool_bool y y' prog w _ _ ?_))
    refine PySem.W.kat_go (fun e2 => ?_) (fun e2 => ?_)
    · have ey : y = y' := by simpa using e2
      subst ey
      refine PySem.W.kat_yes (PySem.W.kat_cons (SeqAt.EqAt.bool_bool z z' prog w _ _ ?_))
      refine PySem.W.kat_go (fun e3 => ?_) (fun e3 => ?_)
      · have ez : z = z' := by simpa using e3
        subst ez
        refine PySem.W.kat_yes (PySem.W.kat_nil ⟨rfl, ?_⟩)
        simp [lt3]
      · refine PySem.W.kat_no (PySem.W.kat_one _ _ (PyProof.Rows.lt_bool ?_))
        refine (show s = s ∧ decide _ = _ from ⟨rfl, ?_⟩)
        simp only [lt3, if_true]
        cases z <;> cases z' <;> rfl
    · have ey : ¬ y = y' := by simpa using e2
      refine PySem.W.kat_no (PySem.W.kat_one _ _ (PyProof.Rows.lt_bool ?_))
      refine (show s = s ∧ decide _ = _ from ⟨rfl, ?_⟩)
      simp only [lt3, if_true, if_neg ey]
      cases y <;> cases y' <;> rfl
  · have ex : ¬ x = x' := by simpa using e1
    refine PySem.W.kat_no (oneLt_int ⟨rfl, ?_⟩)
    simp only [lt3, if_neg ex]
theorem firsts3 {h : Heap} {k : Value → T3} : ∀ {vs : List Value}, (∀ v ∈ vs, IsTri h v (k v)) → ∃ fs : List Value, PySem.W.KatTups h vs fs ∧ fs.length = vs.length ∧ ∀ f ∈ fs, ∃ x t, f = Value.int x t
  | [], _ => ⟨[], PySem.W.KatTups.nil, rfl, fun _ hm => by simp at hm⟩
  | v :: vs, hp => by
    obtain ⟨fs, h1, h2, h3⟩ := firsts3 (vs := vs) fun v' hm => hp v' (List.mem_cons_of_mem _ hm)
    obtain ⟨a, o, t, n, e, ho, hc, hd⟩ := hp v (List.mem_cons_self ..)
    generalize k v = kv at hd
    subst e
    refine ⟨.int kv.1 t :: fs, PySem.W.KatTups.cons ho hc hd rfl h1, by rw [List.length_cons, List.length_cons, h2], fun f hm => ?_⟩
    rcases List.mem_cons.mp hm with rfl | hm
    · exact ⟨kv.1, t, rfl⟩
    · exact h3 f hm
theorem tris_sortable {a : Addr} {vs : List Value} {k : Value → T3} (h0 : 0 < vs.length) (hp : ∀ v ∈ vs, IsTri s.heap v (k v)) (ha : ∀ o, s.heap.get? a = some o → o.cls ≠ .type "tuple") : SrtO.SortableO prog w A s a vs fun v u => lt3 (k v) (k u) := by
  intro h' keep
  have hp' : ∀ v ∈ vs, IsTri h' v (k v) := fun v hm => (hp v hm).keeps fun b o e c => keep b o (fun z => by subst z; exact ha o e c) e
  obtain ⟨fs, h1, h2, h3⟩ := firsts3 hp'
  refine ⟨tuples' true, fun Q E hq => ?_, tri_cmp hp'⟩
  refine PySem.W.kat_kind (T := .type "int") h1 (by omega) (fun f hm => ?_) (by rfl) ?_
  · obtain ⟨x, t, rfl⟩ := h3 f hm
    exact PySem.W.Looks.now
  · have e : (Value.type "int" != Value.type "tuple") = true := by first | decide +kernel | rfl | decide
    rw [e]
    exact hq
theorem sorted_tris {l : Addr} {vs : List Value} {k : Value → T3} {Q : Value → Shared → Prop} (hl : s.heap.IsList l vs.toArray) (hz : vs.length ≤ sizeLine) (hp : ∀ v ∈ vs, IsTri s.heap v (k v))
    (h : ∀ (h' : Heap) (d : Addr) (out : List Value), SrtO.Srtd (fun v u => lt3 (k v) (k u)) out → SrtO.Stb (fun v u => lt3 (k v) (k u)) out vs → (∀ b o, s.heap.get? b = some o → h'.get? b = some o) → s.heap.objs.size ≤ d → (∃ n, h'.get? d = some (PyProof.Rows.seqObj "list" out.toArray n)) → Q (.ref d) { s with heap := h' }) :
    wpAny (model prog w) A (call (.builtin "sorted") [.ref l]) Q E s := by
  refine SrtO.sorted_ord (swo3 k) hl hz (fun h2 h₁ a ha kk => ?_) fun out hs hb => ?_
  · refine tris_sortable (s := { s with heap := h₁ }) (by omega) (fun v hm => (hp v hm).keeps fun b o e _ => (kk b o e).2) fun o e => ?_
    have e' := e.symm.trans ha
    cases e'
    intro c
    exact absurd (Value.type.inj c) (by decide)
  · exact h _ _ out hs hb (fun b o e => sortedAll_old e) (Nat.le_succ _) (sortedAll_at s.heap vs out.toArray)
end
end GP

set_option Elab.async false
set_option linter.all false
set_option maxRecDepth 100000
set_option autoImplicit false
set_option maxHeartbeats 1000000

namespace GP
open PySem PySem.Spec L2

section
variable {e : En} {N : List Str} {sc : Scope} {kk : Nat} {Wx : WX} {X : Cx} {m : List Addr} {H : Hp}
def rBlt (e : En) (b : Blt) : List V → Hp → VK → Prop := fun vs H Q => ∃ m ds sl, DatL e m H vs ds ∧ bltD b ds = some sl ∧ Got e m H sl Q
theorem one_of {vs : List V} {d : D} (h : DatL e m H vs [d]) : ∃ v, vs = [v] ∧ Dat e m H v d := by
  cases h with | cons h t => cases t; exact ⟨_, rfl, h⟩
theorem two_of {vs : List V} {d d' : D} (h : DatL e m H vs [d, d']) : ∃ v u, vs = [v, u] ∧ Dat e m H v d ∧ Dat e m H u d' := by
  cases h with | cons h t => cases t with | cons h' t => cases t; exact ⟨_, _, rfl, h, h'⟩
theorem c_len (G : Gd e N sc kk Wx X) : CallR X (.builtin "len") (rBlt e .len) := by
  rintro pins s σ H vs us Q I r ⟨m, ds, sl, hd, hb, g⟩
  change lenD ds = some sl at hb
  unfold lenD at hb
  split at hb
  · cases hb
    obtain ⟨v, rfl, hv⟩ := one_of hd
    cases hv with | lst l t => exact call_len_seq pins s σ H _ us Q I r ⟨_, _, rfl, .inl (sqL G.hK l), by rw [t.length]; exact g.at (.int _)⟩
  · cases hb
    obtain ⟨v, rfl, hv⟩ := one_of hd
    cases hv with | tup l t => exact call_len_seq pins s σ H _ us Q I r ⟨_, _, rfl, .inr (sqT G.hK l), by rw [t.length]; exact g.at (.int _)⟩
  · split at hb <;> cases hb
    rename_i hz
    obtain ⟨v, rfl, hv⟩ := one_of hd
    cases hv
    exact call_len_str pins s σ H _ us Q I r ⟨_, rfl, sizeB_le hz, g.at (.int _)⟩
  · cases hb
theorem c_min2 (G : Gd e N sc kk Wx X) : CallR X (.builtin "min") (rBlt e .min2) := by
  rintro pins s σ H vs us Q I r ⟨m, ds, sl, hd, hb, g⟩
  change min2D ds = some sl at hb
  unfold min2D at hb
  split at hb <;> cases hb
  obtain ⟨v, u, rfl, hv, hu⟩ := two_of hd
  cases hv; cases hu
  exact call_min2 G.calm pins s σ H _ us Q I r ⟨_, _, rfl, g.at (.int _)⟩
theorem c_max2 (G : Gd e N sc kk Wx X) : CallR X (.builtin "max") (rBlt e .max2) := by
  rintro pins s σ H vs us Q I r ⟨m, ds, sl, hd, hb, g⟩
  change max2D ds = some sl at hb
  unfold max2D at hb
  split at hb <;> cases hb
  obtain ⟨v, u, rfl, hv, hu⟩ := two_of hd
  cases hv; cases hu
  exact call_max2 G.calm pins s σ H _ us Q I r ⟨_, _, rfl, g.at (.int _)⟩
theorem minL_uniq {ns : List Int} {k m : Int} (h : minL ns = some k) (hm : m ∈ ns) (hl : ∀ y ∈ ns, m ≤ y) : m = k := by
  cases ns with
  | nil => cases h
  | cons x xs =>
    cases h
    have key : ∀ (xs : List Int) (x : Int), (xs.foldl (fun a b => if b < a then b else a) x) ∈ x :: xs ∧ ∀ y ∈ x :: xs, xs.foldl (fun a b => if b < a then b else a) x ≤ y := by
      intro xs
      induction xs with
      | nil => intro x; exact ⟨List.mem_cons_self, fun y hy => by simp at hy; subst hy; exact Int.le_refl _⟩
      | cons z zs ih =>
        intro x
        rw [List.foldl_cons]
        obtain ⟨h1, h2⟩ := ih (if z < x then z else x)
        refine ⟨?_, fun y hy => ?_⟩
        · rcases List.mem_cons.mp h1 with h1 | h1
          · rw [h1]; split <;> simp
          · simp [h1]
        · have h0 := h2 _ List.mem_cons_self
          rcases List.mem_cons.mp hy with rfl | hy
          · refine Int.le_trans h0 ?_; split <;> omega
          · rcases List.mem_cons.mp hy with rfl | hy
            · refine Int.le_trans h0 ?_; split <;> omega
            · exact h2 y (List.mem_cons_of_mem _ hy)
    obtain ⟨h1, h2⟩ := key xs x
    exact Int.le_antisymm (hl _ h1) (h2 _ hm)
theorem maxL_uniq {ns : List Int} {k m : Int} (h : maxL ns = some k) (hm : m ∈ ns) (hl : ∀ y ∈ ns, y ≤ m) : m = k := by
  cases ns with
  | nil => cases h
  | cons x xs =>
    cases h
    have key : ∀ (xs : List Int) (x : Int), (xs.foldl (fun a b => if b > a then b else a) x) ∈ x :: xs ∧ ∀ y ∈ x :: xs, y ≤ xs.foldl (fun a b => if b > a then b else a) x := by
      intro xs
      induction xs with
      | nil => intro x; exact ⟨List.mem_cons_self, fun y hy => by simp at hy; subst hy; exact Int.le_refl _⟩
      | cons z zs ih =>
        intro x
        rw [List.foldl_cons]
        obtain ⟨h1, h2⟩ := ih (if z > x then z else x)
        refine ⟨?_, fun y hy => ?_⟩
        · rcases List.mem_cons.mp h1 with h1 | h1
          · rw [h1]; split <;> simp
          · simp [h1]
        · have h0 := h2 _ List.mem_cons_self
          rcases List.mem_cons.mp hy with rfl | hy
          · refine Int.le_trans ?_ h0; split <;> omega
          · rcases List.mem_cons.mp hy with rfl | hy
            · refine Int.le_trans ?_ h0; split <;> omega
            · exact h2 y (List.mem_cons_of_mem _ hy)
    obtain ⟨h1, h2⟩ := key xs x
    exact Int.le_antisymm (h2 _ hm) (hl _ h1)
theorem intsL {xs : List D} {ns : List Int} {vs : List V} (h : intsO xs = some ns) (t : DatL e m H vs xs) : vs = ns.map V.int := by
  rw [ints_map h] at t
  exact t.ints
theorem minL_pos {ns : List Int} {k : Int} (h : minL ns = some k) : 0 < ns.length := by cases ns with | nil => cases h | cons => simp
theorem maxL_pos {ns : List Int} {k : Int} (h : maxL ns = some k) : 0 < ns.length := by cases ns with | nil => cases h | cons => simp
theorem minOf_eq {n : Int} {ns : List Int} : minL (n :: ns) = some (PySem.W.minOf n ns) := by
  have e : (fun a b : Int => if b < a then b else a) = fun a y => if PySem.W.DatumOrd.lt y a = true then y else a := by
    funext a b
    show (if b < a then b else a) = if decide (b < a) = true then b else a
    simp
  show some (ns.foldl (fun a b => if b < a then b else a) n) = _
  rw [e]; rfl
theorem maxOf_eq {n : Int} {ns : List Int} : maxL (n :: ns) = some (PySem.W.maxOf n ns) := by
  have e : (fun a b : Int => if b > a then b else a) = fun a y => if PySem.W.DatumOrd.lt a y = true then y else a := by
    funext a b
    show (if b > a then b else a) = if decide (a < b) = true then b else a
    simp
  show some (ns.foldl (fun a b => if b > a then b else a) n) = _
  rw [e]; rfl
theorem c_min1 (G : Gd e N sc kk Wx X) : CallR X (.builtin "min") (rBlt e .min1) := by
  rintro pins s σ H vs us Q I r ⟨m, ds, sl, hd, hb, g⟩
  change min1D ds = some sl at hb
  unfold min1D at hb
  split at hb
  · split at hb
    · rename_i ns hns
      obtain ⟨k, hk, rfl⟩ := Option.map_eq_some_iff.mp hb
      obtain ⟨v, rfl, hv⟩ := one_of hd
      cases hv with | tup l t =>
      rw [intsL hns t] at l
      obtain ⟨its, rv, ht, _⟩ := I.tuple (sqT G.hK l)
      rw [Vals.ref1 r]
      cases ns with
      | nil => cases hk
      | cons n ns =>
        have hh := PySem.W.HoldAll.of_ints (h := s.heap) rv.ints
        refine PySem.W.min_tuple_datum (I.ok.hd G.calm) ht hh (by have := G.hu; show X.A.units + 1 + 0 < _; omega) fun i v h' tk hi hv hk' => ?_
        have e1 : minL (n :: ns) = some (PySem.W.minOf n ns) := minOf_eq
        rw [e1] at hk; cases hk
        obtain ⟨as, rd⟩ := hv
        cases rd
        exact ⟨.int _, H, I.kept hk', ⟨_, rfl⟩, g.at (.int _)⟩
    · cases hb
  · split at hb
    · rename_i ns hns
      obtain ⟨k, hk, rfl⟩ := Option.map_eq_some_iff.mp hb
      obtain ⟨v, rfl, hv⟩ := one_of hd
      cases hv with | lst l t =>
      rw [intsL hns t] at l
      exact cr_min G.calm pins s σ H _ us Q I r ⟨_, ns, rfl, (sqL G.hK l), minL_pos hk, fun m hm hl => by rw [minL_uniq hk hm hl]; exact g.at (.int _)⟩
    · cases hb
  · cases hb
theorem c_max1 (G : Gd e N sc kk Wx X) : CallR X (.builtin "max") (rBlt e .max1) := by
  rintro pins s σ H vs us Q I r ⟨m, ds, sl, hd, hb, g⟩
  change max1D ds = some sl at hb
  unfold max1D at hb
  split at hb
  · split at hb
    · rename_i ns hns
      obtain ⟨k, hk, rfl⟩ := Option.map_eq_some_iff.mp hb
      obtain ⟨v, rfl, hv⟩ := one_of hd
      cases hv with | tup l t =>
      rw [intsL hns t] at l
      obtain ⟨its, rv, ht, _⟩ := I.tuple (sqT G.hK l)
      rw [Vals.ref1 r]
      cases ns with
      | nil => cases hk
      | cons n ns =>
        have hh := PySem.W.HoldAll.of_ints (h := s.heap) rv.ints
        refine PySem.W.max_tuple_datum (I.ok.hd G.calm) ht hh (by have := G.hu; show X.A.units + 1 + 0 < _; omega) fun i v h' tk hi hv hk' => ?_
        have e1 : maxL (n :: ns) = some (PySem.W.maxOf n ns) := maxOf_eq
        rw [e1] at hk; cases hk
        obtain ⟨as, rd⟩ := hv
        cases rd
        exact ⟨.int _, H, I.kept hk', ⟨_, rfl⟩, g.at (.int _)⟩
    · cases hb
  · split at hb
    · rename_i ns hns
      obtain ⟨k, hk, rfl⟩ := Option.map_eq_some_iff.mp hb
      obtain ⟨v, rfl, hv⟩ := one_of hd
      cases hv with | lst l t =>
      rw [intsL hns t] at l
      exact cr_max G.calm pins s σ H _ us Q I r ⟨_, ns, rfl, (sqL G.hK l), maxL_pos hk, fun m hm hl => by rw [maxL_uniq hk hm hl]; exact g.at (.int _)⟩
    · cases hb
  · cases hb
section
open PyProof.Rows PyProof.V PySem.W
theorem sum_tup {prog : Program} {w : World} {A : Around} {E : Value → Shared → Prop} {s : Shared} {l : Addr} {its : List Value} {ns : List Int} {Q : Value → Shared → Prop} (hh : A.handled = none) (hl : s.heap.IsTuple l its.toArray) (hi : IntsAre its ns)
    (h : ∀ h' tk t', (∀ b o, s.heap.get? b = some o → h'.get? b = some o) → Q (.int ns.sum t') { s with heap := h', toks := tk }) : wpAny (model prog w) A (call (.builtin "sum") [.ref l]) Q E s := by
  obtain ⟨xs, e⟩ := hi.allInts.items
  have hn : numsOf (intItems xs).toList = ns := by rw [← e]; exact hi.numsOf
  rw [nums_intItems] at hn
  rw [e] at hl
  refine ktm_sumG hh hl fun h' tk t' hk => ?_
  have := h h' tk t' hk
  rw [preSum_eq, List.take_of_length_le (by simp), hn]; exact this
end
theorem c_sum (G : Gd e N sc kk Wx X) : CallR X (.builtin "sum") (rBlt e .sum) := by
  rintro pins s σ H vs us Q I r ⟨m, ds, sl, hd, hb, g⟩
  change sumD ds = some sl at hb
  unfold sumD at hb
  split at hb
  · obtain ⟨ns, hns, rfl⟩ := Option.map_eq_some_iff.mp hb
    obtain ⟨v, rfl, hv⟩ := one_of hd
    cases hv with | lst l t =>
    rw [intsL hns t] at l
    exact cr_sum G.calm pins s σ H _ us Q I r ⟨_, ns, rfl, (sqL G.hK l), g.at (.int _)⟩
  · obtain ⟨ns, hns, rfl⟩ := Option.map_eq_some_iff.mp hb
    obtain ⟨v, rfl, hv⟩ := one_of hd
    cases hv with | tup l t =>
    rw [intsL hns t] at l
    obtain ⟨its, rv, ht, _⟩ := I.tuple (sqT G.hK l)
    rw [Vals.ref1 r]
    exact sum_tup (I.ok.hd G.calm) ht rv.ints fun h' tk t' hk => ⟨.int _, H, I.kept hk, ⟨_, rfl⟩, g.at (.int _)⟩
  · cases hb
theorem c_all (G : Gd e N sc kk Wx X) : CallR X (.builtin "all") (rBlt e .all) := by
  rintro pins s σ H vs us Q I r ⟨m, ds, sl, hd, hb, g⟩
  change allD ds = some sl at hb
  unfold allD at hb
  split at hb
  · obtain ⟨ns, hns, rfl⟩ := Option.map_eq_some_iff.mp hb
    obtain ⟨v, rfl, hv⟩ := one_of hd
    cases hv with | lst l t =>
    rw [bls_map hns] at t
    rw [t.bls] at l
    exact cr_all G.calm pins s σ H _ us Q I r ⟨_, ns, rfl, (sqL G.hK l), g.at (.bl _)⟩
  · cases hb
theorem c_list (G : Gd e N sc kk Wx X) : CallR X (.type "list") (rBlt e .list) := by
  rintro pins s σ H vs us Q I r ⟨m, ds, sl, hd, hb, g⟩
  change listD ds = some sl at hb
  unfold listD at hb
  split at hb <;> cases hb
  · obtain ⟨v, rfl, hv⟩ := one_of hd
    cases hv with | lst l t => exact call_list_of pins s σ H _ us Q I r ⟨_, _, rfl, .inl (sqL G.hK l), fun p hp => g p _ hp t⟩
  · obtain ⟨v, rfl, hv⟩ := one_of hd
    cases hv with | tup l t => exact call_list_of pins s σ H _ us Q I r ⟨_, _, rfl, .inr (sqT G.hK l), fun p hp => g p _ hp t⟩
theorem c_tuple (G : Gd e N sc kk Wx X) : CallR X (.type "tuple") (rBlt e .tuple) := by
  rintro pins s σ H vs us Q I r ⟨m, ds, sl, hd, hb, g⟩
  change tupleD ds = some sl at hb
  unfold tupleD at hb
  split at hb <;> cases hb
  · obtain ⟨v, rfl, hv⟩ := one_of hd
    cases hv with | lst l t => exact call_tuple_of pins s σ H _ us Q I r ⟨_, _, rfl, .inl ⟨(sqL G.hK l), fun p hp => g.tup t p hp⟩⟩
  · obtain ⟨v, rfl, hv⟩ := one_of hd
    cases hv with | tup l t => exact call_tuple_of pins s σ H _ us Q I r ⟨_, _, rfl, .inr ⟨sqT G.hK l, g.at (.tup l t)⟩⟩
theorem c_int (G : Gd e N sc kk Wx X) : CallR X (.type "int") (rBlt e .int) := by
  rintro pins s σ H vs us Q I r ⟨m, ds, sl, hd, hb, g⟩
  change intD ds = some sl at hb
  unfold intD at hb
  split at hb
  · cases hb
    obtain ⟨v, rfl, hv⟩ := one_of hd
    cases hv
    exact call_int1 pins s σ H _ us Q I r (.inl ⟨_, rfl, g.at (.int _)⟩)
  · cases hb
    obtain ⟨v, rfl, hv⟩ := one_of hd
    cases hv
    exact call_int1 pins s σ H _ us Q I r (.inr ⟨_, rfl, g.at (.int _)⟩)
  · split at hb
    · rename_i hz
      obtain ⟨n, hn, rfl⟩ := Option.map_eq_some_iff.mp hb
      obtain ⟨v, rfl, hv⟩ := one_of hd
      cases hv
      exact call_int_str pins s σ H _ us Q I r ⟨_, n, rfl, hn, of_decide_eq_true hz, g.at (.int _)⟩
    · cases hb
  · cases hb
theorem c_str : CallR X (.type "str") (rBlt e .str) := by
  rintro pins s σ H vs us Q I r ⟨m, ds, sl, hd, hb, g⟩
  change strD ds = some sl at hb
  unfold strD at hb
  split at hb
  · split at hb <;> cases hb
    rename_i hz
    obtain ⟨v, rfl, hv⟩ := one_of hd
    cases hv
    exact call_str_int pins s σ H _ us Q I r ⟨_, rfl, of_decide_eq_true hz, g.at (.str _)⟩
  · cases hb
theorem c_repr (G : Gd e N sc kk Wx X) : CallR X (.builtin "repr") (rBlt e .repr) := by
  rintro pins s σ H vs us Q I r ⟨m, ds, sl, hd, hb, g⟩
  change reprD ds = some sl at hb
  unfold reprD at hb
  split at hb
  · split at hb
    · rename_i d p hp
      split at hb <;> cases hb
      rename_i hz
      unfold reprOk at hz
      simp only [Bool.and_eq_true] at hz
      obtain ⟨⟨⟨z1, z2⟩, z3⟩, z4⟩ := hz
      have z2 : p.hasDict = false := by simpa using z2
      have z4 := of_decide_eq_true z4
      have z3 := sizeB_le z3
      obtain ⟨v, rfl, hv⟩ := one_of hd
      obtain ⟨u, rfl, ru⟩ := vals1 r
      have hu := G.hu
      have dv := dp G.hK hv hp
      have fin : ∀ (x : Str), Q (.str x) H → ∀ t, EP X pins σ Q (.str x t) { s with toks := s.toks + 1 } := fun x q t => ⟨.str x, H, I.tok _, ⟨_, rfl⟩, q⟩
      have gq : Q (.str p.shown) H := g.at (.str _)
      obtain ⟨as, rd⟩ := Dp.reads I p v u dv ru
      cases hv with
      | non => simp only [toPy, Option.some.injEq] at hp; subst hp; cases ru; exact PySem.P.repr_of_none (fin _ gq _)
      | bl b => simp only [toPy, Option.some.injEq] at hp; subst hp; cases ru; exact PySem.P.repr_of_bool (fin _ gq _)
      | int i => simp only [toPy, Option.some.injEq] at hp; subst hp; obtain ⟨t, rfl⟩ := ru; exact PySem.P.repr_of_int (of_decide_eq_true z1) (fin _ gq _)
      | str z => simp only [toPy, Option.some.injEq] at hp; subst hp; obtain ⟨t, rfl⟩ := ru; exact PySem.P.repr_of_str (fin _ gq _) z3
      | tup l t => cases ru; exact repr_of_reads' rd z1 (PyData.noDict_hsm z2) G.gds (by omega) (fun b o h => h) (fun h' u tk hk => ⟨.str p.shown, H, I.kept (t' := tk) hk, ⟨_, rfl⟩, gq⟩) z3
      | lst l t => cases ru; exact repr_of_reads' rd z1 (PyData.noDict_hsm z2) G.gds (by omega) (fun b o h => h) (fun h' u tk hk => ⟨.str p.shown, H, I.kept (t' := tk) hk, ⟨_, rfl⟩, gq⟩) z3
      | dic _ _ _ => simp [toPy] at hp
      | obj _ => simp [toPy] at hp
    · cases hb
  · cases hb

def prKey (H : Hp) (v : V) : Int × Int := match v with
  | .ref t => match H t with
    | some (.tup [.int i, .int j]) => (i, j)
    | _ => (0, 0)
  | _ => (0, 0)
theorem pairs_map {xs : List D} {ps : List (Int × Int)} (h : allSome pairOf xs = some ps) : xs = ps.map unpair :=
  allSome_map (f := pairOf) (g := unpair) (fun a b h => by
    unfold pairOf at h
    split at h <;> cases h
    rfl) h
theorem prKey_of {v : V} {p : Int × Int} (h : Dat e m H v (unpair p)) : prKey H v = p ∧ ∃ t, v = .ref t ∧ H t = some (.tup [.int p.1, .int p.2]) := by
  cases h with | tup l t =>
  cases t with | cons h1 t =>
  cases t with | cons h2 t =>
  cases t; cases h1; cases h2
  rcases l with l | ⟨⟨z, zs, hz⟩, _⟩
  · refine ⟨?_, _, rfl, l⟩
    unfold prKey
    simp only [l]
  · cases hz
theorem prKeys {ps : List (Int × Int)} {vs : List V} (t : DatL e m H vs (ps.map unpair)) : vs.map (prKey H) = ps ∧ ∀ x ∈ vs, ∃ t, x = V.ref t ∧ H t = some (.tup [.int (prKey H x).1, .int (prKey H x).2]) := by
  induction ps generalizing vs with
  | nil => cases t; exact ⟨rfl, fun x h => nomatch h⟩
  | cons p ps ih =>
    cases t with | cons h t =>
    obtain ⟨i1, i2⟩ := ih t
    obtain ⟨k1, k2⟩ := prKey_of h
    refine ⟨by rw [List.map_cons, i1, k1], fun x hx => ?_⟩
    rcases List.mem_cons.mp hx with rfl | hx
    · rw [k1]; exact k2
    · exact i2 x hx
theorem ofPrKeys {vs : List V} (h : ∀ x ∈ vs, ∃ t, x = V.ref t ∧ H t = some (.tup [.int (prKey H x).1, .int (prKey H x).2])) : DatL e m H vs ((vs.map (prKey H)).map unpair) := by
  induction vs with
  | nil => exact .nil
  | cons v vs ih =>
    refine .cons ?_ (ih fun x hx => h x (List.mem_cons_of_mem _ hx))
    obtain ⟨t, hv, ht⟩ := h v List.mem_cons_self
    generalize prKey H v = k at ht
    subst hv
    exact .tup (.inl ht) (.cons (.int _) (.cons (.int _) .nil))

def triKey (H : Hp) (v : V) : T3 := match v with
  | .ref t => match H t with
    | some (.tup [.int i, .bl a, .bl b]) => (i, a, b)
    | _ => (0, false, false)
  | _ => (0, false, false)
def IsTr (H : Hp) (k : T3) (v : V) : Prop := ∃ t, v = .ref t ∧ H t = some (.tup [.int k.1, .bl k.2.1, .bl k.2.2])
theorem tris_map {xs : List D} {ps : List T3} (h : allSome triOf xs = some ps) : xs = ps.map untri :=
  allSome_map (f := triOf) (g := untri) (fun a b h => by
    unfold triOf at h
    split at h <;> cases h
    rfl) h
theorem triKey_of {v : V} {p : T3} (h : Dat e m H v (untri p)) : triKey H v = p ∧ IsTr H p v := by
  cases h with | tup l t =>
  cases t with | cons h1 t =>
  cases t with | cons h2 t =>
  cases t with | cons h3 t =>
  cases t; cases h1; cases h2; cases h3
  rcases l with l | ⟨⟨z, zs, hz⟩, _⟩
  · refine ⟨?_, _, rfl, l⟩
    unfold triKey
    simp only [l]
  · cases hz
theorem triKeys {ps : List T3} {vs : List V} (t : DatL e m H vs (ps.map untri)) : vs.map (triKey H) = ps ∧ ∀ x ∈ vs, IsTr H (triKey H x) x := by
  induction ps generalizing vs with
  | nil => cases t; exact ⟨rfl, fun x h => nomatch h⟩
  | cons p ps ih =>
    cases t with | cons h t =>
    obtain ⟨i1, i2⟩ := ih t
    obtain ⟨k1, k2⟩ := triKey_of h
    refine ⟨by rw [List.map_cons, i1, k1], fun x hx => ?_⟩
    rcases List.mem_cons.mp hx with rfl | hx
    · rw [k1]; exact k2
    · exact i2 x hx
theorem ofTriKeys {vs : List V} (h : ∀ x ∈ vs, IsTr H (triKey H x) x) : DatL e m H vs ((vs.map (triKey H)).map untri) := by
  induction vs with
  | nil => exact .nil
  | cons v vs ih =>
    refine .cons ?_ (ih fun x hx => h x (List.mem_cons_of_mem _ hx))
    obtain ⟨t, hv, ht⟩ := h v List.mem_cons_self
    generalize triKey H v = k at ht
    subst hv
    exact .tup (.inl ht) (.cons (.int _) (.cons (.bl _) (.cons (.bl _) .nil)))
abbrev ltT (k : V → T3) (x y : V) : Bool := lt3 (k x) (k y)
def rSortedTri (K : PySem.W.Frag) : List V → Hp → VK → Prop := fun vs H Q => ∃ (a : Addr) (xs : List V) (k : V → T3), vs = [V.ref a] ∧ SqL K H a xs ∧ (∀ x ∈ xs, IsTr H (k x) x) ∧
  ∀ ys p, SrtO.Srtd (ltT k) ys → SrtO.Stb (ltT k) ys xs → H p = none → Q (.ref p) (upd H p (.lst ys))
theorem cr_sortedTri : CallR X (.builtin "sorted") (rSortedTri X.K) := by
  intro pins s σ H vs us Q I r h
  obtain ⟨a, xs, k, rfl, hs, hx, q⟩ := h
  obtain ⟨its, rv, hl, hz⟩ := I.list hs
  obtain ⟨u, rfl, ru⟩ := vals1 r
  obtain rfl : u = Value.ref a := ru
  obtain ⟨e1, e2⟩ := refs_back rv fun x m => by
    obtain ⟨t, e, _⟩ := hx x m
    exact ⟨t, e⟩
  refine sorted_tris (k := fun u => k (backV u)) hl.isList (by rw [← rv.length]; exact hz) (fun v hv => ?_) fun h' d out h1 h2 kp hd hn => ?_
  · obtain ⟨t, rfl⟩ := e2 v hv
    have hm : V.ref t ∈ xs := by rw [e1]; exact List.mem_map.mpr ⟨_, hv, rfl⟩
    obtain ⟨t', e, ht⟩ := hx _ hm
    cases e
    obtain ⟨_, its2, r2, o, ho, hc, n, hd⟩ := I.hok _ _ ht
    cases r2 with | cons ri r2 =>
    cases r2 with | cons rb r2 =>
    cases r2 with | cons rc r2 =>
    cases r2
    obtain ⟨t1, rfl⟩ := ri
    cases rb
    cases rc
    exact ⟨t, o, t1, n, rfl, ho, hc, hd⟩
  · have h3 : ∀ u ∈ out, ∃ a, u = Value.ref a := fun u hu => e2 u (h2.perm.mem_iff.mp hu)
    obtain ⟨n, hn⟩ := hn
    have hb : SrtO.Stb (ltT k) (out.map backV) xs := by
      rw [e1]
      exact SrtO.Stb.map (swo3 k) backV h2
    refine ⟨.ref d, upd H d (.lst (out.map backV)), I.laid (t' := s.toks) kp hd ⟨?_, out, n, vals_back h3, hn⟩, rfl, q _ d (SrtO.srtd_map h1) hb (I.hok.fresh hd)⟩
    rw [hb.len]
    exact hz
theorem c_sorted (G : Gd e N sc kk Wx X) : CallR X (.builtin "sorted") (rBlt e .sorted) := by
  rintro pins s σ H vs us Q I r ⟨m, ds, sl, hd, hb, g⟩
  change sortedD ds = some sl at hb
  unfold sortedD at hb
  split at hb
  · rename_i xs
    obtain ⟨ys, hy, rfl⟩ := Option.map_eq_some_iff.mp hb
    obtain ⟨v, rfl, hv⟩ := one_of hd
    cases hv with | lst l t =>
    unfold sortD at hy
    split at hy
    · rename_i ns hns
      cases hy
      rw [intsL hns t] at l
      refine cr_sortedI pins s σ H _ us Q I r ⟨_, ns, rfl, (sqL G.hK l), fun ns' p h1 h2 hp => ?_⟩
      rw [sortInt_uniq h1 h2]
      exact g p _ hp (DatL.ofInts _)
    · split at hy
      · rename_i ps hps
        cases hy
        rw [pairs_map hps] at t
        obtain ⟨k1, k2⟩ := prKeys t
        refine cr_sortedPO pins s σ H _ us Q I r ⟨_, _, prKey H, rfl, (sqL G.hK l), k2, fun zs p h1 h2 hp => ?_⟩
        have e1 := sortBy_uniq (ltP_swo (prKey H)) h1 h2
        have e2 : zs.map (prKey H) = sortBy (fun a b => !ltPr b a) ps := by
          rw [e1, sortBy_map (le := fun a b => !ltP (prKey H) b a) (le' := fun a b => !ltPr b a) (f := prKey H) (fun a b => rfl), k1]
        have hz : ∀ x ∈ zs, ∃ t, x = V.ref t ∧ H t = some (.tup [.int (prKey H x).1, .int (prKey H x).2]) := fun x hx => k2 x (h2.perm.mem_iff.mp hx)
        have := ofPrKeys (e := e) (m := m) hz
        rw [e2] at this
        exact g p _ hp this
      · split at hy
        · rename_i ps hps
          cases hy
          rw [tris_map hps] at t
          obtain ⟨k1, k2⟩ := triKeys t
          refine cr_sortedTri pins s σ H _ us Q I r ⟨_, _, triKey H, rfl, (sqL G.hK l), k2, fun zs p h1 h2 hp => ?_⟩
          have e1 := sortBy_uniq (swo3 (triKey H)) h1 h2
          have e2 : zs.map (triKey H) = sortBy (fun a b => !lt3 b a) ps := by
            rw [e1, sortBy_map (le := fun a b => !ltT (triKey H) b a) (le' := fun a b => !lt3 b a) (f := triKey H) (fun a b => rfl), k1]
          have hz : ∀ x ∈ zs, IsTr H (triKey H x) x := fun x hx => k2 x (h2.perm.mem_iff.mp hx)
          have := ofTriKeys (e := e) (m := m) hz
          rw [e2] at this
          exact g p _ hp this
        · cases hy
  · cases hb
end
end GP

set_option Elab.async false
set_option linter.all false
set_option maxRecDepth 100000
set_option autoImplicit false
set_option maxHeartbeats 1000000

namespace GP
open PySem PySem.Spec L2


def SqB (K : PySem.W.Frag) (H : Hp) (b : Bool) (a : Addr) (xs : List V) : Prop := if b then SqT K H a xs else SqL K H a xs
def ItB (h : Heap) (b : Bool) (it a : Addr) (i : Nat) : Prop := if b then h.IsTupleIter it a i else h.IsListIter it a i
def ObB (h : Heap) (b : Bool) (a : Addr) (us : Array Value) : Prop := if b then h.IsTuple a us else h.IsList a us
section
variable {X : Cx} {pins : List (Addr × Obj)} {σ : L2.St} {H : Hp} {s : Shared} {a it : Addr} {xs ys : List V} {us : Array Value} {h h' : Heap}
theorem srcB {b : Bool} (I : Inv X pins σ H s) (q : SqB X.K H b a xs) : ∃ us : List Value, Vals xs us ∧ ObB s.heap b a us.toArray := by
  cases b with
  | true => obtain ⟨us, r, p, _⟩ := I.tuple q; exact ⟨us, r, p⟩
  | false => obtain ⟨us, r, p, _⟩ := I.list q; exact ⟨us, r, p.isList⟩
theorem injB {b : Bool} (I : Inv X pins σ H s) (q : SqB X.K H b a xs) (q' : SqB X.K H b a ys) : xs = ys := by
  cases b with
  | true => exact I.tuple_inj q q'
  | false => exact I.list_inj q q'
theorem drawB {prog : Program} {w : World} {A : Around} (b : Bool) (hh : A.handled = none) (it a : Addr) (hne : a ≠ it) (us : Array Value) :
    Draws prog w A it [it, a] us.size (fun i v => us[i]? = some v) (fun i h => ItB h b it a i ∧ ObB h b a us) := by
  cases b with
  | true => exact Draws.tuple hh it a hne us
  | false => exact Draws.list hh it a hne us
def itObj (b : Bool) (a : Addr) : Obj := { cls := .type (if b then "tuple_iterator" else "list_iterator"), data := .fields #[.ref a, .int 0 0] }
theorem beginB (b : Bool) (a : Addr) (us : Array Value) : Begins (.ref a) (itObj b a) (fun h => ObB h b a us) := by
  cases b with
  | true => exact begins_tuple a us
  | false => exact begins_list a us
theorem itB_ob {b : Bool} {i : Nat} (x : ItB h b it a i) : ∃ o, h.get? it = some o ∧ ∀ v, o.data ≠ .cell v := by
  cases b with
  | true => obtain ⟨o, e, _, d⟩ := (show h.IsTupleIter it a i from x); exact ⟨o, e, fun v q => by rw [d] at q; cases q⟩
  | false => obtain ⟨o, e, _, d⟩ := (show h.IsListIter it a i from x); exact ⟨o, e, fun v q => by rw [d] at q; cases q⟩
theorem itB_at {b : Bool} {i : Nat} (x : ItB h b it a i) (k : ∀ o, h.get? it = some o → h'.get? it = some o) : ItB h' b it a i := by
  cases b with
  | true => exact (show h.IsTupleIter it a i from x).at k
  | false => exact (show h.IsListIter it a i from x).at k
theorem itB_new {b : Bool} (x : h.get? it = some (itObj b a)) : ItB h b it a 0 := by
  cases b with
  | true => exact ⟨_, x, rfl, rfl⟩
  | false => exact ⟨_, x, rfl, rfl⟩
theorem obB_ne {b : Bool} (x : ObB h b a us) {c : Addr} {o : Obj} (e : h.get? c = some o) {vs : Array Value} (d : o.data = .fields vs) : a ≠ c := by
  rintro rfl
  cases b with
  | true => obtain ⟨o', e', _, n, d'⟩ := (show h.IsTuple a us from x); rw [e] at e'; cases e'; rw [d] at d'; cases d'
  | false => obtain ⟨o', e', _, n, d'⟩ := (show h.IsList a us from x); rw [e] at e'; cases e'; rw [d] at d'; cases d'
theorem itB_fields {b : Bool} {i : Nat} (x : ItB h b it a i) : ∃ o vs, h.get? it = some o ∧ o.data = .fields vs := by
  cases b with
  | true => obtain ⟨o, e, _, d⟩ := (show h.IsTupleIter it a i from x); exact ⟨o, _, e, d⟩
  | false => obtain ⟨o, e, _, d⟩ := (show h.IsListIter it a i from x); exact ⟨o, _, e, d⟩
end


def JEn (K : PySem.W.Frag) (b : Bool) (a : Addr) : It :=
  ⟨fun i H => ∃ (xs : List V) (x : V), SqB K H b a xs ∧ xs[i]? = some x, fun i H v H' => ∃ T x, v = .ref T ∧ H T = none ∧ H' = upd H T (.tup [.int (i : Nat), x]) ∧ ∀ xs, SqB K H b a xs → xs[i]? = some x,
    fun i H => ∃ xs : List V, SqB K H b a xs ∧ xs.length = i⟩
theorem turn_en {P : Program} {w : World} {K : PySem.W.Frag} {elts : List Expr} {kk : Nat} {tpos : Pos} (b : Bool) (a e it : Addr) :
    Turn P w K (.Tuple elts kk tpos) (JEn K b a) [e, it] e (fun i h => (∃ old, IsEnum h e it ((i : Nat) : Int) old) ∧ ItB h b it a i ∧ e ≠ it) where
  mem := by simp
  obj := fun i h st c hc => by
    obtain ⟨⟨old, he⟩, hi, _⟩ := st
    rcases (show c = e ∨ c = it by simpa using hc) with z | z
    · subst z; exact ⟨_, he, fun v q => nomatch q⟩
    · subst z; exact itB_ob hi
  keep := fun i h h' st k => let ⟨⟨old, he⟩, hi, hne⟩ := st; ⟨⟨old, k e (by simp) _ he⟩, itB_at hi fun o q => k it (by simp) o q, hne⟩
  item := by
    intro X hP hw hK hc i pins s σ H E I hf st hg
    subst hP hw hK
    obtain ⟨⟨old, he⟩, hit, hne⟩ := st
    obtain ⟨xs, x, hq, hx⟩ := hg
    obtain ⟨us, rv, ob⟩ := srcB I hq
    obtain ⟨u, hu, ru⟩ := rv.get hx
    have hel : e < s.heap.objs.size := Heap.lt_size he
    obtain ⟨oi, vi, ei, di⟩ := itB_fields hit
    have hil : it < s.heap.objs.size := Heap.lt_size ei
    have hai : a ≠ it := obB_ne ob ei di
    have hae : a ≠ e := obB_ne ob he rfl
    have hli : i < us.toArray.size := by
      have := (List.getElem?_eq_some_iff.mp hu).1
      simpa using this
    refine wpAny_pyNext_enum_itemC (drawB (A := X.A.in1) b (show X.A.in1.handled = none from I.ok.hd hc) it a hai us.toArray) he ⟨hit, ob⟩ hli hne (by simp [hne, Ne.symm hae]) fun u2 h' tk hu2 ho st' hT hsz hk => ?_
    have hu3 : u2 = u := by
      have : us[i]? = some u2 := by simpa using hu2
      rw [hu] at this; cases this; rfl
    subst hu3
    refine ⟨_, rfl, wpAny_letOwnedTupleGo_enum (s := { s with heap := h', toks := tk + 1 }) ho fun h'' he' sb => ?_⟩
    have hT2 : h''.get? s.heap.objs.size = some { cls := .type "tuple", data := .seq #[.int i tk, u2] } := (sb.2 _ (Nat.ne_of_gt hel)).trans hT
    have new : ObjOk X.prog X.w (upd H s.heap.objs.size (.tup [.int (i : Nat), x])) h'' s.heap.objs.size (.tup [.int (i : Nat), x]) :=
      ⟨by show 2 ≤ sizeLine; decide, [.int i tk, u2], .cons ⟨_, rfl⟩ (.cons ru .nil), ⟨_, hT2, rfl, _, rfl⟩⟩
    have I1 : Inv X pins σ (upd H s.heap.objs.size (.tup [.int (i : Nat), x])) { s with heap := h'', toks := tk + 1 } :=
      I.turnedNew (t' := tk + 1) (ch := [e, it]) (fun c oc hc' q => (sb.2 c fun z => hc' (by simp [z])).trans (hk c oc (fun z => hc' (by simp [z])) (fun z => hc' (by simp [z])) q)) hf (Nat.le_refl _) new
    refine ⟨.ref s.heap.objs.size, _, I1, rfl, ⟨_, x, rfl, I.hok.fresh (Nat.le_refl _), rfl, fun ys hy => by rw [injB I hy hq]; exact hx⟩, ⟨⟨u2, ?_⟩, itB_at st'.1 fun o q => (sb.2 it (Ne.symm hne)).trans q, hne⟩, fun c hc' => ?_⟩
    · rw [show ((i + 1 : Nat) : Int) = (i : Int) + 1 by omega]; exact he'
    · have hlt : c < s.heap.objs.size := by
        rcases (show c = e ∨ c = it by simpa using hc') with z | z
        · subst z; exact hel
        · subst z; exact hil
      rw [upd_ne (Nat.ne_of_lt hlt)]
      exact (hf c hc').1
  done := by
    intro X hP hw hK hc i pins s σ H E I hf st hg
    subst hP hw hK
    obtain ⟨⟨old, he⟩, hit, hne⟩ := st
    obtain ⟨xs, hq, hx⟩ := hg
    obtain ⟨us, rv, ob⟩ := srcB I hq
    obtain ⟨oi, vi, ei, di⟩ := itB_fields hit
    obtain ⟨f0, f1, f2, f3, f4, f5⟩ := hf it (by simp)
    have hn : us.toArray.size = i := by have := rv.length; simp; omega
    refine wpAny_pyNext_enum_endD (drawB (A := X.A.in1) b (show X.A.in1.handled = none from I.ok.hd hc) it a (obB_ne ob ei di) us.toArray) he (by rw [hn]; exact ⟨hit, ob⟩) fun h' eb => ⟨rfl, I.turned (t' := s.toks) (fun c o hb q => eb c o hb q) f0 f1 f3 f4 f5⟩
  self := fun A i s Q E st h => let ⟨⟨_, he⟩, _⟩ := st; wpAny_pyIter_enum he h

theorem meets_enumB {v : Value} {o : Obj} {Hd : Heap → Prop} (B : Begins v o Hd) :
    Meets (Builtin.«enumerate.__new__» ⟨[.type "enumerate", v], []⟩) (fun _ R s => Hd s.heap ∧
      R (.ok (.ret (.ref (s.heap.push o).objs.size))) { s with heap := (s.heap.push o).push { cls := .type "enumerate", data := .fields #[.none, .bool false, .ref s.heap.objs.size, rawInt 0, .none, .none] } }) :=
  .of_wp fun prog w A R s h => by
    obtain ⟨hp, g, d, tk, os⟩ := s; obtain ⟨h1, h⟩ := h
    have hsub := sub_enumerate
    have q1 : ∀ {A' : Around} {E : Value → Shared → Prop} {Q : Value → Shared → Prop}, Q (.ref hp.objs.size) ⟨hp.push o, g, d, tk, os⟩ → wpAny (model prog w) A' (pyIter v) Q E ⟨hp, g, d, tk, os⟩ :=
      fun q => B.iter prog w _ _ ⟨hp, g, d, tk, os⟩ _ h1 q
    wp_walk using q1
    refine wpAny_stack_any fun st => wpAny_pure ?_
    split
    · rename_i c _ _ _ _ _
      cases (c == Value.type "enumerate") <;> (wp_walk using q1; exact ⟨_, rfl, h⟩)
    · wp_walk using q1
      exact ⟨_, rfl, h⟩
theorem call_enB {prog : Program} {w : World} {A : Around} {E : Value → Shared → Prop} {s : Shared} {v : Value} {o : Obj} {Hd : Heap → Prop} {Q : Value → Shared → Prop} (B : Begins v o Hd) (h1 : Hd s.heap)
    (h : ∀ h', IsEnum h' (s.heap.objs.size + 1) s.heap.objs.size 0 .none → h'.get? s.heap.objs.size = some o → h'.objs.size = s.heap.objs.size + 2 →
      (∀ b o, s.heap.get? b = some o → h'.get? b = some o) → Q (.ref (s.heap.objs.size + 1)) { s with heap := h' }) :
    wpAny (model prog w) A (call (.type "enumerate") [v]) Q E s := by
  refine callType_new F.called_enumerate (by decide) (F.typeCall_enumerate_1 _) (F.newCall_enumerate_1 _) (fun obj => F.args_object_init_2 obj _) F.entry_enumerate_new (meets_enumB B) ⟨h1, ?_⟩
  have z1 : (s.heap.push o).objs.size = s.heap.objs.size + 1 := Heap.size_push ..
  show _ ∧ _
  rw [z1]
  have he : IsEnum ((s.heap.push o).push { cls := .type "enumerate", data := .fields #[.none, .bool false, .ref s.heap.objs.size, rawInt 0, .none, .none] }) (s.heap.objs.size + 1) s.heap.objs.size 0 .none := by
    have x := Heap.get?_push_size (s.heap.push o) (o := { cls := .type "enumerate", data := .fields #[.none, .bool false, .ref s.heap.objs.size, rawInt 0, .none, .none] }) rfl
    rw [z1] at x; exact x
  exact ⟨⟨_, he, rfl⟩, h _ he (Heap.get?_push_of_some _ (Heap.get?_push_size _ B.free)) (by rw [Heap.size_push, z1]) fun b o x => Heap.get?_push_of_some _ (Heap.get?_push_of_some _ x)⟩

def JZp (K : PySem.W.Frag) (b1 b2 : Bool) (a1 a2 : Addr) : It :=
  ⟨fun i H => ∃ (xs ys : List V) (x y : V), SqB K H b1 a1 xs ∧ SqB K H b2 a2 ys ∧ xs[i]? = some x ∧ ys[i]? = some y,
    fun i H v H' => ∃ T x y, v = .ref T ∧ H T = none ∧ H' = upd H T (.tup [x, y]) ∧ (∀ xs, SqB K H b1 a1 xs → xs[i]? = some x) ∧ ∀ ys, SqB K H b2 a2 ys → ys[i]? = some y,
    fun i H => ∃ xs ys : List V, SqB K H b1 a1 xs ∧ SqB K H b2 a2 ys ∧ i = min xs.length ys.length⟩
theorem turn_zp {P : Program} {w : World} {K : PySem.W.Frag} {elts : List Expr} {kk : Nat} {tpos : Pos} {b1 b2 : Bool} {a1 a2 z TI TO i1 i2 : Addr} (D : ZipSep2 z TI TO i1 i2 [i1, a1] [i2, a2]) :
    Turn P w K (.Tuple elts kk tpos) (JZp K b1 b2 a1 a2) [z, TI, TO, i1, i2] z (fun i h => IsZip h z TI TO .none ∧ IsTupOf2 h TI (.ref i1) (.ref i2) ∧ (∃ x y, IsTupOf2 h TO x y) ∧ ItB h b1 i1 a1 i ∧ ItB h b2 i2 a2 i) where
  mem := by simp
  obj := fun i h st c hc => by
    obtain ⟨hz, hTI, ⟨x, y, hTO⟩, h1, h2⟩ := st
    rcases (show c = z ∨ c = TI ∨ c = TO ∨ c = i1 ∨ c = i2 by simpa using hc) with q | q | q | q | q <;> subst q
    · exact ⟨_, hz, fun v q => nomatch q⟩
    · exact ⟨_, hTI, fun v q => nomatch q⟩
    · exact ⟨_, hTO, fun v q => nomatch q⟩
    · exact itB_ob h1
    · exact itB_ob h2
  keep := fun i h h' st k => by
    obtain ⟨hz, hTI, ⟨x, y, hTO⟩, h1, h2⟩ := st
    exact ⟨k z (by simp) _ hz, k TI (by simp) _ hTI, ⟨x, y, k TO (by simp) _ hTO⟩, itB_at h1 fun o q => k i1 (by simp) o q, itB_at h2 fun o q => k i2 (by simp) o q⟩
  item := by
    intro X hP hw hK hc i pins s σ H E I hf st hg
    subst hP hw hK
    obtain ⟨hz, hTI, ⟨x0, y0, hTO⟩, h1, h2⟩ := st
    obtain ⟨xs, ys, x, y, hqx, hqy, hx, hy⟩ := hg
    obtain ⟨us, rv, ob1⟩ := srcB I hqx
    obtain ⟨ws, rv2, ob2⟩ := srcB I hqy
    obtain ⟨u, hu, ru⟩ := rv.get hx
    obtain ⟨u2, hu2, ru2⟩ := rv2.get hy
    obtain ⟨_, _, e1, d1⟩ := itB_fields h1
    obtain ⟨_, _, e2, d2⟩ := itB_fields h2
    have hzl : z < s.heap.objs.size := Heap.lt_size hz
    have l1 : i < us.toArray.size := by have := (List.getElem?_eq_some_iff.mp hu).1; simpa using this
    have l2 : i < ws.toArray.size := by have := (List.getElem?_eq_some_iff.mp hu2).1; simpa using this
    refine wpAny_pyNext_zipD2_item D (drawB (A := X.A.in1) b1 (show X.A.in1.handled = none from I.ok.hd hc) i1 a1 (obB_ne ob1 e1 d1) us.toArray) (drawB (A := X.A.in1) b2 (show X.A.in1.handled = none from I.ok.hd hc) i2 a2 (obB_ne ob2 e2 d2) ws.toArray)
      hz hTI hTO ⟨h1, ob1⟩ ⟨h2, ob2⟩ l1 l2 fun w1 w2 h' tk p1 p2 z' TO' st1 st2 hT hsz hk => ?_
    have q1 : w1 = u := by have : us[i]? = some w1 := by simpa using p1
                           rw [hu] at this; cases this; rfl
    have q2 : w2 = u2 := by have : ws[i]? = some w2 := by simpa using p2
                            rw [hu2] at this; cases this; rfl
    subst q1; subst q2
    refine ⟨_, rfl, wpAny_letOwnedTupleGo_zip (s := { s with heap := h', toks := tk }) z' fun h'' z'' sb => ?_⟩
    have hT2 : IsTupOf2 h'' s.heap.objs.size w1 w2 := (sb.2 _ (Nat.ne_of_gt hzl)).trans hT
    have new : ObjOk X.prog X.w (upd H s.heap.objs.size (.tup [x, y])) h'' s.heap.objs.size (.tup [x, y]) :=
      ⟨by show 2 ≤ sizeLine; decide, [w1, w2], .cons ru (.cons ru2 .nil), ⟨_, hT2, rfl, _, rfl⟩⟩
    have I1 : Inv X pins σ (upd H s.heap.objs.size (.tup [x, y])) { s with heap := h'', toks := tk } :=
      I.turnedNew (t' := tk) (ch := [z, TI, TO, i1, i2]) (fun c o hb q => (sb.2 c fun t => hb (by simp [t])).trans (hk c o (fun t => hb (by simp [t])) (fun t => hb (by simp [t])) (fun t => hb (by simp [t])) (fun t => hb (by simp [t])) q)) hf (Nat.le_refl _) new
    refine ⟨.ref s.heap.objs.size, _, I1, rfl, ⟨_, x, y, rfl, I.hok.fresh (Nat.le_refl _), rfl, fun l hl => by rw [injB I hl hqx]; exact hx, fun l hl => by rw [injB I hl hqy]; exact hy⟩, ⟨z'', ?_, ⟨w1, w2, ?_⟩, ?_, ?_⟩, fun c hcm => ?_⟩
    · exact (sb.2 _ D.TIz).trans (hk _ _ D.TIz D.TITO D.TIi1 D.TIi2 hTI)
    · exact (sb.2 _ D.TOz).trans TO'
    · exact itB_at st1.1 fun o q => (sb.2 _ (Ne.symm D.zi1)).trans q
    · exact itB_at st2.1 fun o q => (sb.2 _ (Ne.symm D.zi2)).trans q
    · have hlt : c < s.heap.objs.size := by
        rcases (show c = z ∨ c = TI ∨ c = TO ∨ c = i1 ∨ c = i2 by simpa using hcm) with q | q | q | q | q <;> subst q
        · exact hzl
        · exact Heap.lt_size hTI
        · exact Heap.lt_size hTO
        · exact Heap.lt_size e1
        · exact Heap.lt_size e2
      rw [upd_ne (Nat.ne_of_lt hlt)]
      exact (hf c hcm).1
  done := by
    intro X hP hw hK hc i pins s σ H E I hf st hg
    subst hP hw hK
    obtain ⟨hz, hTI, ⟨x0, y0, hTO⟩, h1, h2⟩ := st
    obtain ⟨xs, ys, hqx, hqy, hend⟩ := hg
    obtain ⟨us, rv, ob1⟩ := srcB I hqx
    obtain ⟨ws, rv2, ob2⟩ := srcB I hqy
    obtain ⟨_, _, e1, d1⟩ := itB_fields h1
    obtain ⟨_, _, e2, d2⟩ := itB_fields h2
    have n1 := rv.length
    have n2 := rv2.length
    refine wpAny_pyNext_zipD2_end D (drawB (A := X.A.in1) b1 (show X.A.in1.handled = none from I.ok.hd hc) i1 a1 (obB_ne ob1 e1 d1) us.toArray) (drawB (A := X.A.in1) b2 (show X.A.in1.handled = none from I.ok.hd hc) i2 a2 (obB_ne ob2 e2 d2) ws.toArray)
      hz hTI hTO ⟨h1, ob1⟩ ⟨h2, ob2⟩ (by simp; omega) (by simp; omega) (by simp; omega) fun h' tk hk => ⟨rfl, I.turnedL (t' := tk) (ch := [z, TI, TO, i1, i2]) (fun c o hb q =>
      hk c o (fun t => hb (by simp [t])) (fun t => hb (by simp [t])) (fun t => hb (by simp [t])) (fun t => hb (by simp [t])) q) hf⟩
  self := fun A i s Q E st h => wpAny_pyIter_zip st.1 h
end GP

set_option Elab.async false
set_option linter.all false
set_option maxRecDepth 100000
set_option autoImplicit false
set_option maxHeartbeats 1000000

namespace GP
open PySem PySem.Spec L2

section
variable {e : En} {N : List Str} {sc : Scope} {kk : Nat} {Wx : WX} {X : Cx} {Γ : Ctx} {a b c ex tg : Expr} {es : List Expr} {pos : Pos} {ra rb rc : S → R Sl} {rl : S → R (List D)} {m : List Addr} {H : Hp}

structure Wk (e : En) (m : List Addr) (H : Hp) (J : It) (xs : List D) : Prop where
  go : ∀ i m1 H1, i < xs.length → Stay m H m1 H1 → J.go i H1
  stop : ∀ m1 H1, Stay m H m1 H1 → J.stop xs.length H1
  yld : ∀ (i : Nat) m1 H1 v H2 d, xs[i]? = some d → Stay m H m1 H1 → J.yld i H1 v H2 → New H1 H2 ∧ Dat e m1 H2 v d
def TIt (e : En) (Wx : WX) (r : S → R (List D)) : TI := fun σ H Q => ∃ m s, Fm e σ H m s ∧ Run e Wx σ m s H (r s) (fun xs m' s' H' => ∀ J, Wk e m' H' J xs → Q J H')
theorem Run.mapTo {α β : Type} {σ : St} {s : S} {r : R α} {g : α → β} {k : β → List Addr → S → Hp → Prop} (h : Run e Wx σ m s H r fun a => k (g a)) : Run e Wx σ m s H (bnd r fun a s1 => okv (g a) s1) k := by
  match r, h with
  | none, h => exact h
  | some (.exc x, s1), h => exact h
  | some (.val a, s1), h => exact h
theorem get_lt {α : Type} {xs : List α} {i : Nat} {d : α} (h : xs[i]? = some d) : i < xs.length := (List.getElem?_eq_some_iff.mp h).1
theorem wk_list (hK : X.K = e.K) {p : Addr} {vs : List V} {xs : List D} (l : FzL e.K H p vs) (t : DatL e m H vs xs) : Wk e m H (Itl X.K p) xs := by
  refine ⟨fun i m1 H1 hi st => ?_, fun m1 H1 st => ?_, fun i m1 H1 v H2 d hd st hy => ?_⟩
  · rw [← t.length] at hi
    exact ⟨vs, vs[i], sqL hK (st.fzL l), List.getElem?_eq_getElem hi⟩
  · exact ⟨vs, sqL hK (st.fzL l), by rw [t.length]; exact Nat.le_refl _⟩
  · obtain ⟨rfl, hy⟩ := hy
    obtain ⟨u, hu, du⟩ := t.get hd
    have := hy vs (sqL hK (st.fzL l))
    rw [hu] at this; cases this
    exact ⟨.inl rfl, du.stay st⟩
theorem wk_tup (hK : X.K = e.K) {p : Addr} {vs : List V} {xs : List D} (l : TpL e.K H p vs) (t : DatL e m H vs xs) : Wk e m H (Itt X.K p) xs := by
  refine ⟨fun i m1 H1 hi st => ?_, fun m1 H1 st => ?_, fun i m1 H1 v H2 d hd st hy => ?_⟩
  · rw [← t.length] at hi
    exact ⟨vs, vs[i], sqT hK (st.tpL l), List.getElem?_eq_getElem hi⟩
  · exact ⟨vs, sqT hK (st.tpL l), by rw [t.length]; exact Nat.le_refl _⟩
  · obtain ⟨rfl, hy⟩ := hy
    obtain ⟨u, hu, du⟩ := t.get hd
    have := hy vs (sqT hK (st.tpL l))
    rw [hu] at this; cases this
    exact ⟨.inl rfl, du.stay st⟩
theorem wk_str {z : Str} : Wk e m H (Its z) (z.cps.toList.map fun c => .str ⟨#[c]⟩) := by
  refine ⟨fun i m1 H1 hi st => ?_, fun m1 H1 st => ?_, fun i m1 H1 v H2 d hd st hy => ?_⟩
  · show i < z.cps.size; simpa using hi
  · show z.cps.size ≤ _; simp
  · obtain ⟨rfl, c, hc, rfl⟩ := hy
    have : d = .str ⟨#[c]⟩ := by
      rw [List.getElem?_map] at hd
      rw [show z.cps.toList[i]? = z.cps[i]? by simp, hc] at hd
      cases hd; rfl
    subst this
    exact ⟨.inl rfl, .str _⟩
theorem rangeL_len (c : Int) : ∀ (n : Nat) (lo : Int), (rangeL lo c n).length = n
  | 0, _ => rfl
  | n + 1, lo => by show (rangeL (lo + c) c n).length + 1 = n + 1; rw [rangeL_len c n]
theorem rangeL_get (c : Int) : ∀ (n : Nat) (lo : Int) (i : Nat) (d : D), (rangeL lo c n)[i]? = some d → d = .int (lo + (i : Nat) * c)
  | 0, _, _, _, h => by cases h
  | n + 1, lo, 0, d, h => by cases h; simp
  | n + 1, lo, i + 1, d, h => by
    have := rangeL_get c n (lo + c) i d h
    rw [this]
    congr 1
    rw [show ((i + 1 : Nat) : Int) = (i : Int) + 1 by omega, Int.add_mul]
    omega
theorem wk_rng {lo : Int} {n : Nat} : Wk e m H (Itr lo n) (rangeL lo 1 n) := by
  refine ⟨fun i m1 H1 hi st => ?_, fun m1 H1 st => ?_, fun i m1 H1 v H2 d hd st hy => ?_⟩
  · rw [rangeL_len] at hi; exact hi
  · rw [rangeL_len]; exact Nat.le_refl _
  · obtain ⟨rfl, rfl⟩ := hy
    rw [rangeL_get 1 n lo i d hd, Int.mul_one]
    exact ⟨.inl rfl, .int _⟩
theorem wk_rngC {lo c : Int} {n : Nat} : Wk e m H (Itc lo c n) (rangeL lo c n) := by
  refine ⟨fun i m1 H1 hi st => ?_, fun m1 H1 st => ?_, fun i m1 H1 v H2 d hd st hy => ?_⟩
  · rw [rangeL_len] at hi; exact hi
  · rw [rangeL_len]; exact Nat.le_refl _
  · obtain ⟨rfl, rfl⟩ := hy
    rw [rangeL_get c n lo i d hd]
    exact ⟨.inl rfl, .int _⟩

theorem src_of (hK : X.K = e.K) {x : D} {xs : List D} {v : V} (h : Dat e m H v x) (hx : itemsOf x = some xs) : ∃ b p vs, v = .ref p ∧ DatL e m H vs xs ∧ ∀ m1 H1, Stay m H m1 H1 → SqB X.K H1 b p vs := by
  cases h with
  | lst l t => cases hx; exact ⟨false, _, _, rfl, t, fun m1 H1 st => sqL hK (st.fzL l)⟩
  | tup l t => cases hx; exact ⟨true, _, _, rfl, t, fun m1 H1 st => sqT hK (st.tpL l)⟩
  | _ => cases hx
theorem enumL_len : ∀ (xs : List D) (k : Nat), (enumL k xs).length = xs.length
  | [], _ => rfl
  | x :: xs, k => by show (enumL (k + 1) xs).length + 1 = xs.length + 1; rw [enumL_len xs]
theorem enumL_get : ∀ (xs : List D) (k i : Nat) (d : D), (enumL k xs)[i]? = some d → ∃ x, xs[i]? = some x ∧ d = .tup [.int ((k + i : Nat) : Int), x]
  | [], _, _, _, h => by cases h
  | x :: xs, k, 0, d, h => by cases h; exact ⟨x, rfl, rfl⟩
  | x :: xs, k, i + 1, d, h => by
    obtain ⟨y, h1, h2⟩ := enumL_get xs (k + 1) i d h
    exact ⟨y, h1, by rw [h2, show k + 1 + i = k + (i + 1) by omega]⟩
theorem wk_en {bb : Bool} {p : Addr} {vs : List V} {xs : List D} (l : ∀ m1 H1, Stay m H m1 H1 → SqB X.K H1 bb p vs) (t : DatL e m H vs xs) : Wk e m H (JEn X.K bb p) (enumL 0 xs) := by
  refine ⟨fun i m1 H1 hi st => ?_, fun m1 H1 st => ?_, fun i m1 H1 v H2 d hd st hy => ?_⟩
  · rw [enumL_len, ← t.length] at hi
    exact ⟨vs, vs[i], l _ _ st, List.getElem?_eq_getElem hi⟩
  · exact ⟨vs, l _ _ st, by rw [enumL_len, t.length]⟩
  · obtain ⟨T, x, rfl, hT, rfl, hy⟩ := hy
    obtain ⟨y, h1, rfl⟩ := enumL_get xs 0 i d hd
    obtain ⟨u, hu, du⟩ := t.get h1
    have := hy vs (l _ _ st)
    rw [hu] at this; cases this
    refine ⟨.inr ⟨T, _, hT, rfl⟩, .tup (.inl upd_same) (.cons ?_ (.cons ((du.stay st).stay (.new hT)) .nil))⟩
    rw [show 0 + i = i by omega]; exact .int _
theorem zipL_len : ∀ (xs ys : List D), (zipL xs ys).length = min xs.length ys.length
  | [], ys => by cases ys <;> simp [zipL]
  | x :: xs, [] => by simp [zipL]
  | x :: xs, y :: ys => by show (zipL xs ys).length + 1 = min (xs.length + 1) (ys.length + 1); rw [zipL_len xs ys]; omega
theorem zipL_get : ∀ (xs ys : List D) (i : Nat) (d : D), (zipL xs ys)[i]? = some d → ∃ x y, xs[i]? = some x ∧ ys[i]? = some y ∧ d = .tup [x, y]
  | [], ys, _, _, h => by cases ys <;> cases h
  | x :: xs, [], _, _, h => by cases h
  | x :: xs, y :: ys, 0, d, h => by cases h; exact ⟨x, y, rfl, rfl, rfl⟩
  | x :: xs, y :: ys, i + 1, d, h => by
    obtain ⟨a, b, h1, h2, h3⟩ := zipL_get xs ys i d h
    exact ⟨a, b, h1, h2, h3⟩
theorem wk_zp {b1 b2 : Bool} {p q : Addr} {vs us : List V} {xs ys : List D} (l : ∀ m1 H1, Stay m H m1 H1 → SqB X.K H1 b1 p vs) (l2 : ∀ m1 H1, Stay m H m1 H1 → SqB X.K H1 b2 q us) (t : DatL e m H vs xs) (t2 : DatL e m H us ys) :
    Wk e m H (JZp X.K b1 b2 p q) (zipL xs ys) := by
  refine ⟨fun i m1 H1 hi st => ?_, fun m1 H1 st => ?_, fun i m1 H1 v H2 d hd st hy => ?_⟩
  · rw [zipL_len, ← t.length, ← t2.length] at hi
    have i1 : i < vs.length := by omega
    have i2 : i < us.length := by omega
    exact ⟨vs, us, vs[i], us[i], l _ _ st, l2 _ _ st, List.getElem?_eq_getElem i1, List.getElem?_eq_getElem i2⟩
  · exact ⟨vs, us, l _ _ st, l2 _ _ st, by rw [zipL_len, t.length, t2.length]⟩
  · obtain ⟨T, x, y, rfl, hT, rfl, hx, hy⟩ := hy
    obtain ⟨x', y', h1, h2, rfl⟩ := zipL_get xs ys i d hd
    obtain ⟨u, hu, du⟩ := t.get h1
    obtain ⟨w, hw, dw⟩ := t2.get h2
    have e1 := hx vs (l _ _ st)
    have e2 := hy us (l2 _ _ st)
    rw [hu] at e1; cases e1
    rw [hw] at e2; cases e2
    exact ⟨.inr ⟨T, _, hT, rfl⟩, .tup (.inl upd_same) (.cons ((du.stay st).stay (.new hT)) (.cons ((dw.stay st).stay (.new hT)) .nil))⟩
theorem wk_items {p : Addr} {o : Obj} {kvs : List (Key × V)} {ks us : List D} (l : H p = some (.frz o (.dK kvs))) (t : DatL e m H (kvs.map fun p => kV p.1) ks) (t2 : DatL e m H (kvs.map fun p => p.2) us) : Wk e m H (Iti p o kvs) (zipL ks us) := by
  have n1 := t.length
  have n2 := t2.length
  rw [List.length_map] at n1 n2
  refine ⟨fun i m1 H1 hi st => ?_, fun m1 H1 st => ?_, fun i m1 H1 v H2 d hd st hy => ?_⟩
  · rw [zipL_len] at hi; exact ⟨st.keep _ _ l rfl, by omega⟩
  · rw [zipL_len]; exact ⟨st.keep _ _ l rfl, by omega⟩
  · obtain ⟨T, k, w, hk, rfl, hT, rfl⟩ := hy
    obtain ⟨x', y', h1, h2, rfl⟩ := zipL_get ks us i d hd
    obtain ⟨a, ha, da⟩ := t.get h1
    obtain ⟨b, hb, db⟩ := t2.get h2
    rw [List.getElem?_map, hk] at ha hb
    cases ha; cases hb
    exact ⟨.inr ⟨T, _, hT, rfl⟩, .tup (.inl upd_same) (.cons ((da.stay st).stay (.new hT)) (.cons ((db.stay st).stay (.new hT)) .nil))⟩


theorem xi_seq (G : Gd e N sc kk Wx X) (ha : PE X a (TO e Wx ra)) : PI X tg a (TIt e Wx fun s => bnd (frz (ra s)) fun d s1 => lft (walkOf d) s1) := by
  refine ⟨fun pins t σ H Q I ⟨m, s, f, w⟩ => ?_⟩
  have w : Run e Wx σ m s H (bnd (frz (ra s)) fun d s1 => lft (walkOf d) s1) (fun xs m' s' H' => ∀ J, Wk e m' H' J xs → Q J H') := w
  cases q : frz (ra s) with
  | none => rw [q] at w; exact w.elim
  | some o =>
    obtain ⟨o, s1⟩ := o
    rw [q] at w
    cases o with
    | exc x => exact (pi_list (xd ha)).run pins t σ H Q I ⟨m, s, f, by show Run e Wx σ m s H (frz (ra s)) _; rw [q]; exact w⟩
    | val d =>
      rw [bnd_val] at w
      cases d with
      | lst xs => exact (pi_list (xd ha)).run pins t σ H Q I ⟨m, s, f, by
          show Run e Wx σ m s H (frz (ra s)) _; rw [q]
          intro m1 H1 v1 f1 v hv
          cases hv with | lst l t => exact ⟨_, rfl, ⟨_, sqL G.hK l⟩, w m1 H1 v1 f1 _ (wk_list G.hK l t)⟩⟩
      | tup xs => exact (pi_tup (xd ha)).run pins t σ H Q I ⟨m, s, f, by
          show Run e Wx σ m s H (frz (ra s)) _; rw [q]
          intro m1 H1 v1 f1 v hv
          cases hv with | tup l t => exact ⟨_, rfl, ⟨_, sqT G.hK l⟩, w m1 H1 v1 f1 _ (wk_tup G.hK l t)⟩⟩
      | str z => exact (pi_str (xd ha)).run pins t σ H Q I ⟨m, s, f, by
          show Run e Wx σ m s H (frz (ra s)) _; rw [q]
          intro m1 H1 v1 f1 v hv
          cases hv; exact ⟨_, rfl, w m1 H1 v1 f1 _ wk_str⟩⟩
      | _ => exact w.elim
theorem rng_of {j : Int} (h : rngOk j = true) : -(2 ^ 62) ≤ j ∧ j < 2 ^ 62 := of_decide_eq_true h
theorem xi_rng1 {p : Pos} (hg : Gl X "range") (hm : X.mg "range" = none) (ha : PE X a (TO e Wx ra)) (hs : noStar a = true) :
    PI X tg (.Call (.Name "range" p) [a] [] pos) (TIt e Wx fun s => bnd (frz (ra s)) fun d s1 => match d with | .int j => if rngOk j then okv (rangeL 0 1 j.toNat) s1 else none | _ => none) := by
  refine ⟨fun pins t σ H Q I ⟨m, s, f, w⟩ => (pi_range1 hg hm (pa_cons (xd ha) pa_nil (star_of hs)) (star_of hs)).run pins t σ H Q I ⟨m, s, f, Run.one w fun d v m1 s1 H1 v1 f1 hd w1 => ?_⟩⟩
  cases d with
  | int j =>
    change Run e Wx σ m1 s1 H1 (if rngOk j = true then okv (rangeL 0 1 j.toNat) s1 else none) _ at w1
    split at w1
    · rename_i hj
      cases hd
      exact ⟨j, rfl, (rng_of hj).1, (rng_of hj).2, w1 m1 H1 .refl f1 _ wk_rng⟩
    · exact w1.elim
  | _ => exact w1.elim
theorem xi_rng2 {p : Pos} (hg : Gl X "range") (hm : X.mg "range" = none) (ha : PE X a (TO e Wx ra)) (hb : PE X b (TO e Wx rb)) (hs : noStar a = true) (hs2 : noStar b = true) :
    PI X tg (.Call (.Name "range" p) [a, b] [] pos) (TIt e Wx fun s => bnd (frz (ra s)) fun d s1 => bnd (frz (rb s1)) fun e s2 => match d, e with
    | .int i, .int j => if rngOk i && rngOk j then okv (rangeL i 1 (j - i).toNat) s2 else none
    | _, _ => none) := by
  have st2 : starEach [b] X.env = [(false, eval b X.env)] := star_of hs2
  have st : starEach [a, b] X.env = [(false, eval a X.env), (false, eval b X.env)] := by rw [star_of hs, st2]
  refine ⟨fun pins t σ H Q I ⟨m, s, f, w⟩ => (pi_range2 hg hm (pa_cons (xd ha) (pa_cons (xd hb) pa_nil st2) (by rw [st, st2])) st st2).run pins t σ H Q I ⟨m, s, f, Run.two w fun d d2 v v2 m1 s1 H1 v1 f1 hd hd2 w1 => ?_⟩⟩
  cases d with
  | int i =>
    cases d2 with
    | int j =>
      change Run e Wx σ m1 s1 H1 (if (rngOk i && rngOk j) = true then okv (rangeL i 1 (j - i).toNat) s1 else none) _ at w1
      split at w1
      · rename_i hj
        obtain ⟨h1, h2⟩ := Bool.and_eq_true_iff.mp hj
        cases hd; cases hd2
        exact ⟨i, j, rfl, ⟨(rng_of h1).1, (rng_of h1).2, (rng_of h2).1, (rng_of h2).2⟩, w1 m1 H1 .refl f1 _ wk_rng⟩
      · exact w1.elim
    | _ => exact w1.elim
  | _ => exact w1.elim
theorem xi_rng3 {p : Pos} {cc : Int} {c : Expr} (hg : Gl X "range") (hm : X.mg "range" = none) (ha : PE X a (TO e Wx ra)) (hb : PE X b (TO e Wx rb)) (hc : PE X c (tC (.int cc))) (hs : noStar a = true) (hs2 : noStar b = true) (hs3 : noStar c = true) :
    PI X tg (.Call (.Name "range" p) [a, b, c] [] pos) (TIt e Wx fun s => bnd (frz (ra s)) fun d s1 => bnd (frz (rb s1)) fun e s2 => match d, e with
    | .int i, .int j => if rngOk i && rngOk j && cc == -1 then okv (rangeL i (-1) (i - j).toNat) s2 else none
    | _, _ => none) := by
  have st3 : starEach [c] X.env = [(false, eval c X.env)] := star_of hs3
  have st2 : starEach [b, c] X.env = (false, eval b X.env) :: starEach [c] X.env := star_of hs2
  have st : starEach [a, b, c] X.env = (false, eval a X.env) :: starEach [b, c] X.env := star_of hs
  refine ⟨fun pins t σ H Q I ⟨m, s, f, w⟩ => (pi_range3 hg hm (pa_cons (xd ha) (pa_cons (xd hb) (pa_cons hc pa_nil st3) st2) st) st (by rw [st2, st3]; rfl)).run pins t σ H Q I ⟨m, s, f, Run.two w fun d d2 v v2 m1 s1 H1 v1 f1 hd hd2 w1 => ?_⟩⟩
  cases d with
  | int i =>
    cases d2 with
    | int j =>
      change Run e Wx σ m1 s1 H1 (if (rngOk i && rngOk j && cc == -1) = true then okv (rangeL i (-1) (i - j).toNat) s1 else none) _ at w1
      split at w1
      · rename_i hj
        obtain ⟨h12, h3⟩ := Bool.and_eq_true_iff.mp hj
        obtain ⟨h1, h2⟩ := Bool.and_eq_true_iff.mp h12
        have h3 : cc = -1 := by simpa using h3
        subst h3
        cases hd; cases hd2
        exact ⟨i, j, -1, (i - j).toNat, rfl, RgC.neg (rng_of h1).1 (rng_of h1).2 (rng_of h2).1 (rng_of h2).2, w1 m1 H1 .refl f1 _ wk_rngC⟩
      · exact w1.elim
    | _ => exact w1.elim
  | _ => exact w1.elim

theorem pi_en {ta : TA} {p tpos : Pos} {elts : List Expr} {k : Nat} (hg : Gl X "enumerate") (hm : X.mg "enumerate" = none) (ha : PA X [a] ta) (hs : starEach [a] X.env = [(false, eval a X.env)]) :
    PI X (.Tuple elts k tpos) (.Call (.Name "enumerate" p) [a] [] pos) (fun σ H R => ta σ H fun vs H1 => ∃ bb q xs, vs = [.ref q] ∧ SqB X.K H1 bb q xs ∧ R (JEn X.K bb q) H1) := by
  refine ⟨fun pins s σ H R I h => ?_⟩
  refine PyProof.Rows.Call_ (ld_blt I hg hm PyProof.Rows.boot_enumerate (PyProof.Rows.callWith_type1 (thn (ha.run pos pins s σ H _ I h) fun us s1 ⟨vs, H1, I1, r1, q1⟩ => ?_) hs rfl))
  obtain ⟨bb, q, xs, ex, hq, hR⟩ := q1
  subst ex
  obtain ⟨u, eu, r⟩ := vals1 r1
  subst eu
  cases r
  obtain ⟨us, rv, ob⟩ := srcB I1 hq
  refine call_enB (beginB bb q us.toArray) ob fun h' he ho hsz hk => wpAny_pyIter_enum he ?_
  refine ⟨s1.heap.objs.size + 1, [s1.heap.objs.size + 1, s1.heap.objs.size], _, _, H1, rfl, I1.kept (t' := s1.toks) hk, turn_en bb q (s1.heap.objs.size + 1) s1.heap.objs.size, ⟨⟨.none, he⟩, itB_new ho, Nat.succ_ne_self _⟩, fun b hb => ?_, hR⟩
  have hle : s1.heap.objs.size ≤ b := by
    rcases (show b = s1.heap.objs.size + 1 ∨ b = s1.heap.objs.size by simpa using hb) with z | z <;> rw [z]
    · exact Nat.le_add_right _ _
    · exact Nat.le_refl _
  exact I1.fpOk hle (I1.hok.fresh hle)
theorem pi_zp {ta : TA} {p tpos : Pos} {elts : List Expr} {k : Nat} (hg : Gl X "zip") (hm : X.mg "zip" = none) (ha : PA X [a, b] ta) (hs : starEach [a, b] X.env = (false, eval a X.env) :: starEach [b] X.env) (hpl : (backTo pos (starEach [b] X.env)).any (·.1) = false) :
    PI X (.Tuple elts k tpos) (.Call (.Name "zip" p) [a, b] [] pos) (fun σ H R => ta σ H fun vs H1 => ∃ b1 b2 q1 q2 xs ys, vs = [.ref q1, .ref q2] ∧ SqB X.K H1 b1 q1 xs ∧ SqB X.K H1 b2 q2 ys ∧ R (JZp X.K b1 b2 q1 q2) H1) := by
  refine ⟨fun pins s σ H R I h => ?_⟩
  refine PyProof.Rows.Call_ (ld_blt I hg hm PyProof.Rows.boot_zip (PyProof.Rows.callWith_type1 (thn (ha.run pos pins s σ H _ I h) fun us s1 ⟨vs, H1, I1, r1, q1⟩ => ?_) hs hpl))
  obtain ⟨b1, b2, q1, q2, xs, ys, ex, hq1, hq2, hR⟩ := q1
  subst ex
  obtain ⟨u, w, eu, r, r'⟩ := vals2 r1
  subst eu
  cases r; cases r'
  obtain ⟨us, rv, ob1⟩ := srcB I1 hq1
  obtain ⟨ws, rv2, ob2⟩ := srcB I1 hq2
  have lt1 : q1 < s1.heap.objs.size := by
    cases b1 with
    | true => obtain ⟨_, x, _⟩ := (show s1.heap.IsTuple q1 us.toArray from ob1); exact Heap.lt_size x
    | false => obtain ⟨_, x, _⟩ := (show s1.heap.IsList q1 us.toArray from ob1); exact Heap.lt_size x
  have lt2 : q2 < s1.heap.objs.size := by
    cases b2 with
    | true => obtain ⟨_, x, _⟩ := (show s1.heap.IsTuple q2 ws.toArray from ob2); exact Heap.lt_size x
    | false => obtain ⟨_, x, _⟩ := (show s1.heap.IsList q2 ws.toArray from ob2); exact Heap.lt_size x
  refine zip_begins2 (beginB b1 q1 us.toArray) (beginB b2 q2 ws.toArray) ob1 ob2 fun h' hz hTI hTO o1 o2 hsz hk => wpAny_pyIter_zip hz ?_
  refine ⟨s1.heap.objs.size + 4, [s1.heap.objs.size + 4, s1.heap.objs.size + 2, s1.heap.objs.size + 3, s1.heap.objs.size, s1.heap.objs.size + 1], _, _, H1, rfl, I1.kept (t' := s1.toks) hk,
    turn_zp (b1 := b1) (b2 := b2) (zip_sep2 (fp1 := [q1]) (fp2 := [q2]) (fun b hb => by simp at hb; subst hb; exact lt1) (fun b hb => by simp at hb; subst hb; exact lt2)), ⟨hz, hTI, ⟨_, _, hTO⟩, itB_new o1, itB_new o2⟩, fun c hc => ?_, hR⟩
  have hle : s1.heap.objs.size ≤ c := by
    rcases (show c = s1.heap.objs.size + 4 ∨ c = s1.heap.objs.size + 2 ∨ c = s1.heap.objs.size + 3 ∨ c = s1.heap.objs.size ∨ c = s1.heap.objs.size + 1 by simpa using hc) with z | z | z | z | z <;> rw [z]
    · exact Nat.le_add_right _ _
    · exact Nat.le_add_right _ _
    · exact Nat.le_add_right _ _
    · exact Nat.le_refl _
    · exact Nat.le_add_right _ _
  exact I1.fpOk hle (I1.hok.fresh hle)
theorem xi_enm (G : Gd e N sc kk Wx X) {p tpos : Pos} {elts : List Expr} {k : Nat} (hg : Gl X "enumerate") (hm : X.mg "enumerate" = none) (ha : PE X a (TO e Wx ra)) (hs : noStar a = true) :
    PI X (.Tuple elts k tpos) (.Call (.Name "enumerate" p) [a] [] pos) (TIt e Wx fun s => bnd (frz (ra s)) fun d s1 => lft ((itemsOf d).map (enumL 0)) s1) :=
  ⟨fun pins t σ H Q I ⟨m, s, f, w⟩ => (pi_en hg hm (pa_cons (xd ha) pa_nil (star_of hs)) (star_of hs)).run pins t σ H Q I ⟨m, s, f, Run.one w fun d v m1 s1 H1 v1 f1 hd w1 => by
    obtain ⟨ys, hy, w2⟩ := w1.lft
    obtain ⟨xs, hx, rfl⟩ := Option.map_eq_some_iff.mp hy
    obtain ⟨bb, q, vs, rfl, t, l⟩ := src_of G.hK hd hx
    exact ⟨bb, q, vs, rfl, l _ _ .refl, w2 m1 H1 .refl f1 _ (wk_en l t)⟩⟩⟩
theorem xi_zip (G : Gd e N sc kk Wx X) {p tpos : Pos} {elts : List Expr} {k : Nat} (hg : Gl X "zip") (hm : X.mg "zip" = none) (ha : PE X a (TO e Wx ra)) (hb : PE X b (TO e Wx rb)) (hs : noStar a = true) (hs2 : noStar b = true) :
    PI X (.Tuple elts k tpos) (.Call (.Name "zip" p) [a, b] [] pos) (TIt e Wx fun s => bnd (frz (ra s)) fun d s1 => bnd (frz (rb s1)) fun e s2 => match itemsOf d, itemsOf e with
    | some xs, some ys => okv (zipL xs ys) s2
    | _, _ => none) := by
  have st2 : starEach [b] X.env = (false, eval b X.env) :: starEach [] X.env := star_of hs2
  refine ⟨fun pins t σ H Q I ⟨m, s, f, w⟩ => (pi_zp hg hm (pa_cons (xd ha) (pa_cons (xd hb) pa_nil st2) (star_of hs)) (star_of hs) (by rw [st2]; rfl)).run pins t σ H Q I ⟨m, s, f, Run.two w fun d d2 v v2 m1 s1 H1 v1 f1 hd hd2 w1 => ?_⟩⟩
  cases hx : itemsOf d with
  | none => rw [hx] at w1; exact w1.elim
  | some xs =>
    cases hy : itemsOf d2 with
    | none => rw [hx, hy] at w1; exact w1.elim
    | some ys =>
      rw [hx, hy] at w1
      obtain ⟨b1, q1, vs, rfl, t1, l1⟩ := src_of G.hK hd hx
      obtain ⟨b2, q2, us, rfl, t2, l2⟩ := src_of G.hK hd2 hy
      exact ⟨b1, b2, q1, q2, vs, us, rfl, l1 _ _ .refl, l2 _ _ .refl, w1 m1 H1 .refl f1 _ (wk_zp l1 l2 t1 t2)⟩
theorem xi_items {apos tpos : Pos} {elts : List Expr} {k : Nat} (ha : PE X a (TO e Wx ra)) (ho : abOk a = true) (hl : (apos.endLine == pos.line) = true) :
    PI X (.Tuple elts k tpos) (.Call (.Attribute a "items" apos) [] [] pos) (TIt e Wx fun s => bnd (frz (ra s)) fun d s1 => match d with | .dic ks vs => okv (zipL ks vs) s1 | _ => none) :=
  ⟨fun pins t σ H Q I ⟨m, s, f, w⟩ => (pi_items (xd ha) (ab_of ho) hl).run pins t σ H Q I ⟨m, s, f, Run.one w fun d v m1 s1 H1 v1 f1 hd w1 => by
    cases d with
    | dic ks vs => cases hd with | dic l t1 t2 => exact ⟨_, _, _, rfl, l, w1 m1 H1 .refl f1 _ (wk_items l t1 t2)⟩
    | _ => exact w1.elim⟩⟩
end
end GP

set_option Elab.async false
set_option linter.all false
set_option maxRecDepth 100000
set_option autoImplicit false
set_option maxHeartbeats 4000000

namespace GP
open PySem PySem.Spec L2
def JZp3 (K : PySem.W.Frag) (b1 b2 b3 : Bool) (a1 a2 a3 : Addr) : It :=
  ⟨fun i H => ∃ (xs ys zs : List V) (x y t : V), SqB K H b1 a1 xs ∧ SqB K H b2 a2 ys ∧ SqB K H b3 a3 zs ∧ xs[i]? = some x ∧ ys[i]? = some y ∧ zs[i]? = some t,
    fun i H v H' => ∃ T x y t, v = .ref T ∧ H T = none ∧ H' = upd H T (.tup [x, y, t]) ∧ (∀ xs, SqB K H b1 a1 xs → xs[i]? = some x) ∧ (∀ ys, SqB K H b2 a2 ys → ys[i]? = some y) ∧ ∀ zs, SqB K H b3 a3 zs → zs[i]? = some t,
    fun i H => ∃ xs ys zs : List V, SqB K H b1 a1 xs ∧ SqB K H b2 a2 ys ∧ SqB K H b3 a3 zs ∧ i = min (min xs.length ys.length) zs.length⟩
theorem turn_zp3 {P : Program} {w : World} {K : PySem.W.Frag} {elts : List Expr} {kk : Nat} {tpos : Pos} {b1 b2 b3 : Bool} {a1 a2 a3 z TI TO i1 i2 i3 : Addr} (D : ZipSep3 z TI TO i1 i2 i3 [i1, a1] [i2, a2] [i3, a3]) :
    Turn P w K (.Tuple elts kk tpos) (JZp3 K b1 b2 b3 a1 a2 a3) [z, TI, TO, i1, i2, i3] z (fun i h => IsZip h z TI TO .none ∧ IsTupOf3 h TI (.ref i1) (.ref i2) (.ref i3) ∧ (∃ x y t, IsTupOf3 h TO x y t) ∧ ItB h b1 i1 a1 i ∧ ItB h b2 i2 a2 i ∧ ItB h b3 i3 a3 i) where
  mem := by simp
  obj := fun i h st c hc => by
    obtain ⟨hz, hTI, ⟨x, y, t, hTO⟩, h1, h2, h3⟩ := st
    rcases (show c = z ∨ c = TI ∨ c = TO ∨ c = i1 ∨ c = i2 ∨ c = i3 by simpa using hc) with q | q | q | q | q | q <;> subst q
    · exact ⟨_, hz, fun v q => nomatch q⟩
    · exact ⟨_, hTI, fun v q => nomatch q⟩
    · exact ⟨_, hTO, fun v q => nomatch q⟩
    · exact itB_ob h1
    · exact itB_ob h2
    · exact itB_ob h3
  keep := fun i h h' st k => by
    obtain ⟨hz, hTI, ⟨x, y, t, hTO⟩, h1, h2, h3⟩ := st
    exact ⟨k z (by simp) _ hz, k TI (by simp) _ hTI, ⟨x, y, t, k TO (by simp) _ hTO⟩, itB_at h1 fun o q => k i1 (by simp) o q, itB_at h2 fun o q => k i2 (by simp) o q, itB_at h3 fun o q => k i3 (by simp) o q⟩
  item := by
    intro X hP hw hK hc i pins s σ H E I hf st hg
    subst hP hw hK
    obtain ⟨hz, hTI, ⟨x0, y0, t0, hTO⟩, h1, h2, h3⟩ := st
    obtain ⟨xs, ys, zs, x, y, t, hqx, hqy, hqz, hx, hy, ht⟩ := hg
    obtain ⟨us, rv, ob1⟩ := srcB I hqx
    obtain ⟨ws, rv2, ob2⟩ := srcB I hqy
    obtain ⟨ts, rv3, ob3⟩ := srcB I hqz
    obtain ⟨u, hu, ru⟩ := rv.get hx
    obtain ⟨u2, hu2, ru2⟩ := rv2.get hy
    obtain ⟨u3, hu3, ru3⟩ := rv3.get ht
    obtain ⟨_, _, e1, d1⟩ := itB_fields h1
    obtain ⟨_, _, e2, d2⟩ := itB_fields h2
    obtain ⟨_, _, e3, d3⟩ := itB_fields h3
    have hzl : z < s.heap.objs.size := Heap.lt_size hz
    have l1 : i < us.toArray.size := by have := (List.getElem?_eq_some_iff.mp hu).1; simpa using this
    have l2 : i < ws.toArray.size := by have := (List.getElem?_eq_some_iff.mp hu2).1; simpa using this
    have l3 : i < ts.toArray.size := by have := (List.getElem?_eq_some_iff.mp hu3).1; simpa using this
    refine wpAny_pyNext_zipD3_item D (drawB (A := X.A.in1) b1 (show X.A.in1.handled = none from I.ok.hd hc) i1 a1 (obB_ne ob1 e1 d1) us.toArray) (drawB (A := X.A.in1) b2 (show X.A.in1.handled = none from I.ok.hd hc) i2 a2 (obB_ne ob2 e2 d2) ws.toArray)
      (drawB (A := X.A.in1) b3 (show X.A.in1.handled = none from I.ok.hd hc) i3 a3 (obB_ne ob3 e3 d3) ts.toArray)
      hz hTI hTO ⟨h1, ob1⟩ ⟨h2, ob2⟩ ⟨h3, ob3⟩ l1 l2 l3 fun w1 w2 w3 h' tk p1 p2 p3 z' TO' st1 st2 st3 hT hsz hk => ?_
    have q1 : w1 = u := by have : us[i]? = some w1 := by simpa using p1
                           rw [hu] at this; cases this; rfl
    have q2 : w2 = u2 := by have : ws[i]? = some w2 := by simpa using p2
                            rw [hu2] at this; cases this; rfl
    have q3 : w3 = u3 := by have : ts[i]? = some w3 := by simpa using p3
                            rw [hu3] at this; cases this; rfl
    subst q1; subst q2; subst q3
    refine ⟨_, rfl, wpAny_letOwnedTupleGo_zip (s := { s with heap := h', toks := tk }) z' fun h'' z'' sb => ?_⟩
    have hT2 : IsTupOf3 h'' s.heap.objs.size w1 w2 w3 := (sb.2 _ (Nat.ne_of_gt hzl)).trans hT
    have new : ObjOk X.prog X.w (upd H s.heap.objs.size (.tup [x, y, t])) h'' s.heap.objs.size (.tup [x, y, t]) :=
      ⟨by show 3 ≤ sizeLine; decide, [w1, w2, w3], .cons ru (.cons ru2 (.cons ru3 .nil)), ⟨_, hT2, rfl, _, rfl⟩⟩
    have I1 : Inv X pins σ (upd H s.heap.objs.size (.tup [x, y, t])) { s with heap := h'', toks := tk } :=
      I.turnedNew (t' := tk) (ch := [z, TI, TO, i1, i2, i3]) (fun c o hb q => (sb.2 c fun t => hb (by simp [t])).trans (hk c o (fun t => hb (by simp [t])) (fun t => hb (by simp [t])) (fun t => hb (by simp [t])) (fun t => hb (by simp [t])) (fun t => hb (by simp [t])) q)) hf (Nat.le_refl _) new
    refine ⟨.ref s.heap.objs.size, _, I1, rfl, ⟨_, x, y, t, rfl, I.hok.fresh (Nat.le_refl _), rfl, fun l hl => by rw [injB I hl hqx]; exact hx, fun l hl => by rw [injB I hl hqy]; exact hy, fun l hl => by rw [injB I hl hqz]; exact ht⟩, ⟨z'', ?_, ⟨w1, w2, w3, ?_⟩, ?_, ?_, ?_⟩, fun c hcm => ?_⟩
    · exact (sb.2 _ D.TIz).trans (hk _ _ D.TIz D.TITO D.TIi1 D.TIi2 D.TIi3 hTI)
    · exact (sb.2 _ D.TOz).trans TO'
    · exact itB_at st1.1 fun o q => (sb.2 _ (Ne.symm D.zi1)).trans q
    · exact itB_at st2.1 fun o q => (sb.2 _ (Ne.symm D.zi2)).trans q
    · exact itB_at st3.1 fun o q => (sb.2 _ (Ne.symm D.zi3)).trans q
    · have hlt : c < s.heap.objs.size := by
        rcases (show c = z ∨ c = TI ∨ c = TO ∨ c = i1 ∨ c = i2 ∨ c = i3 by simpa using hcm) with q | q | q | q | q | q <;> subst q
        · exact hzl
        · exact Heap.lt_size hTI
        · exact Heap.lt_size hTO
        · exact Heap.lt_size e1
        · exact Heap.lt_size e2
        · exact Heap.lt_size e3
      rw [upd_ne (Nat.ne_of_lt hlt)]
      exact (hf c hcm).1
  done := by
    intro X hP hw hK hc i pins s σ H E I hf st hg
    subst hP hw hK
    obtain ⟨hz, hTI, ⟨x0, y0, t0, hTO⟩, h1, h2, h3⟩ := st
    obtain ⟨xs, ys, zs, hqx, hqy, hqz, hend⟩ := hg
    obtain ⟨us, rv, ob1⟩ := srcB I hqx
    obtain ⟨ws, rv2, ob2⟩ := srcB I hqy
    obtain ⟨ts, rv3, ob3⟩ := srcB I hqz
    obtain ⟨_, _, e1, d1⟩ := itB_fields h1
    obtain ⟨_, _, e2, d2⟩ := itB_fields h2
    obtain ⟨_, _, e3, d3⟩ := itB_fields h3
    have n1 := rv.length
    have n2 := rv2.length
    have n3 := rv3.length
    refine wpAny_pyNext_zipD3_end D (drawB (A := X.A.in1) b1 (show X.A.in1.handled = none from I.ok.hd hc) i1 a1 (obB_ne ob1 e1 d1) us.toArray) (drawB (A := X.A.in1) b2 (show X.A.in1.handled = none from I.ok.hd hc) i2 a2 (obB_ne ob2 e2 d2) ws.toArray)
      (drawB (A := X.A.in1) b3 (show X.A.in1.handled = none from I.ok.hd hc) i3 a3 (obB_ne ob3 e3 d3) ts.toArray)
      hz hTI hTO ⟨h1, ob1⟩ ⟨h2, ob2⟩ ⟨h3, ob3⟩ (by simp; omega) (by simp; omega) (by simp; omega) (by simp; omega) fun h' tk hk => ⟨rfl, I.turnedL (t' := tk) (ch := [z, TI, TO, i1, i2, i3]) (fun c o hb q =>
      hk c o (fun t => hb (by simp [t])) (fun t => hb (by simp [t])) (fun t => hb (by simp [t])) (fun t => hb (by simp [t])) (fun t => hb (by simp [t])) q) hf⟩
  self := fun A i s Q E st h => wpAny_pyIter_zip st.1 h
section
variable {e : En} {N : List Str} {sc : Scope} {kk : Nat} {Wx : WX} {X : Cx} {Γ : Ctx} {a b c : Expr} {pos : Pos} {ra rb rc : S → R Sl} {m : List Addr} {H : Hp}
theorem zipL3_len : ∀ (xs ys zs : List D), (zipL3 xs ys zs).length = min (min xs.length ys.length) zs.length
  | [], ys, zs => by simp [zipL3]
  | x :: xs, [], zs => by simp [zipL3]
  | x :: xs, y :: ys, [] => by simp [zipL3]
  | x :: xs, y :: ys, z :: zs => by show (zipL3 xs ys zs).length + 1 = min (min (xs.length + 1) (ys.length + 1)) (zs.length + 1); rw [zipL3_len xs ys zs]; omega
theorem zipL3_get : ∀ (xs ys zs : List D) (i : Nat) (d : D), (zipL3 xs ys zs)[i]? = some d → ∃ x y z, xs[i]? = some x ∧ ys[i]? = some y ∧ zs[i]? = some z ∧ d = .tup [x, y, z]
  | [], ys, zs, _, _, h => by simp [zipL3] at h
  | x :: xs, [], zs, _, _, h => by simp [zipL3] at h
  | x :: xs, y :: ys, [], _, _, h => by simp [zipL3] at h
  | x :: xs, y :: ys, z :: zs, 0, d, h => by cases h; exact ⟨x, y, z, rfl, rfl, rfl, rfl⟩
  | x :: xs, y :: ys, z :: zs, i + 1, d, h => by
    obtain ⟨a, b, c, h1, h2, h3, h4⟩ := zipL3_get xs ys zs i d h
    exact ⟨a, b, c, h1, h2, h3, h4⟩
theorem wk_zp3 {b1 b2 b3 : Bool} {p q r : Addr} {vs us ws : List V} {xs ys zs : List D} (l : ∀ m1 H1, Stay m H m1 H1 → SqB X.K H1 b1 p vs) (l2 : ∀ m1 H1, Stay m H m1 H1 → SqB X.K H1 b2 q us) (l3 : ∀ m1 H1, Stay m H m1 H1 → SqB X.K H1 b3 r ws) (t : DatL e m H vs xs) (t2 : DatL e m H us ys) (t3 : DatL e m H ws zs) :
    Wk e m H (JZp3 X.K b1 b2 b3 p q r) (zipL3 xs ys zs) := by
  refine ⟨fun i m1 H1 hi st => ?_, fun m1 H1 st => ?_, fun i m1 H1 v H2 d hd st hy => ?_⟩
  · rw [zipL3_len, ← t.length, ← t2.length, ← t3.length] at hi
    have i1 : i < vs.length := by omega
    have i2 : i < us.length := by omega
    have i3 : i < ws.length := by omega
    exact ⟨vs, us, ws, vs[i], us[i], ws[i], l _ _ st, l2 _ _ st, l3 _ _ st, List.getElem?_eq_getElem i1, List.getElem?_eq_getElem i2, List.getElem?_eq_getElem i3⟩
  · exact ⟨vs, us, ws, l _ _ st, l2 _ _ st, l3 _ _ st, by rw [zipL3_len, t.length, t2.length, t3.length]⟩
  · obtain ⟨T, x, y, z, rfl, hT, rfl, hx, hy, hz⟩ := hy
    obtain ⟨x', y', z', h1, h2, h3, rfl⟩ := zipL3_get xs ys zs i d hd
    obtain ⟨u, hu, du⟩ := t.get h1
    obtain ⟨w, hw, dw⟩ := t2.get h2
    obtain ⟨k, hk, dk⟩ := t3.get h3
    have e1 := hx vs (l _ _ st)
    have e2 := hy us (l2 _ _ st)
    have e3 := hz ws (l3 _ _ st)
    rw [hu] at e1; cases e1
    rw [hw] at e2; cases e2
    rw [hk] at e3; cases e3
    exact ⟨.inr ⟨T, _, hT, rfl⟩, .tup (.inl upd_same) (.cons ((du.stay st).stay (.new hT)) (.cons ((dw.stay st).stay (.new hT)) (.cons ((dk.stay st).stay (.new hT)) .nil)))⟩
theorem ltB {s : Shared} {b : Bool} {q : Addr} {us : Array Value} (h : ObB s.heap b q us) : q < s.heap.objs.size := by
  cases b with
  | true => obtain ⟨_, x, _⟩ := (show s.heap.IsTuple q us from h); exact Heap.lt_size x
  | false => obtain ⟨_, x, _⟩ := (show s.heap.IsList q us from h); exact Heap.lt_size x
theorem pi_zp3 {ta : TA} {p tpos : Pos} {elts : List Expr} {k : Nat} (hg : Gl X "zip") (hm : X.mg "zip" = none) (ha : PA X [a, b, c] ta) (hs : starEach [a, b, c] X.env = (false, eval a X.env) :: starEach [b, c] X.env) (hpl : (backTo pos (starEach [b, c] X.env)).any (·.1) = false) :
    PI X (.Tuple elts k tpos) (.Call (.Name "zip" p) [a, b, c] [] pos) (fun σ H R => ta σ H fun vs H1 => ∃ b1 b2 b3 q1 q2 q3 xs ys zs, vs = [.ref q1, .ref q2, .ref q3] ∧ SqB X.K H1 b1 q1 xs ∧ SqB X.K H1 b2 q2 ys ∧ SqB X.K H1 b3 q3 zs ∧ R (JZp3 X.K b1 b2 b3 q1 q2 q3) H1) := by
  refine ⟨fun pins s σ H R I h => ?_⟩
  refine PyProof.Rows.Call_ (ld_blt I hg hm PyProof.Rows.boot_zip (PyProof.Rows.callWith_type1 (thn (ha.run pos pins s σ H _ I h) fun us s1 ⟨vs, H1, I1, r1, q1⟩ => ?_) hs hpl))
  obtain ⟨b1, b2, b3, q1, q2, q3, xs, ys, zs, ex, hq1, hq2, hq3, hR⟩ := q1
  subst ex
  obtain ⟨u, w, y, eu, r, r', r''⟩ : ∃ u w y, us = [u, w, y] ∧ RelV (.ref q1) u ∧ RelV (.ref q2) w ∧ RelV (.ref q3) y := by
    cases r1 with | cons h1 t1 => cases t1 with | cons h2 t2 => cases t2 with | cons h3 t3 => cases t3; exact ⟨_, _, _, rfl, h1, h2, h3⟩
  subst eu
  cases r; cases r'; cases r''
  obtain ⟨us, rv, ob1⟩ := srcB I1 hq1
  obtain ⟨ws, rv2, ob2⟩ := srcB I1 hq2
  obtain ⟨ts, rv3, ob3⟩ := srcB I1 hq3
  have lt1 := ltB ob1
  have lt2 := ltB ob2
  have lt3 := ltB ob3
  refine zip_begins3 (beginB b1 q1 us.toArray) (beginB b2 q2 ws.toArray) (beginB b3 q3 ts.toArray) ob1 ob2 ob3 fun h' hz hTI hTO o1 o2 o3 hsz hk => wpAny_pyIter_zip hz ?_
  refine ⟨s1.heap.objs.size + 5, [s1.heap.objs.size + 5, s1.heap.objs.size + 3, s1.heap.objs.size + 4, s1.heap.objs.size, s1.heap.objs.size + 1, s1.heap.objs.size + 2], _, _, H1, rfl, I1.kept (t' := s1.toks) hk,
    turn_zp3 (b1 := b1) (b2 := b2) (b3 := b3) (zip_sep3 (fp1 := [q1]) (fp2 := [q2]) (fp3 := [q3]) (fun b hb => by simp at hb; subst hb; exact lt1) (fun b hb => by simp at hb; subst hb; exact lt2) (fun b hb => by simp at hb; subst hb; exact lt3)), ⟨hz, hTI, ⟨_, _, _, hTO⟩, itB_new o1, itB_new o2, itB_new o3⟩, fun c hc => ?_, hR⟩
  have hle : s1.heap.objs.size ≤ c := by
    rcases (show c = s1.heap.objs.size + 5 ∨ c = s1.heap.objs.size + 3 ∨ c = s1.heap.objs.size + 4 ∨ c = s1.heap.objs.size ∨ c = s1.heap.objs.size + 1 ∨ c = s1.heap.objs.size + 2 by simpa using hc) with z | z | z | z | z | z <;> rw [z] <;> first | exact Nat.le_add_right _ _ | exact Nat.le_refl _
  exact I1.fpOk hle (I1.hok.fresh hle)
theorem xi_zip3 (G : Gd e N sc kk Wx X) {p tpos : Pos} {elts : List Expr} {k : Nat} (hg : Gl X "zip") (hm : X.mg "zip" = none) (ha : PE X a (TO e Wx ra)) (hb : PE X b (TO e Wx rb)) (hc : PE X c (TO e Wx rc)) (hs : noStar a = true) (hs2 : noStar b = true) (hs3 : noStar c = true) :
    PI X (.Tuple elts k tpos) (.Call (.Name "zip" p) [a, b, c] [] pos) (TIt e Wx fun s => bnd (frz (ra s)) fun d s1 => bnd (frz (rb s1)) fun e s2 => bnd (frz (rc s2)) fun f s3 => match itemsOf d, itemsOf e, itemsOf f with
    | some xs, some ys, some zs => okv (zipL3 xs ys zs) s3
    | _, _, _ => none) := by
  have st3 : starEach [c] X.env = (false, eval c X.env) :: starEach [] X.env := star_of hs3
  have st2 : starEach [b, c] X.env = (false, eval b X.env) :: starEach [c] X.env := star_of hs2
  refine ⟨fun pins t σ H Q I ⟨m, s, f, w⟩ => (pi_zp3 hg hm (pa_cons (xd ha) (pa_cons (xd hb) (pa_cons (xd hc) pa_nil st3) st2) (star_of hs)) (star_of hs) (by rw [st2, st3]; rfl)).run pins t σ H Q I ⟨m, s, f, ?_⟩⟩
  have w : Run e Wx σ m s H (bnd (frz (ra s)) fun d s1 => bnd (frz (rb s1)) fun e s2 => bnd (frz (rc s2)) fun f s3 => match itemsOf d, itemsOf e, itemsOf f with
    | some xs, some ys, some zs => okv (zipL3 xs ys zs) s3
    | _, _, _ => none) (fun xs m' s' H' => ∀ J, Wk e m' H' J xs → Q J H') := w
  refine w.split.imp fun d1 m1 s1 H1 v1 f1 w1 y1 hy1 => ⟨m1, s1, f1, w1.split.imp fun d2 m2 s2 H2 v2 f2 w2 y2 hy2 => ⟨m2, s2, f2, w2.split.imp fun d3 m3 s3 H3 v3 f3 w3 y3 hy3 => ?_⟩⟩
  have st12 := v2.stay f1
  have st23 := v3.stay f2
  have hd1 : Dat e m3 H3 y1 d1 := (hy1.stay st12).stay st23
  have hd2 : Dat e m3 H3 y2 d2 := hy2.stay st23
  cases hx : itemsOf d1 with
  | none => rw [hx] at w3; exact w3.elim
  | some xs =>
    cases hy : itemsOf d2 with
    | none => rw [hx, hy] at w3; exact w3.elim
    | some ys =>
      cases hz : itemsOf d3 with
      | none => rw [hx, hy, hz] at w3; exact w3.elim
      | some zs =>
        rw [hx, hy, hz] at w3
        obtain ⟨b1, q1, vs, rfl, t1, l1⟩ := src_of G.hK hd1 hx
        obtain ⟨b2, q2, us, rfl, t2, l2⟩ := src_of G.hK hd2 hy
        obtain ⟨b3, q3, ws, rfl, t3, l3⟩ := src_of G.hK hy3 hz
        exact ⟨b1, b2, b3, q1, q2, q3, vs, us, ws, rfl, l1 _ _ .refl, l2 _ _ .refl, l3 _ _ .refl, w3 m3 H3 .refl f3 _ (wk_zp3 l1 l2 l3 t1 t2 t3)⟩
end
end GP

set_option Elab.async false
set_option linter.all false
set_option maxRecDepth 100000
set_option autoImplicit false
set_option maxHeartbeats 1000000

namespace GP
open PySem PySem.Spec L2

section
variable {e : En} {σ σ1 : St} {H H1 H2 : Hp} {m m1 m2 : List Addr} {s s1 s2 : S}
theorem put_get {i j : Nat} {x : Sl} : (s.put i x).ρ[j]? = if i = j then (s.ρ[j]?).map (fun _ => x) else s.ρ[j]? := by
  show (s.ρ.set i x)[j]? = _
  by_cases h : i = j
  · subst h; rw [if_pos rfl, List.getElem?_set_self']; cases s.ρ[i]? <;> rfl
  · rw [if_neg h, List.getElem?_set_ne h]
theorem put_len {i : Nat} {x : Sl} : (s.put i x).ρ.length = s.ρ.length := List.length_set
theorem wipeS_get : ∀ (l : List Nat) (j : Nat), (wipeS l s).ρ[j]? = if j ∈ l then (s.ρ[j]?).map (fun _ => .emp) else s.ρ[j]?
  | [], j => by simp [wipeS]
  | i :: l, j => by
    show ((wipeS l s).put i .emp).ρ[j]? = _
    rw [put_get, wipeS_get l j]
    by_cases h : i = j
    · subst h; rw [if_pos rfl, if_pos List.mem_cons_self]; split <;> (cases s.ρ[i]? <;> rfl)
    · rw [if_neg h]; by_cases h2 : j ∈ l
      · rw [if_pos h2, if_pos (by simp [h2])]
      · rw [if_neg h2, if_neg (by simp [h2, Ne.symm h])]
theorem wipeS_W : ∀ l : List Nat, (wipeS l s).W = s.W
  | [] => rfl
  | i :: l => wipeS_W l
theorem wipeS_len : ∀ l : List Nat, (wipeS l s).ρ.length = s.ρ.length
  | [] => rfl
  | i :: l => by show ((wipeS l s).put i .emp).ρ.length = _; rw [put_len, wipeS_len l]
theorem wipe_get : ∀ (l : List Nat) (j : Nat), (wipe σ l)[j]? = if j ∈ l then (σ[j]?).map (fun _ => none) else σ[j]?
  | [], j => by simp [wipe]
  | i :: l, j => by
    show ((wipe σ l).set i none)[j]? = _
    by_cases h : i = j
    · subst h; rw [List.getElem?_set_self', wipe_get l i, if_pos List.mem_cons_self]; split <;> (cases σ[i]? <;> rfl)
    · rw [List.getElem?_set_ne h, wipe_get l j]; by_cases h2 : j ∈ l
      · rw [if_pos h2, if_pos (by simp [h2])]
      · rw [if_neg h2, if_neg (by simp [h2, Ne.symm h])]
theorem wipe_eq {l : List Nat} (hl : σ.length = σ1.length) (h : ∀ j, j ∉ l → σ[j]? = σ1[j]?) : wipe σ l = wipe σ1 l := by
  apply List.ext_getElem?
  intro j
  rw [wipe_get, wipe_get]
  by_cases hj : j ∈ l
  · rw [if_pos hj, if_pos hj]
    by_cases h2 : j < σ.length
    · rw [List.getElem?_eq_getElem h2, List.getElem?_eq_getElem (hl ▸ h2)]; rfl
    · rw [List.getElem?_eq_none (by omega), List.getElem?_eq_none (by omega)]
  · rw [if_neg hj, if_neg hj, h j hj]
theorem wipe_wipe (σ : St) (l : List Nat) : wipe (wipe σ l) l = wipe σ l := by
  apply List.ext_getElem?
  intro j
  rw [wipe_get, wipe_get]
  by_cases hj : j ∈ l
  · rw [if_pos hj, if_pos hj]; cases σ[j]? <;> rfl
  · rw [if_neg hj, if_neg hj]
theorem restore_get {ρ0 : List Sl} : ∀ (l : List Nat) (j : Nat), (restore ρ0 l s).ρ[j]? = if j ∈ l then (s.ρ[j]?).map (fun _ => (ρ0[j]?).getD .emp) else s.ρ[j]?
  | [], j => by simp [restore]
  | i :: l, j => by
    show ((restore ρ0 l s).put i ((ρ0[i]?).getD .emp)).ρ[j]? = _
    rw [put_get, restore_get l j]
    by_cases h : i = j
    · subst h; rw [if_pos rfl, if_pos List.mem_cons_self]; split <;> (cases s.ρ[i]? <;> rfl)
    · rw [if_neg h]; by_cases h2 : j ∈ l
      · rw [if_pos h2, if_pos (by simp [h2])]
      · rw [if_neg h2, if_neg (by simp [h2, Ne.symm h])]
theorem restore_W {ρ0 : List Sl} : ∀ l : List Nat, (restore ρ0 l s).W = s.W
  | [] => rfl
  | i :: l => restore_W l
theorem restore_len {ρ0 : List Sl} : ∀ l : List Nat, (restore ρ0 l s).ρ.length = s.ρ.length
  | [] => rfl
  | i :: l => by show ((restore ρ0 l s).put i _).ρ.length = _; rw [put_len, restore_len l]


theorem own_wipe {l : List Nat} {i : Nat} {a : Addr} (w : OwnAt (wipe σ l) (wipeS l s) i a) : OwnAt σ s i a ∧ i ∉ l := by
  obtain ⟨h, sl, hs, ho⟩ := w
  rw [wipe_get] at h
  by_cases hi : i ∈ l
  · rw [if_pos hi] at h; cases q : σ[i]? <;> rw [q] at h <;> cases h
  · rw [if_neg hi] at h
    rw [wipeS_get, if_neg hi] at hs
    exact ⟨⟨h, sl, hs, ho⟩, hi⟩
theorem wr_wipe {l : List Nat} {a : Addr} (w : Wr (wipe σ l) m (wipeS l s) a) : Wr σ m s a := by
  rcases w with w | ⟨i, w⟩
  · exact .inl w
  · exact .inr ⟨i, (own_wipe w).1⟩
theorem SlAt.of_eq {σ' : St} {i : Nat} {sl : Sl} (x : SlAt e m H σ i sl) (h : σ'[i]? = σ[i]?) : SlAt e m H σ' i sl := by
  cases sl with
  | emp => trivial
  | val d => obtain ⟨v, q, r⟩ := x; exact ⟨v, h.trans q, r⟩
  | own xs => obtain ⟨a, vs, q, r⟩ := x; exact ⟨a, vs, h.trans q, r⟩
  | ownd ks us => obtain ⟨a, vs, q, r⟩ := x; exact ⟨a, vs, h.trans q, r⟩
  | keys ks => obtain ⟨a, vs, q, r⟩ := x; exact ⟨a, vs, h.trans q, r⟩
theorem Fm.wipe (f : Fm e σ H m s) (l : List Nat) : Fm e (L2.wipe σ l) H m (wipeS l s) where
  len := by rw [L2.wipe_length, wipeS_len]; exact f.len
  slot := fun i sl hs => by
    rw [wipeS_get] at hs
    by_cases hi : i ∈ l
    · rw [if_pos hi] at hs; cases q : s.ρ[i]? <;> rw [q] at hs <;> cases hs; trivial
    · rw [if_neg hi] at hs
      exact (f.slot i sl hs).of_eq (by rw [wipe_get, if_neg hi])
  wl := by rw [wipeS_W]; exact f.wl
  wok := fun n a o h1 h2 => by rw [wipeS_W] at h2; exact f.wok n a o h1 h2
  wn := f.wn
  od := fun i j a h1 h2 => f.od i j a (own_wipe h1).1 (own_wipe h2).1
  om := fun i a h => f.om i a (own_wipe h).1
theorem isData_cases {o : Option Sl} (h : isData o = true) : o = some .emp ∨ ∃ d, o = some (.val d) := by
  unfold isData at h
  split at h
  · exact .inr ⟨_, rfl⟩
  · exact .inl rfl
  · cases h
theorem own_restore {l : List Nat} {i : Nat} {a : Addr} (hd : ∀ i ∈ l, isData s1.ρ[i]? = true) (w : OwnAt σ (restore s1.ρ l s2) i a) : OwnAt (L2.wipe σ l) (wipeS l s2) i a := by
  obtain ⟨h, sl, hs, ho⟩ := w
  rw [restore_get] at hs
  by_cases hi : i ∈ l
  · rw [if_pos hi] at hs
    rcases isData_cases (hd i hi) with q | ⟨d, q⟩ <;> rw [q] at hs <;> cases q2 : s2.ρ[i]? <;> rw [q2] at hs <;> cases hs <;> cases ho
  · rw [if_neg hi] at hs
    exact ⟨by rw [wipe_get, if_neg hi]; exact h, sl, by rw [wipeS_get, if_neg hi]; exact hs, ho⟩
theorem wr_restore {l : List Nat} {a : Addr} (hd : ∀ i ∈ l, isData s1.ρ[i]? = true) (w : Wr σ m (restore s1.ρ l s2) a) : Wr (L2.wipe σ l) m (wipeS l s2) a := by
  rcases w with w | ⟨i, w⟩
  · exact .inl w
  · exact .inr ⟨i, own_restore hd w⟩
theorem Fm.restore {l : List Nat} (f0 : Fm e σ H1 m1 s1) (hd : ∀ i ∈ l, isData s1.ρ[i]? = true) (f : Fm e (L2.wipe σ l) H2 m2 (wipeS l s2)) (st : Stay m1 H1 m2 H2) : Fm e σ H2 m2 (GP.restore s1.ρ l s2) where
  len := by
    have := f.len
    rw [L2.wipe_length, wipeS_len] at this
    rw [restore_len]; exact this
  slot := fun i sl hs => by
    rw [restore_get] at hs
    by_cases hi : i ∈ l
    · rw [if_pos hi] at hs
      rcases isData_cases (hd i hi) with q | ⟨d, q⟩ <;> rw [q] at hs <;> cases q2 : s2.ρ[i]? <;> rw [q2] at hs <;> cases hs
      · trivial
      · obtain ⟨v, a, b⟩ := f0.slot i _ q
        exact ⟨v, a, b.stay st⟩
    · rw [if_neg hi] at hs
      exact (f.slot i sl (by rw [wipeS_get, if_neg hi]; exact hs)).of_eq (by rw [wipe_get, if_neg hi])
  wl := by have := f.wl; rw [wipeS_W] at this; rw [restore_W]; exact this
  wok := fun n a o h1 h2 => f.wok n a o h1 (by rw [restore_W] at h2; rw [wipeS_W]; exact h2)
  wn := f.wn
  od := fun i j a h1 h2 => f.od i j a (own_restore hd h1) (own_restore hd h2)
  om := fun i a h => f.om i a (own_restore hd h)

theorem own_put2 {i j : Nat} {a : Addr} {d : D} {v : V} (w : OwnAt (σ.set i (some v)) (s.put i (.val d)) j a) : OwnAt σ s j a := by
  obtain ⟨h, sl, hs, ho⟩ := w
  rw [put_get] at hs
  by_cases e : i = j
  · subst e; rw [if_pos rfl] at hs; cases q : s.ρ[i]? <;> rw [q] at hs <;> cases hs; cases ho
  · rw [if_neg e] at hs
    rw [List.getElem?_set_ne e] at h
    exact ⟨h, sl, hs, ho⟩
theorem Fm.put1 {i : Nat} {v : V} {d : D} (f : Fm e σ H m s) (hd : Dat e m H v d) : Fm e (σ.set i (some v)) H m (s.put i (.val d)) ∧ ∀ {σ0 m0 s0 H0}, Evo σ0 m0 s0 H0 σ m s H → Evo σ0 m0 s0 H0 (σ.set i (some v)) m (s.put i (.val d)) H := by
  refine ⟨⟨?_, fun j sl hj => ?_, f.wl, f.wok, f.wn, fun j l a h1 h2 => f.od j l a (own_put2 h1) (own_put2 h2), fun j a h => f.om j a (own_put2 h)⟩, fun {σ0 m0 s0 H0} w => ⟨w.keep, fun b x => w.grow b ?_, w.wm, w.there⟩⟩
  · rw [List.length_set, put_len]; exact f.len
  · rw [put_get] at hj
    by_cases e : i = j
    · subst e
      rw [if_pos rfl] at hj
      cases q : s.ρ[i]? <;> rw [q] at hj <;> cases hj
      have hi : i < σ.length := by rw [f.len]; exact get_lt q
      exact ⟨v, List.getElem?_set_self hi, hd⟩
    · rw [if_neg e] at hj
      exact (f.slot j sl hj).of_eq (List.getElem?_set_ne e)
  · rcases x with x | ⟨j, x⟩
    · exact .inl x
    · exact .inr ⟨j, own_put2 x⟩
end


def gNames : List Nat → TGs
  | [] => gNil
  | i :: l => gCons (gName i) (gNames l)
def gUn (K : PySem.W.Frag) (l : List Nat) : TG := fun v σ H Q => gTup K l.length (gNames l) v σ H Q ∨ gLst K l.length (gNames l) v σ H Q
def TGt (K : PySem.W.Frag) : CG → TG
  | .nm i => gName i
  | .tp l => gUn K l
section
variable {e : En} {X : Cx} {σ : St} {H : Hp} {m : List Addr} {s s' : S}

structure Off (l : List Nat) (σ σ' : St) : Prop where
  len : σ.length = σ'.length
  off : ∀ j, j ∉ l → σ[j]? = σ'[j]?
theorem i_setL : ∀ {l : List Nat} {ds : List D} {vs : List V} {σ : St} {s : S} {Q : St → Hp → Prop}, setL s l ds = some s' → DatL e m H vs ds → Fm e σ H m s →
    (∀ σ', Fm e σ' H m s' → (∀ {σ0 m0 s0 H0}, Evo σ0 m0 s0 H0 σ m s H → Evo σ0 m0 s0 H0 σ' m s' H) → Off l σ σ' → Q σ' H) → gNames l vs σ H Q
  | [], [], _, σ, s, Q, h, .nil, f, k => by cases h; exact ⟨rfl, k σ f (fun w => w) ⟨rfl, fun _ _ => rfl⟩⟩
  | i :: l, d :: ds, _, σ, s, Q, h, .cons hd t, f, k => by
    refine ⟨_, _, rfl, ?_⟩
    obtain ⟨f1, w1⟩ := f.put1 (i := i) hd
    refine i_setL (s := s.put i (.val d)) h t f1 fun σ' f' w' o => k σ' f' (fun w => w' (w1 w)) ⟨by rw [← o.len, List.length_set], fun j hj => ?_⟩
    rw [← o.off j fun z => hj (List.mem_cons_of_mem _ z), List.getElem?_set_ne fun z => hj (by rw [z]; exact List.mem_cons_self)]
  | [], _ :: _, _, _, _, _, h, _, _, _ => by cases h
  | _ :: _, [], _, _, _, _, h, _, _, _ => by cases h
theorem setL_len : ∀ {l : List Nat} {ds : List D} {s s' : S}, setL s l ds = some s' → ds.length = l.length
  | [], [], _, _, _ => rfl
  | _ :: l, _ :: ds, _, _, h => by rw [List.length_cons, List.length_cons, setL_len (l := l) (ds := ds) h]
  | [], _ :: _, _, _, h => by cases h
  | _ :: _, [], _, _, h => by cases h
theorem i_bind (hK : X.K = e.K) {tg : CG} {d : D} {v : V} {Q : St → Hp → Prop} (h : bindG s tg d = some s') (hd : Dat e m H v d) (f : Fm e σ H m s)
    (k : ∀ σ', Fm e σ' H m s' → (∀ {σ0 m0 s0 H0}, Evo σ0 m0 s0 H0 σ m s H → Evo σ0 m0 s0 H0 σ' m s' H) → Off tg.ix σ σ' → Q σ' H) : TGt X.K tg v σ H Q := by
  cases tg with
  | nm i =>
    cases h
    obtain ⟨f1, w1⟩ := f.put1 (i := i) hd
    exact k _ f1 (fun w => w1 w) ⟨by rw [List.length_set], fun j hj => (List.getElem?_set_ne fun z => hj (by rw [z]; exact List.mem_cons_self)).symm⟩
  | tp l =>
    cases d with
    | tup ds => cases hd with | tup q t => exact .inl ⟨_, _, rfl, sqT hK q, by rw [t.length]; exact setL_len h, i_setL h t f fun σ' a b c => k σ' a b c⟩
    | lst ds => cases hd with | lst q t => exact .inr ⟨_, _, rfl, sqL hK q, by rw [t.length]; exact setL_len h, i_setL h t f fun σ' a b c => k σ' a b c⟩
    | _ => cases h

inductive Tgs (X : Cx) : List Expr → List Nat → Prop
  | nil : Tgs X [] []
  | cons {x : Str} {p : Pos} {i : Nat} {es : List Expr} {l : List Nat} : X.N[i]? = some x → Loc X.env.scope x → (X.fn x = true ∨ X.env.scope.names.lookup x = some .local) → Tgs X es l → Tgs X (.Name x p :: es) (i :: l)
theorem Tgs.pgs (hN : X.N.Nodup) : ∀ {es : List Expr} {l : List Nat}, Tgs X es l → PGs X es (gNames l)
  | _, _, .nil => pgs_nil
  | _, _, .cons h1 h2 h3 t => pgs_cons (pg_name hN h1 h2 h3) (Tgs.pgs hN t) rfl
theorem Tgs.len : ∀ {es : List Expr} {l : List Nat}, Tgs X es l → (assignEach es X.env).length = l.length
  | _, _, .nil => rfl
  | _, _, .cons _ _ _ t => by show (assignEach _ X.env).length + 1 = _ + 1; rw [Tgs.len t]
theorem Tgs.nostar : ∀ {es : List Expr} {l : List Nat}, Tgs X es l → (assignEach es X.env).findIdx? (·.1) = none
  | _, _, .nil => rfl
  | _, _, .cons _ _ _ t => by
    have := Tgs.nostar t
    show (List.findIdx? _ ((false, _) :: assignEach _ X.env)) = none
    rw [List.findIdx?_cons]
    simp [this]
theorem pg_un (hc : X.calm = true) (hN : X.N.Nodup) {es : List Expr} {l : List Nat} {k : Nat} {p : Pos} (t : Tgs X es l) : PG X (.Tuple es k p) (gUn X.K l) :=
  ⟨fun pins s σ H v u Q I r h => by
    rcases h with h | h
    · exact (pg_tup hc (t.pgs hN) t.len t.nostar).run pins s σ H v u Q I r h
    · exact (pg_lst hc (t.pgs hN) t.len t.nostar).run pins s σ H v u Q I r h⟩
end
end GP

set_option Elab.async false
set_option linter.all false
set_option maxRecDepth 100000
set_option autoImplicit false
set_option maxHeartbeats 1000000

namespace GP
open PySem PySem.Spec L2

def WF : WX := fun _ _ _ _ => False
section
variable {e : En} {Wx : WX} {σ σ1 σ2 : St} {m m1 m2 : List Addr} {s s1 s2 : S} {H H1 H2 : Hp}
theorem Evo.wipeR (v : Evo σ1 m1 s1 H1 σ2 m2 s2 H2) (l : List Nat) : Evo σ1 m1 s1 H1 (wipe σ2 l) m2 (wipeS l s2) H2 := ⟨v.keep, fun b w => v.grow b (wr_wipe w), v.wm, v.there⟩
theorem Evo.restoreLR {l : List Nat} (hd : ∀ i ∈ l, isData s1.ρ[i]? = true) (v : Evo (wipe σ l) m1 (wipeS l s1) H1 (wipe σ l) m2 (wipeS l s2) H2) : Evo σ m1 s1 H1 σ m2 (restore s1.ρ l s2) H2 :=
  ⟨fun b o h n => v.keep b o h fun w => n (wr_wipe w), fun b w => (v.grow b (wr_restore hd w)).imp wr_wipe id, v.wm, v.there⟩
theorem Evo.nwr (v : Evo σ1 m1 s1 H1 σ2 m2 s2 H2) {p : Addr} {o : HO} (h : H1 p = some o) (n : ¬ Wr σ1 m1 s1 p) : ¬ Wr σ2 m2 s2 p ∧ H2 p = some o :=
  ⟨fun w => (v.grow p w).elim n (fun z => (by rw [h] at z; cases z)), v.keep p o h n⟩
theorem Run.of {α : Type} {r : R α} {a : α} {s' : S} {k : α → List Addr → S → Hp → Prop} (h : r = some (.val a, s')) (q : ∀ m' H', Evo σ m s H σ m' s' H' → Fm e σ H' m' s' → k a m' s' H') : Run e Wx σ m s H r k := by
  subst h; exact q
theorem bnd_some {α β : Type} {r : R α} {f : α → S → R β} {b : β} {s' : S} (h : bnd r f = some (.val b, s')) : ∃ a s1, r = some (.val a, s1) ∧ f a s1 = some (.val b, s') := by
  match r, h with
  | some (.val a, s1), h => exact ⟨a, s1, rfl, h⟩

structure CpI (e : En) (tn : D → S → R (Option D)) (own : List Nat) (σ : St) (m1 : List Addr) (s1 : S) (H1 : Hp) (xs : List D) (ds : List D) (sF : S) (DD : Addr) (i : Nat) (H : Hp) : Prop where
  ex : ∃ (m' : List Addr) (s' : S) (acc : List V) (done rest : List D), H DD = some (.lst acc) ∧ DatL e m' H acc done ∧ acc.length ≤ i ∧ ds = done ++ rest ∧ turnsC tn (xs.drop i) s' = some (.val rest, sF) ∧
    Fm e (wipe σ own) H m' (wipeS own s') ∧ Evo (wipe σ own) m1 (wipeS own s1) H1 (wipe σ own) m' (wipeS own s') H ∧ ¬ Wr (wipe σ own) m' (wipeS own s') DD
theorem i_comp {X : Cx} (hK : X.K = e.K) {ri : S → R (List D)} {tg : CG} {rc : S → R Bool} {re : S → R Sl} {own : List Nat} {Q : VK} (hop : ∀ i ∈ tg.ix, i ∈ own) (w : TO e Wx (compR ri tg rc re own) σ H Q) :
    tLc (TIt e Wx ri) (TGt X.K tg) (TB e WF rc) (TD e WF fun s => frz (re s)) own σ H Q := by
  obtain ⟨m, s, f, w⟩ := w
  refine ⟨m, s, f, ?_⟩
  unfold compR at w
  refine w.split.imp fun xs m1 s1 H1 v1 f1 w1 J wk DD hDD => ?_
  split at w1
  case isFalse => exact w1.elim
  rename_i hdat
  have hdat : ∀ i ∈ own, isData s1.ρ[i]? = true := by simpa using hdat
  cases q : turnsC (turnR tg rc re own) xs s1 with
  | none => rw [q] at w1; exact w1.elim
  | some o =>
  obtain ⟨o, sF⟩ := o
  cases o with
  | exc x => rw [q] at w1; exact w1.elim
  | val ds =>
  rw [q] at w1
  change Run e Wx σ m1 s1 H1 (if sizeB xs.length = true then okv (Sl.own ds) (restore s1.ρ own sF) else none) _ at w1
  split at w1
  case isFalse => exact w1.elim
  rename_i hsz
  have hsz := sizeB_le hsz
  refine ⟨fun i n H => n = xs.length - i ∧ i ≤ xs.length ∧ CpI e (turnR tg rc re own) own σ m1 s1 H1 xs ds sF DD i H, ⟨xs.length, by simp, Nat.zero_le _, ?_⟩, ?_⟩
  · have fw := f1.wipe own
    exact ⟨m1, s1, [], [], ds, upd_same, .nil, Nat.le_refl _, rfl, q, fw.new hDD, Evo.new .refl hDD, fun w => fw.free hDD w⟩
  · rintro i n H ⟨rfl, hi, m', s', acc, done, rest, hD, hacc, hlen, hds, ht, fw, vw, nw⟩
    have st1 : Stay m1 H1 m' H := vw.stay (f1.wipe own)
    by_cases hlt : i < xs.length
    · refine .inr ⟨wk.go i m' H hlt st1, fun H' => i + 1 ≤ xs.length ∧ CpI e (turnR tg rc re own) own σ m1 s1 H1 xs ds sF DD (i + 1) H', fun H' p => ⟨xs.length - (i + 1), by omega, rfl, p.1, p.2⟩, fun x H' y => ?_⟩
      have hx : xs[i]? = some xs[i] := List.getElem?_eq_getElem hlt
      obtain ⟨nw1, dx⟩ := wk.yld i m' H x H' _ hx st1 y
      rw [List.drop_eq_getElem_cons hlt] at ht
      unfold turnsC at ht
      obtain ⟨o, s2, h1, h2⟩ := bnd_some ht
      obtain ⟨rest', s3, h3, h4⟩ := bnd_some h2
      cases h4
      unfold turnR at h1
      split at h1
      · cases h1
      rename_i sb hsb
      obtain ⟨k, s4, h5, h6⟩ := bnd_some h1
      have fw' : Fm e (wipe σ own) H' m' (wipeS own s') := nw1.fm fw
      have vw' : Evo (wipe σ own) m' (wipeS own s') H (wipe σ own) m' (wipeS own s') H' := nw1.evo
      obtain ⟨nwD, hD'⟩ := vw'.nwr hD nw
      refine i_bind hK hsb dx fw' fun σ2 f2 v2 off => ?_
      have vb := v2 vw'
      obtain ⟨nwD2, hD2⟩ := vb.nwr hD nw
      have hwσ : wipe σ2 own = wipe σ own := by
        rw [← wipe_wipe σ own]
        exact (wipe_eq off.len fun j hj => off.off j fun z => hj (hop j z)).symm
      refine ⟨hwσ, m', sb, f2, Run.of h5 fun m3 H3 v3 f3 => ?_⟩
      have vb3 := vb.trans v3
      obtain ⟨nwD3, hD3⟩ := vb3.nwr hD nw
      cases k with
      | false =>
        cases h6
        dsimp only
        rw [if_neg (by decide)]
        refine ⟨hlt, m3, s2, acc, done, _, hD3, DatL.stay (vb3.stay fw) hacc, by omega, hds, h3, hwσ ▸ f3.wipe own, hwσ ▸ (vw.trans vb3).wipeR own, fun w => nwD3 (wr_wipe (by rw [hwσ]; exact w))⟩
      | true =>
        dsimp only
        rw [if_pos rfl] at h6 ⊢
        obtain ⟨d, s5, h7, h8⟩ := bnd_some h6
        cases h8
        refine ⟨m3, s4, f3, Run.of h7 fun m4 H4 v4 f4 u du => ?_⟩
        have vb4 := vb3.trans v4
        obtain ⟨nwD4, hD4⟩ := vb4.nwr hD nw
        have stD : Stay m4 H4 m4 (upd H4 DD (.lst (acc ++ [u]))) := ⟨fun b o q n => by rw [upd_ne (fun z => by subst z; rw [hD4] at q; cases q; cases n)]; exact q, fun _ _ h => h⟩
        have vD : Evo (wipe σ own) m1 (wipeS own s1) H1 (wipe σ own) m4 (wipeS own s2) (upd H4 DD (.lst (acc ++ [u]))) := by
          have := (vw.trans vb4).wipeR own
          rw [hwσ] at this
          exact this.new hDD
        have fD : Fm e σ2 (upd H4 DD (.lst (acc ++ [u]))) m4 s2 := f4.upd nwD4 fun o q => by rw [hD4] at q; cases q; rfl
        refine ⟨acc, hD4, by omega, hlt, m4, s2, acc ++ [u], done ++ [d], rest', upd_same, DatL.append (DatL.stay stD (DatL.stay (vb4.stay fw) hacc)) (.cons (du.stay stD) .nil), by simp; omega, by rw [hds, List.append_assoc]; rfl, h3,
          hwσ ▸ fD.wipe own, vD, fun w => nwD4 (wr_wipe (by rw [hwσ]; exact w))⟩
    · have hi' : i = xs.length := by omega
      subst hi'
      refine .inl ⟨wk.stop m' H st1, ?_⟩
      rw [List.drop_length] at ht
      cases ht
      rw [List.append_nil] at hds
      subst hds
      have vr := vw.restoreLR hdat
      refine w1 m' H vr (Fm.restore f1 hdat fw st1) _ ⟨DD, acc, rfl, v1.fresh hDD, hD, hacc, fun w => nw (wr_restore hdat w)⟩
end
end GP

set_option Elab.async false
set_option linter.all false
set_option maxRecDepth 100000
set_option autoImplicit false
set_option maxHeartbeats 1000000

namespace GP
open PySem PySem.Spec L2

structure Simple (fd : FuncData) (ps : List Str) : Prop where
  po : fd.params.posonlyargs = []
  ar : fd.params.args.map (fun a => a.arg) = ps
  va : fd.params.vararg = none
  ko : fd.params.kwonlyargs = []
  kw : fd.params.kwarg = none
  df : fd.defaults = .none
  nd : ps.Nodup
theorem zip_look {α : Type} : ∀ (ps : List Str) (us : List α) (i : Nat) (p : Str) (u : α), ps.Nodup → ps[i]? = some p → us[i]? = some u → (ps.zip us).lookup p = some u
  | [], _, _, _, _, _, h, _ => by simp at h
  | q :: ps, [], i, p, u, _, _, h => by simp at h
  | q :: ps, v :: us, 0, p, u, _, h, h2 => by
    simp at h h2; subst h; subst h2
    rw [List.zip_cons_cons, List.lookup_cons, beq_self_eq_true]
  | q :: ps, v :: us, i + 1, p, u, nd, h, h2 => by
    simp at h h2
    rw [List.nodup_cons] at nd
    rw [List.zip_cons_cons, List.lookup_cons]
    have : (p == q) = false := beq_eq_false_iff_ne.mpr fun z => nd.1 (by rw [← z]; exact List.mem_of_getElem? h)
    rw [this]
    exact zip_look ps us i p u nd.2 h h2
theorem zip_none {α : Type} : ∀ (ps : List Str) (us : List α) (p : Str), p ∉ ps.take us.length → (ps.zip us).lookup p = none
  | [], _, _, _ => by simp
  | q :: ps, [], _, _ => by simp
  | q :: ps, v :: us, p, h => by
    rw [List.length_cons, List.take_succ_cons, List.mem_cons, not_or] at h
    rw [List.zip_cons_cons, List.lookup_cons, beq_eq_false_iff_ne.mpr h.1]
    exact zip_none ps us p h.2
theorem look_app {α : Type} {l l' : List (Str × α)} {p : Str} : (l ++ l').lookup p = (l.lookup p).or (l'.lookup p) := by
  induction l with
  | nil => rfl
  | cons a l ih =>
    rw [List.cons_append, List.lookup_cons, List.lookup_cons]
    cases h : p == a.1 with
    | true => rfl
    | false => exact ih

structure KwOk (ps : List Str) (n : Nat) (ks : List Str) : Prop where
  le : n ≤ ps.length
  nd : ks.Nodup
  sub : ∀ k ∈ ks, k ∈ ps.drop n
  all : ∀ p ∈ ps.drop n, p ∈ ks
def kwOk (ps : List Str) (n : Nat) (ks : List Str) : Bool := decide (n ≤ ps.length) && decide ks.Nodup && (ks.all fun k => decide (k ∈ ps.drop n)) && (ps.drop n).all fun p => decide (p ∈ ks)
theorem kwOk_of {ps : List Str} {n : Nat} {ks : List Str} (h : kwOk ps n ks = true) : KwOk ps n ks := by
  unfold kwOk at h
  simp only [Bool.and_eq_true, decide_eq_true_eq, List.all_eq_true] at h
  exact ⟨h.1.1.1, h.1.1.2, h.1.2, h.2⟩
theorem forIn_app {l : List (Str × Value)} {f : Str × Value → List (Str × Value) × List (Str × Value) → Sem (ForInStep (List (Str × Value) × List (Str × Value)))} {a0 : List (Str × Value)}
    (h : ∀ l1 x l2, l = l1 ++ x :: l2 → f x (a0 ++ l1, []) = pure (.yield (a0 ++ l1 ++ [x], []))) : forIn l (a0, ([] : List (Str × Value))) f = pure (a0 ++ l, []) := by
  induction l generalizing a0 with
  | nil => simp
  | cons x l ih =>
    rw [List.forIn_cons]
    have := h [] x l rfl
    rw [List.append_nil] at this
    rw [this, pure_bind]
    show forIn l (a0 ++ [x], []) f = _
    rw [ih fun l1 y l2 e => ?_]
    · simp
    · have := h (x :: l1) y l2 (by rw [e]; rfl)
      simpa using this
theorem zip_split {ks : List Str} {ws : List Value} {l1 l2 : List (Str × Value)} {x : Str × Value} (e : ks.zip ws = l1 ++ x :: l2) (hw : ws.length = ks.length) : x.1 ∈ ks.drop l1.length ∧ l1 = (ks.take l1.length).zip (ws.take l1.length) := by
  induction l1 generalizing ks ws with
  | nil =>
    cases ks with
    | nil => simp at e
    | cons a ks => cases ws with
      | nil => simp at e
      | cons b ws => simp at e; obtain ⟨rfl, _⟩ := e; exact ⟨by simp, by simp⟩
  | cons y l1 ih =>
    cases ks with
    | nil => simp at e
    | cons a ks => cases ws with
      | nil => simp at e
      | cons b ws =>
        simp at e
        obtain ⟨rfl, e⟩ := e
        obtain ⟨i1, i2⟩ := ih e (by simpa using hw)
        exact ⟨by simpa using i1, by simpa using i2⟩
theorem bind_raw {fd : FuncData} {ps : List Str} (S : Simple fd ps) {us ws : List Value} {ks : List Str} (hw : ws.length = ks.length) (k : KwOk ps us.length ks) :
    bindArgs fd ⟨us, ks.zip ws⟩ = pure (ps.filterMap fun n => ((ps.zip us ++ ks.zip ws).lookup n).map (n, ·)) := by
  obtain ⟨h1, h2, h3, h4, h5, h6, nd⟩ := S
  have hnd2 := nd
  rw [← List.take_append_drop us.length ps, List.nodup_append] at hnd2
  have key : ∀ (ks2 : List Str) (ws2 : List Value) (ks1 : List Str) (ws1 : List Value), ks = ks1 ++ ks2 → ws = ws1 ++ ws2 → ks1.length = ws1.length → ks2.length = ws2.length → ∀ p ∈ ks2, ((ps.zip us ++ ks1.zip ws1).lookup p) = none := by
    intro ks2 ws2 ks1 ws1 e1 e2 l1 l2 p hp
    rw [look_app, zip_none, zip_none]
    · rfl
    · rw [← l1, List.take_length]
      intro z
      have := k.nd
      rw [e1, List.nodup_append] at this
      exact this.2.2 p z p hp rfl
    · intro z
      exact hnd2.2.2 p z p (k.sub p (by rw [e1]; exact List.mem_append_right _ hp)) rfl
  have some_all : ∀ p ∈ ps, ((ps.zip us ++ ks.zip ws).lookup p).isSome = true := by
    intro p hp
    rw [← List.take_append_drop us.length ps] at hp
    rw [look_app]
    rcases List.mem_append.mp hp with hp | hp
    · obtain ⟨i, hi, rfl⟩ := List.mem_iff_getElem.mp hp
      rw [List.length_take] at hi
      rw [zip_look ps us i _ (us[i]'(by omega)) nd (by rw [List.getElem_take, List.getElem?_eq_getElem]) (List.getElem?_eq_getElem _)]
      rfl
    · obtain ⟨i, hi, rfl⟩ := List.mem_iff_getElem.mp (k.all p hp)
      rw [Option.isSome_or, zip_look ks ws i _ (ws[i]'(by omega)) k.nd (List.getElem?_eq_getElem _) (List.getElem?_eq_getElem _)]
      simp
  have nn : seqItems? Value.none = pure none := rfl
  have fil : List.filter (fun n => (List.lookup n (ps.zip us ++ ks.zip ws)).isNone) ps = [] := by
    rw [List.filter_eq_nil_iff]
    intro p hp
    have := some_all p hp
    rw [Option.isSome_iff_ne_none] at this
    simpa using this
  unfold bindArgs
  simp only [h1, h2, h3, h4, h5, h6, List.map_nil, List.nil_append, List.append_nil]
  rw [forIn_app]
  · simp only [pure_bind, nn, Option.getD_none, List.drop_nil, List.length_nil, Nat.sub_zero, List.take_length, List.drop_length, List.zip_nil_left, List.zip_nil_right, List.forIn_nil, fil, List.isEmpty_nil, Bool.not_true, Bool.false_eq_true, if_false]
    rw [if_neg (by have := k.le; simp; omega)]
  · intro l1 x l2 e
    have hx : x ∈ ks.zip ws := by rw [e]; simp
    have hx1 : x.1 ∈ ps := List.mem_of_mem_drop (k.sub _ (List.of_mem_zip hx).1)
    rw [if_pos (by simp [hx1])]
    rw [if_neg]
    obtain ⟨e1, e2⟩ := zip_split e hw
    rw [show x = (x.1, x.2) from rfl]
    have := key (ks.drop l1.length) (ws.drop l1.length) (ks.take l1.length) (ws.take l1.length) (by simp) (by simp) (by simp [hw]) (by simp [hw]) x.1 e1
    rw [e2, this]
    simp

def kwIx (ps : List Str) (n : Nat) (ks : List Str) : List Nat := (ps.drop n).map fun p => ks.idxOf p
theorem fm_zip {α : Type} (L : List (Str × α)) : ∀ (ps : List Str) (us : List α), ps.length = us.length → (∀ (i : Nat) (p : Str) (u : α), ps[i]? = some p → us[i]? = some u → L.lookup p = some u) →
    (ps.filterMap fun n => (L.lookup n).map (n, ·)) = ps.zip us
  | [], [], _, _ => rfl
  | [], _ :: _, h, _ => by simp at h
  | _ :: _, [], h, _ => by simp at h
  | p :: ps, u :: us, h, k => by
    rw [List.filterMap_cons, k 0 p u rfl rfl, List.zip_cons_cons]
    show (p, u) :: _ = _
    rw [fm_zip L ps us (by simpa using h) fun i q v h1 h2 => k (i + 1) q v (by simpa using h1) (by simpa using h2)]
theorem kwIx_get {ps ks : List Str} {n : Nat} (k : KwOk ps n ks) {j : Nat} (h : j ∈ kwIx ps n ks) : j < ks.length := by
  obtain ⟨p, hp, rfl⟩ := List.mem_map.mp h
  exact List.idxOf_lt_length_of_mem (k.all p hp)
theorem fmGet {α : Type} (ws : List α) : ∀ (ix : List Nat), (∀ j ∈ ix, j < ws.length) → (ix.filterMap fun i => ws[i]?).length = ix.length ∧ ∀ (i j : Nat), ix[i]? = some j → (ix.filterMap fun i => ws[i]?)[i]? = ws[j]?
  | [], _ => ⟨rfl, fun i j h => by simp at h⟩
  | x :: ix, h => by
    obtain ⟨h1, h2⟩ := fmGet ws ix fun j hj => h j (List.mem_cons_of_mem _ hj)
    have hx := h x List.mem_cons_self
    rw [List.filterMap_cons, List.getElem?_eq_getElem hx]
    refine ⟨by simp [h1], fun i j e => ?_⟩
    cases i with
    | zero => simp at e; subst e; simp [List.getElem?_eq_getElem hx]
    | succ i => simp at e ⊢; exact h2 i j e
theorem bind_kw {fd : FuncData} {ps : List Str} (S : Simple fd ps) {us ws : List Value} {ks : List Str} (hw : ws.length = ks.length) (k : KwOk ps us.length ks) :
    bindArgs fd ⟨us, ks.zip ws⟩ = pure (ps.zip (kwPut us ws (kwIx ps us.length ks))) := by
  rw [bind_raw S hw k]
  congr 1
  have nd := S.nd
  have hnd2 := nd
  rw [← List.take_append_drop us.length ps, List.nodup_append] at hnd2
  obtain ⟨l1, l2⟩ := fmGet ws (kwIx ps us.length ks) fun j hj => by rw [hw]; exact kwIx_get k hj
  have len : (kwPut us ws (kwIx ps us.length ks)).length = ps.length := by
    unfold kwPut
    rw [List.length_append, l1]
    unfold kwIx
    rw [List.length_map, List.length_drop]
    have := k.le
    omega
  refine fm_zip _ ps _ len.symm fun i p u h1 h2 => ?_
  rw [look_app]
  unfold kwPut at h2
  by_cases hi : i < us.length
  · rw [List.getElem?_append_left hi] at h2
    rw [zip_look ps us i p u nd h1 h2]
    rfl
  · rw [List.getElem?_append_right (by omega)] at h2
    have hp : (ps.drop us.length)[i - us.length]? = some p := by rw [List.getElem?_drop, show us.length + (i - us.length) = i by omega]; exact h1
    have hp2 := List.mem_of_getElem? hp
    rw [zip_none]
    · rw [l2 (i - us.length) (ks.idxOf p) (by unfold kwIx; rw [List.getElem?_map, hp]; rfl)] at h2
      rw [zip_look ks ws (ks.idxOf p) p u k.nd (by rw [List.getElem?_eq_getElem (List.idxOf_lt_length_of_mem (k.all p hp2)), List.getElem_idxOf]) h2]
      rfl
    · intro z
      exact hnd2.2.2 p z p hp2 rfl

theorem bind_pos {fd : FuncData} {ps : List Str} (S : Simple fd ps) {us : List Value} (h : us.length = ps.length) : bindArgs fd ⟨us, []⟩ = pure (ps.zip us) := by
  have k : KwOk ps us.length [] := ⟨by omega, List.nodup_nil, fun k hk => (by simp at hk), fun p hp => by rw [h, List.drop_length] at hp; exact hp⟩
  have := bind_kw S (us := us) (ws := []) (ks := []) rfl k
  rw [List.zip_nil_left] at this
  rw [this]
  unfold kwPut kwIx
  rw [h, List.drop_length]
  simp
end GP

set_option Elab.async false
set_option linter.all false
set_option maxRecDepth 100000
set_option autoImplicit false
set_option maxHeartbeats 1000000

namespace GP
open PySem PySem.Spec L2


structure FnG (P : Program) (w : World) (K : PySem.W.Frag) (mg : Str → Option Value) (base : Heap) (k : Nat) (f : Addr) (fd : FuncData) (ps : List Str) (sp : Sp) : Prop where
  len : ∀ vs H Q E, sp vs H Q E → vs.length = ps.length
  run : ∀ (A : Around) (outer : List Env) (s : Shared) (H : Hp) (args : Args) (us : List Value) (vs : List V) (Q : VK) (E : XK), Room k A → A.guards = some [] → Env0 P w K mg base A outer s H →
    BindsTo s fd args (ps.zip us) → Vals vs us → sp vs H Q E → codeAny (model P w) A (.call (.ref f) args) (CR (L2.CX P w) outer P w H s Q E) s
theorem guards_deeper {A : Around} {env : Env} (h : A.guards = some []) : (A.deeper env).guards = some [] := by
  first | exact h | (unfold Around.deeper; simp [h])
def worldS (W : List WO) : S := ⟨[], W⟩

def spG (e : En) (np : Nat) (r : List D → List WO → Option (Out D × List WO)) : Sp := fun vs H Q E => ∃ (m : List Addr) (ds : List D) (W : List WO), vs.length = np ∧ DatL e m H vs ds ∧ Fm e [] H m (worldS W) ∧ match r ds W with
  | some (.val d, W') => ∀ m' H' v, Evo [] m (worldS W) H [] m' (worldS W') H' → Fm e [] H' m' (worldS W') → Dat e m' H' v d → Q v H'
  | some (.exc x, W') => ∀ m' H' cls dx, Evo [] m (worldS W) H [] m' (worldS W') H' → Fm e [] H' m' (worldS W') → Exr e m' H' x cls dx → E cls dx H'
  | none => False

section
variable {e : En} {Wx : WX} {σ : St} {m m' : List Addr} {s : S} {H H' : Hp} {W' : List WO}
theorem own_nil {σ : St} {W : List WO} {i : Nat} {a : Addr} (h : OwnAt σ (worldS W) i a) : False := by
  obtain ⟨_, sl, h, _⟩ := h
  cases i <;> cases h
theorem wr_nil {σ : St} {W : List WO} {a : Addr} (h : Wr σ m (worldS W) a) : a ∈ m := by
  rcases h with h | ⟨i, h⟩
  · exact h
  · exact (own_nil h).elim
theorem Fm.world (f : Fm e σ H m s) : Fm e [] H m (worldS s.W) where
  len := rfl
  slot := fun i sl h => by cases i <;> cases h
  wl := f.wl
  wok := f.wok
  wn := f.wn
  od := fun i j a h => (own_nil h).elim
  om := fun i a h => (own_nil h).elim
theorem own_W {i : Nat} {a : Addr} (h : OwnAt σ { s with W := W' } i a) : OwnAt σ s i a := h

theorem Fm.call (f : Fm e σ H m s) (v : Evo [] m (worldS s.W) H [] m' (worldS W') H') (g : Fm e [] H' m' (worldS W')) : Fm e σ H' m' { s with W := W' } ∧ Evo σ m s H σ m' { s with W := W' } H' := by
  have ow : ∀ {i a}, OwnAt σ s i a → a ∉ m' := fun {i a} w hm => by
    obtain ⟨o, h1, _⟩ := f.wr (a := a) (.inr ⟨i, w⟩)
    rcases v.grow a (.inl hm) with h | h
    · exact f.om i a w (wr_nil h)
    · rw [h] at h1; cases h1
  have kp : ∀ {b o}, H b = some o → b ∉ m → H' b = some o := fun {b o} h n => v.keep b o h fun w => n (wr_nil w)
  have st : Stay m H m' H' := ⟨fun b o h n => v.keep b o h fun w => (by obtain ⟨o', h', q⟩ := f.wr (.inl (wr_nil w)); rw [h] at h'; cases h'; rw [n] at q; cases q), v.wm⟩
  refine ⟨⟨f.len, fun i sl hs => ?_, g.wl, g.wok, g.wn, f.od, fun i a w => ow w⟩, ⟨fun b o h n => kp h fun z => n (.inl z), fun b w => ?_, v.wm, v.there⟩⟩
  · have x := f.slot i sl hs
    cases sl with
    | emp => trivial
    | val d => obtain ⟨u, q, r⟩ := x; exact ⟨u, q, r.stay st⟩
    | own xs => obtain ⟨a, vs, q, h, r⟩ := x; exact ⟨a, vs, q, kp h (f.om i a ⟨q, _, hs, rfl⟩), DatL.stay st r⟩
    | ownd ks us => obtain ⟨a, kvs, q, h, r, r2⟩ := x; exact ⟨a, kvs, q, kp h (f.om i a ⟨q, _, hs, rfl⟩), DatL.stay st r, DatL.stay st r2⟩
    | keys ks => obtain ⟨a, xs, q, h, r⟩ := x; exact ⟨a, xs, q, kp h (f.om i a ⟨q, _, hs, rfl⟩), r.stay st⟩
  · rcases w with w | w
    · exact (v.grow b (.inl w)).imp (fun z => .inl (wr_nil z)) id
    · exact .inl (.inr w)

theorem Run.spg {Γ : Ctx} {f np : Nat} {vs : List V} {ds : List D} {Q : VK} (w : Run e Wx σ m s H (Γ.run f ds s) (fun d m' s' H' => ∀ v, Dat e m' H' v d → Q v H')) (fm : Fm e σ H m s) (hd : DatL e m H vs ds) (hl : ∀ ds W o, Γ.call f ds W = some o → ds.length = np) :
    spG e np (Γ.call f) vs H Q (WE Wx σ) := by
  unfold Ctx.run at w
  cases q : Γ.call f ds s.W with
  | none => rw [q] at w; exact w.elim
  | some o =>
    have hlen := hl _ _ _ q
    obtain ⟨o, W⟩ := o
    rw [q] at w
    refine ⟨m, ds, s.W, by rw [hd.length, hlen], hd, fm.world, ?_⟩
    rw [q]
    cases o with
    | val d => exact fun m' H' v ev fm' hv => w m' H' (fm.call ev fm').2 (fm.call ev fm').1 v hv
    | exc x => exact fun m' H' cls dx ev fm' hx => w m' H' cls dx (fm.call ev fm').2 (fm.call ev fm').1 hx
end

section
variable {X : Cx} {pins : List (Addr × Obj)} {σ : St} {H : Hp} {s : Shared} {k : Nat} {f : Addr} {fd : FuncData} {ps : List Str} {sp : Sp} {Wx : WX}

theorem run_g {Q : VK} {kw : List (Str × Value)} {us us' : List Value} {vs : List V} (F : FnG X.prog X.w X.K X.mg X.base k f fd ps sp) (hr : Room k X.A) (hg : X.A.guards = some []) (hb : BindsTo s fd ⟨us, kw⟩ (ps.zip us')) (tk : Takes X Wx)
    (I : Inv X pins σ H s) (r : Vals vs us') (h : sp vs H Q (WE Wx σ)) : wpAny (model X.prog X.w) X.A (call (.ref f) us kw) (EP X pins σ Q) X.xe s :=
  wpAny_call (codeAny_mono (F.run X.A X.stack s H ⟨us, kw⟩ us' vs Q _ hr hg I.env0 hb r h) fun r s' hq => by
    cases r with
    | error e => exact passAt tk σ pins H s e s' I hq
    | ok fl =>
      cases fl with
      | ret u => exact I.after hq
      | next => exact False.elim hq
      | brk => exact False.elim hq
      | cont => exact False.elim hq)
end


structure Def1 (X : Cx) (k : Nat) (x : Str) (ps : List Str) (sp : Sp) : Prop where
  ex : ∃ (f : Addr) (fd : FuncData), FnG X.prog X.w X.K X.mg X.base k f fd ps sp ∧ Simple fd ps ∧ X.mg x = some (.ref f) ∧ PySem.W.keepIn X.K (.ref f) = true
theorem plain_args {pos : Pos} {es : List Expr} {env : Env} (h : es.all noStar = true) : (backTo pos (starEach es env)).any (·.1) = false := by
  induction es with
  | nil => rfl
  | cons a es ih =>
    rw [List.all_cons, Bool.and_eq_true_iff] at h
    rw [star_of h.1]
    show (false || (backTo pos (starEach es env)).any (·.1)) = false
    rw [ih h.2]; rfl
def kwNames (kws : List Keyword) : List Str := kws.filterMap fun k => k.arg
section
variable {e : En} {N : List Str} {sc : Scope} {kk : Nat} {Wx : WX} {X : Cx} {Γ : Ctx} {a : Expr} {es : List Expr} {pos p : Pos} {rl rk : S → R (List D)} {x : Str} {ps : List Str} {kws : List Keyword}

theorem i_call {Γ : Ctx} {f np : Nat} {g : List D → List D} {gV : List V → List V} (hg : ∀ {m H vs ds}, DatL e m H vs ds → DatL e m H (gV vs) (g ds)) (hl : ∀ ds W o, Γ.call f ds W = some o → ds.length = np) {σ : St} {H : Hp} {Q : VK}
    (w : TO e Wx (fun s => bnd (rl s) fun ds s1 => bnd (Γ.run f (g ds) s1) fun d s2 => okv (.val d) s2) σ H Q) : TL e Wx rl σ H fun vs H1 => spG e np (Γ.call f) (gV vs) H1 Q (WE Wx σ) := by
  obtain ⟨m, s, f1, w⟩ := w
  refine ⟨m, s, f1, w.split.imp fun ds m1 s1 H1 v1 f2 w1 vs hv => Run.spg (s := s1) (w1.split.imp fun d m2 s2 H2 v2 f3 w2 v hd => ?_) f2 (hg hv) hl⟩
  exact (w2.got (v1.trans v2) f3).at hd
theorem x_call (G : Gd e N sc kk Wx X) {f : Nat} (F : Def1 X kk x ps (spG e ps.length (Γ.call f))) (hg : Gl X x) (hdb : (x == ("__debug__" : Str)) = false) (hl : PA X (a :: es) (TL e Wx rl)) (hs : (a :: es).all noStar = true)
    (hlen : ∀ ds W o, Γ.call f ds W = some o → ds.length = ps.length) :
    PE X (.Call (.Name x p) (a :: es) [] pos) (TO e Wx fun s => bnd (rl s) fun ds s1 => bnd (Γ.run f ds s1) fun d s2 => okv (.val d) s2) := by
  obtain ⟨fa, fd, F, S, hm, hk⟩ := F.ex
  rw [List.all_cons, Bool.and_eq_true_iff] at hs
  refine ⟨fun pins s σ H Q I w => ?_⟩
  refine wpAny_Call_Name_kw (ld_glob I hg hm ?_ hdb)
  refine PySem.W.callWith_K (h₀ := X.base) I.ok.mod.kin hk (thn (hl.run pos pins s σ H _ I (i_call (g := id) (gV := id) id hlen w)) fun us s1 ⟨vs, H1, I1, r, q⟩ => ⟨I1.kIn, ?_⟩) (star_of hs.1) (plain_args hs.2)
  have h2 : vs.length = _ := F.len _ _ _ _ q
  exact run_g F G.room G.gds (BindsTo.of_eq (bind_pos S (by rw [List.nil_append, ← r.length]; exact h2))) G.tk I1 r q
theorem xk_nil : PK X [] (TL e Wx fun s => okv [] s) := ⟨fun pos pins s σ H Q I w => pk_nil.run pos pins s σ H Q I (by obtain ⟨m, t, f, w⟩ := w; exact w m H .refl f [] .nil)⟩
theorem xk_cons {kp : Pos} {nm : Option Str} {ra : S → R Sl} (ha : PE X a (TO e Wx ra)) (hl : PK X kws (TL e Wx rl)) : PK X (⟨nm, a, kp⟩ :: kws) (TL e Wx fun s => bnd (frz (ra s)) fun d s1 => bnd (rl s1) fun ds s2 => okv (d :: ds) s2) :=
  ⟨fun pos pins t σ H Q I w => (pk_cons (xd ha) hl).run pos pins t σ H Q I (by
    obtain ⟨m, s, f, w⟩ := w
    exact ⟨m, s, f, Run.one w fun x v m2 s2 H2 v2 f2 hx w2 => ⟨m2, s2, f2, w2.split.imp fun ds m3 s3 H3 v3 f3 w3 vs hv => w3 m3 H3 .refl f3 _ (.cons (hx.stay (v3.stay f2)) hv)⟩⟩)⟩
theorem Run.impE {α : Type} {σ : St} {m : List Addr} {s : S} {H : Hp} {r : R α} {k k' : α → List Addr → S → Hp → Prop} (h : Run e Wx σ m s H r k) (i : ∀ a m1 s1 H1, r = some (.val a, s1) → Evo σ m s H σ m1 s1 H1 → Fm e σ H1 m1 s1 → k a m1 s1 H1 → k' a m1 s1 H1) : Run e Wx σ m s H r k' := by
  match r, h with
  | none, h => exact h
  | some (.exc x, s1), h => exact h
  | some (.val a, s1), h => exact fun m1 H1 v1 f1 => i _ _ _ _ rfl v1 f1 (h m1 H1 v1 f1)
theorem DatL.pick {m : List Addr} {H : Hp} {vs : List V} {ds : List D} (h : DatL e m H vs ds) : ∀ ix : List Nat, DatL e m H (ix.filterMap fun i => vs[i]?) (ix.filterMap fun i => ds[i]?)
  | [] => .nil
  | i :: ix => by
    rw [List.filterMap_cons, List.filterMap_cons]
    cases q : ds[i]? with
    | none =>
      have : vs[i]? = none := by rw [List.getElem?_eq_none_iff] at q ⊢; rw [h.length]; exact q
      rw [this]
      exact DatL.pick h ix
    | some d =>
      obtain ⟨v, hv, hd⟩ := h.get q
      rw [hv]
      exact .cons hd (DatL.pick h ix)
theorem vals_pick {vs : List V} {us : List Value} (h : Vals vs us) : ∀ ix : List Nat, Vals (ix.filterMap fun i => vs[i]?) (ix.filterMap fun i => us[i]?)
  | [] => .nil
  | i :: ix => by
    rw [List.filterMap_cons, List.filterMap_cons]
    cases q : vs[i]? with
    | none =>
      have : us[i]? = none := by rw [List.getElem?_eq_none_iff] at q ⊢; rw [← h.length]; exact q
      rw [this]
      exact vals_pick h ix
    | some d =>
      obtain ⟨v, hv, hd⟩ := h.get q
      rw [hv]
      exact .cons hd (vals_pick h ix)
theorem kw_isSome {pos : Pos} {env : Env} : ∀ {kws : List Keyword}, (kws.all fun k => k.arg.isSome) = true → (backToKw pos (keywordEach kws env)).all (·.1.isSome) = true ∧ (backToKw pos (keywordEach kws env)).any (·.1.isNone) = false ∧ (backToKw pos (keywordEach kws env)).filterMap (·.1) = kwNames kws
  | [], _ => ⟨rfl, rfl, rfl⟩
  | ⟨nm, a, kp⟩ :: kws, h => by
    rw [List.all_cons, Bool.and_eq_true_iff] at h
    obtain ⟨i1, i2, i3⟩ := kw_isSome (pos := pos) (env := env) h.2
    cases nm with
    | none => cases h.1
    | some nm =>
      refine ⟨?_, ?_, ?_⟩
      · show (true && (backToKw pos (keywordEach kws env)).all (·.1.isSome)) = true
        rw [i1]; rfl
      · show (false || (backToKw pos (keywordEach kws env)).any (·.1.isNone)) = false
        rw [i2]; rfl
      · show nm :: (backToKw pos (keywordEach kws env)).filterMap (·.1) = nm :: kwNames kws
        rw [i3]
theorem i_callk {Γ : Ctx} {f np n j : Nat} {ix : List Nat} (hl : ∀ ds W o, Γ.call f ds W = some o → ds.length = np) (l1 : ∀ s ds s', rl s = some (.val ds, s') → ds.length = n) (l2 : ∀ s ds s', rk s = some (.val ds, s') → ds.length = j) {σ : St} {H : Hp} {Q : VK}
    (w : TO e Wx (fun s => bnd (rl s) fun ds s1 => bnd (rk s1) fun es s2 => bnd (Γ.run f (kwPut ds es ix) s2) fun d s3 => okv (.val d) s3) σ H Q) :
    TL e Wx rl σ H fun vs H1 => vs.length = n ∧ TL e Wx rk σ H1 fun zs H2 => zs.length = j ∧ spG e np (Γ.call f) (kwPut vs zs ix) H2 Q (WE Wx σ) := by
  obtain ⟨m, s, f1, w⟩ := w
  refine ⟨m, s, f1, w.split.impE fun ds m1 s1 H1 e1 v1 f2 w1 vs hv => ⟨by rw [hv.length]; exact l1 _ _ _ e1, m1, s1, f2, w1.split.impE fun es m2 s2 H2 e2 v2 f3 w2 zs hz => ⟨by rw [hz.length]; exact l2 _ _ _ e2, ?_⟩⟩⟩
  refine Run.spg (s := s2) (w2.split.imp fun d m3 s3 H3 v3 f4 w3 v hd => ?_) f3 ((DatL.stay (v2.stay f2) hv).append (hz.pick ix)) hl
  exact (w3.got ((v1.trans v2).trans v3) f4).at hd
theorem x_callk (G : Gd e N sc kk Wx X) {f : Nat} (F : Def1 X kk x ps (spG e ps.length (Γ.call f))) (hg : Gl X x) (hdb : (x == ("__debug__" : Str)) = false) (hl : PA X es (TL e Wx rl)) (hkw : PK X kws (TL e Wx rk)) (hs : es.all noStar = true)
    (hks : (kws.all fun k => k.arg.isSome) = true) (hok : kwOk ps es.length (kwNames kws) = true) (hlen : ∀ ds W o, Γ.call f ds W = some o → ds.length = ps.length)
    (hnil : es = [] → rl = fun s => okv [] s) (l1 : ∀ s ds s', rl s = some (.val ds, s') → ds.length = es.length) (l2 : ∀ s ds s', rk s = some (.val ds, s') → ds.length = (kwNames kws).length) :
    PE X (.Call (.Name x p) es kws pos) (TO e Wx fun s => bnd (rl s) fun ds s1 => bnd (rk s1) fun es' s2 => bnd (Γ.run f (kwPut ds es' (kwIx ps es.length (kwNames kws))) s2) fun d s3 => okv (.val d) s3) := by
  obtain ⟨fa, fd, F, S, hm, hk⟩ := F.ex
  refine ⟨fun pins s σ H Q I w => ?_⟩
  have hok := kwOk_of hok
  obtain ⟨k1, k2, k3⟩ := kw_isSome (pos := pos) (env := X.env) hks
  have w := i_callk hlen l1 l2 w
  have fin : ∀ {us ws : List Value} {vs zs : List V} {H2 : Hp} {s2 : Shared}, L2.Inv X pins σ H2 s2 → Vals vs us → Vals zs ws → vs.length = es.length → zs.length = (kwNames kws).length →
      spG e ps.length (Γ.call f) (kwPut vs zs (kwIx ps es.length (kwNames kws))) H2 Q (WE Wx σ) → wpAny (model X.prog X.w) X.A (call (.ref fa) ([] ++ us) ((kwNames kws).zip ws)) (EP X pins σ Q) X.xe s2 := by
    intro us ws vs zs H2 s2 I2 r rz n1 n2 q
    have hu : us.length = es.length := by rw [← r.length]; exact n1
    refine run_g (us' := kwPut us ws (kwIx ps es.length (kwNames kws))) F G.room G.gds (BindsTo.of_eq ?_) G.tk I2 (r.append (vals_pick rz _)) q
    rw [← hu]
    exact bind_kw S (by rw [← rz.length]; exact n2) (by rw [List.nil_append, hu]; exact hok)
  refine wpAny_Call_Name_kw (ld_glob I hg hm ?_ hdb)
  cases es with
  | nil =>
    obtain ⟨m, t, f1, w⟩ := w
    rw [hnil rfl] at w
    obtain ⟨_, w⟩ := w m H .refl f1 [] .nil
    refine PySem.W.callWith_KW0 (h₀ := X.base) I.ok.mod.kin hk k1 (thn (hkw.run pos pins s σ H _ I w) fun ws s2 ⟨zs, H2, I2, rz, n2, q2⟩ => ⟨I2.kIn, ?_⟩) (by rw [k2]; rfl)
    rw [k3]
    exact fin I2 .nil rz rfl n2 q2
  | cons a es =>
    rw [List.all_cons, Bool.and_eq_true_iff] at hs
    refine PySem.W.callWith_KW (h₀ := X.base) I.ok.mod.kin hk k1 (thn (hl.run pos pins s σ H _ I w) fun us s1 ⟨vs, H1, I1, r, n1, q⟩ => ?_) (by rw [k2, Bool.or_false]; exact plain_args (by simp [hs.1, hs.2])) (star_of hs.1)
    refine thn (hkw.run pos pins s1 σ H1 _ I1 q) fun ws s2 ⟨zs, H2, I2, rz, n2, q2⟩ => ⟨I2.kIn, ?_⟩
    rw [k3]
    exact fin I2 r rz n1 n2 q2
end
end GP

set_option Elab.async false
set_option linter.all false
set_option maxRecDepth 100000
set_option autoImplicit false
set_option maxHeartbeats 1000000

namespace GP
open PySem PySem.Spec L2

def Blt.nm : Blt → Str
  | .len => "len" | .min2 => "min" | .max2 => "max" | .min1 => "min" | .max1 => "max" | .sorted => "sorted" | .list => "list" | .tuple => "tuple" | .sset => "sorted" | .sum => "sum" | .all => "all" | .int => "int" | .str => "str" | .repr => "repr"

def Blt.ok : Blt → Bool
  | .sset => false
  | _ => true
def Ty.nm : Ty → Option String
  | .int => some "int" | .bool => some "bool" | .str => some "str" | .tuple => some "tuple" | .list => some "list" | .cls _ => none

def Bn (X : Cx) (x : Str) : Prop := Gl X x ∧ X.mg x = none
section
variable {e : En} {N : List Str} {sc : Scope} {kk : Nat} {Wx : WX} {X : Cx} {Γ : Ctx} {a : Expr} {es : List Expr} {pos p : Pos} {rl : S → R (List D)} {ra : S → R Sl}
theorem i_blt {b : Blt} {σ : St} {H : Hp} {Q : VK} (w : TO e Wx (fun s => bnd (rl s) fun ds s1 => lft (bltD b ds) s1) σ H Q) : tCB (rBlt e b) (TL e Wx rl) σ H Q := by
  obtain ⟨m, s, f, w⟩ := w
  refine ⟨m, s, f, w.split.imp fun ds m1 s1 H1 v1 f1 w1 vs hv => ?_⟩
  obtain ⟨sl, hb, w2⟩ := w1.lft
  exact ⟨m1, ds, sl, hv, hb, w2.got v1 f1⟩
theorem x_blt (G : Gd e N sc kk Wx X) {b : Blt} (hb : b.ok = true) (hn : Bn X b.nm) (hl : PA X (a :: es) (TL e Wx rl)) (hs : (a :: es).all noStar = true) :
    PE X (.Call (.Name b.nm p) (a :: es) [] pos) (TO e Wx fun s => bnd (rl s) fun ds s1 => lft (bltD b ds) s1) := by
  rw [List.all_cons, Bool.and_eq_true_iff] at hs
  have st := star_of (es := es) (env := X.env) hs.1
  have pl := plain_args (pos := pos) (env := X.env) hs.2
  refine PE.imp (t := tCB (rBlt e b) (TL e Wx rl)) ?_ fun σ H Q w => i_blt w
  obtain ⟨hg, hm⟩ := hn
  cases b with
  | len => exact pe_callB (c_len G) hg hm rfl hl (by decide) (by decide) st pl
  | min2 => exact pe_callB (c_min2 G) hg hm rfl hl (by decide) (by decide) st pl
  | max2 => exact pe_callB (c_max2 G) hg hm rfl hl (by decide) (by decide) st pl
  | min1 => exact pe_callB (c_min1 G) hg hm rfl hl (by decide) (by decide) st pl
  | max1 => exact pe_callB (c_max1 G) hg hm rfl hl (by decide) (by decide) st pl
  | sorted => exact pe_callB (c_sorted G) hg hm rfl hl (by decide) (by decide) st pl
  | list => exact pe_callTy (c_list G) hg hm rfl hl (by decide) (by decide) st pl
  | tuple => exact pe_callTy (c_tuple G) hg hm rfl hl (by decide) (by decide) st pl
  | sset => cases hb
  | sum => exact pe_callB (c_sum G) hg hm rfl hl (by decide) (by decide) st pl
  | all => exact pe_callB (c_all G) hg hm rfl hl (by decide) (by decide) st pl
  | int => exact pe_callTy (c_int G) hg hm rfl hl (by decide) (by decide) st pl
  | str => exact pe_callTy c_str hg hm rfl hl (by decide) (by decide) st pl
  | repr => exact pe_callB (c_repr G) hg hm rfl hl (by decide) (by decide) st pl

def tyD : D → Option String
  | .non => some "NoneType" | .bl _ => some "bool" | .int _ => some "int" | .str _ => some "str" | .tup _ => some "tuple" | .lst _ => some "list"
  | _ => none
theorem tyx {m : List Addr} {H : Hp} {v : V} {d : D} {n : String} (h : Dat e m H v d) (hn : tyD d = some n) : TyX e.K H v (.type n) := by
  cases h with
  | non => cases hn; exact .base .non
  | bl b => cases hn; exact .base (.bl b)
  | int i => cases hn; exact .base (.int i)
  | str z => cases hn; exact .base (.str z)
  | tup l t =>
    cases hn
    rcases l with l | ⟨_, o, its, n, h1, h2, _⟩
    · exact .base (.tup l)
    · exact .kTuple h1 h2
  | lst l t =>
    cases hn
    rcases l with ⟨o, l⟩ | ⟨_, its, n, h1, _⟩
    · exact .base (.frz l)
    · exact .kList h1 rfl
  | dic _ _ _ => cases hn
  | obj _ => cases hn
theorem isi_kit {x : D} {t : Ty} {k : Bool} (h : isiD x t = some k) : ∃ a b, tyD x = some a ∧ t.nm = some b ∧ kitB a b = some k := by
  cases t <;> cases x <;> first | (cases h; exact ⟨_, _, rfl, rfl, by decide +kernel⟩) | (cases h; done)
theorem x_isi (G : Gd e N sc kk Wx X) {t : Ty} {T : Str} {n : String} {p2 : Pos} (ht : t.nm = some n) (hT : bootBuiltins T = some (.type n)) (hT1 : T ≠ "__name__") (hT2 : (T == ("__debug__" : Str)) = false) (hn : Bn X "isinstance") (hn2 : Bn X T) (ha : PE X a (TO e Wx ra)) (hs : noStar a = true) :
    PE X (.Call (.Name "isinstance" p) [a, .Name T p2] [] pos) (TO e Wx fun s => bnd (frz (ra s)) fun x s1 => lft ((isiD x t).map fun k => .val (.bl k)) s1) := by
  have h2 : PE X (.Name T p2) (tC (.ty n)) := pe_bltn hn2.1 hn2.2 hT rfl hT1 hT2
  refine PE.imp (pe_callB call_isi hn.1 hn.2 rfl (pa_cons (xd ha) (pa_cons h2 pa_nil rfl) (star_of hs)) (by decide) (by decide) (star_of hs) rfl) fun σ H Q ⟨m, s, f, w⟩ => ⟨m, s, f, Run.one w fun x v m1 s1 H1 v1 f1 hx w1 => ?_⟩
  obtain ⟨sl, hb, w2⟩ := w1.lft
  obtain ⟨k, hk, rfl⟩ := Option.map_eq_some_iff.mp hb
  obtain ⟨na, nb, h3, h4, h5⟩ := isi_kit hk
  rw [ht] at h4; cases h4
  exact ⟨v, .ty n, .type na, .type n, k, rfl, .ty n, G.hK ▸ tyx hx h3, kit_ty h5, (w2.got v1 f1).at (.bl _)⟩
end
end GP

set_option Elab.async false
set_option linter.all false
set_option maxRecDepth 100000
set_option autoImplicit false
set_option maxHeartbeats 1000000

namespace GP
open PySem PySem.Spec L2


def RunZ (e : En) (Wx : WX) (σ : St) (m : List Addr) (s : S) (H : Hp) (r : R Fl) (Z : Ends) : Prop := match r with
  | some (.val .nx, s') => ∀ σ' m' H', Evo σ m s H σ' m' s' H' → Fm e σ' H' m' s' → Z.nx σ' H'
  | some (.val .ct, s') => ∀ σ' m' H', Evo σ m s H σ' m' s' H' → Fm e σ' H' m' s' → Z.ct σ' H'
  | some (.val (.rt d), s') => ∀ σ' m' H' v, Evo σ m s H σ' m' s' H' → Fm e σ' H' m' s' → Dat e m' H' v d → Z.rt v H'
  | some (.exc x, s') => ∀ σ' m' H' cls dx, Evo σ m s H σ' m' s' H' → Fm e σ' H' m' s' → Exr e m' H' x cls dx → Wx cls dx σ' H'
  | none => False
def TSt (e : En) (Wx : WX) (r : S → R Fl) : TS := fun Z σ H => ∃ m s, Fm e σ H m s ∧ RunZ e Wx σ m s H (r s) Z

section
variable {α : Type} {e : En} {Wx : WX} {σ σ1 : St} {m m1 : List Addr} {s s1 : S} {H H1 : Hp} {r : R α} {f : α → S → R Fl} {Z Z' : Ends} {z : R Fl}

theorem RunZ.from (h : RunZ e Wx σ m s H z Z) (v : Evo σ m s H σ1 m1 s1 H1) : RunZ e Wx σ1 m1 s1 H1 z Z := by
  match z, h with
  | some (.val .nx, s'), h => exact fun σ' m' H' v' => h σ' m' H' (v.trans v')
  | some (.val .ct, s'), h => exact fun σ' m' H' v' => h σ' m' H' (v.trans v')
  | some (.val (.rt d), s'), h => exact fun σ' m' H' u v' => h σ' m' H' u (v.trans v')
  | some (.exc x, s'), h => exact fun σ' m' H' c d v' => h σ' m' H' c d (v.trans v')
  | none, h => exact h

theorem RunZ.split (h : RunZ e Wx σ m s H (bnd r f) Z) : Run e Wx σ m s H r (fun a m1 s1 H1 => RunZ e Wx σ m s H (f a s1) Z) := by
  match r, h with
  | none, h => exact h
  | some (.exc x, s1), h => exact fun m1 H1 cls d v f x => h σ m1 H1 cls d v f x
  | some (.val a, s1), h => exact fun m1 H1 v f1 => h
theorem RunZ.ok (h : RunZ e Wx σ m s H (okv .nx s1) Z) (v : Evo σ m s H σ1 m1 s1 H1) (f : Fm e σ1 H1 m1 s1) : Z.nx σ1 H1 := h σ1 m1 H1 v f
theorem RunZ.seq {r : R Fl} {g : S → R Fl} (h : RunZ e Wx σ m s H (bnd r fun o s1 => match o with | .nx => g s1 | y => okv y s1) Z) : RunZ e Wx σ m s H r { Z with nx := TSt e Wx g Z } := by
  match r, h with
  | none, h => exact h
  | some (.exc x, s1), h => exact h
  | some (.val .nx, s1), h => exact fun σ' m' H' v f => ⟨m', s1, f, RunZ.from h v⟩
  | some (.val .ct, s1), h => exact h
  | some (.val (.rt d), s1), h => exact h
end

section
variable {e : En} {N : List Str} {sc : Scope} {kk : Nat} {Wx : WX} {X : Cx} {Γ : Ctx} {a b c ex : Expr} {es : List Expr} {pos p : Pos} {ra rb rc : S → R Sl} {rt : S → R Bool} {rl : S → R (List D)} {r1 r2 : S → R Fl} {st : Stmt} {sts : List Stmt}
theorem PS.imp {t t' : TS} (h : PS X st t) (i : ∀ Z σ H, t' Z σ H → t Z σ H) : PS X st t' := ⟨fun pins s σ H Z I w => h.run pins s σ H Z I (i Z σ H w)⟩
theorem PSs.imp {t t' : TS} (h : PSs X sts t) (i : ∀ Z σ H, t' Z σ H → t Z σ H) : PSs X sts t' := ⟨fun pins s σ H Z I w => h.run pins s σ H Z I (i Z σ H w)⟩
theorem z_nil : PSs X [] (TSt e Wx fun s => okv .nx s) := PSs.imp pss_nil fun Z σ H ⟨m, s, f, w⟩ => w σ m H .refl f
theorem z_cons (h1 : PS X st (TSt e Wx r1)) (h2 : PSs X sts (TSt e Wx r2)) : PSs X (st :: sts) (TSt e Wx fun s => bnd (r1 s) fun o s1 => match o with | .nx => r2 s1 | y => okv y s1) :=
  PSs.imp (pss_cons h1 h2) fun Z σ H ⟨m, s, f, w⟩ => ⟨m, s, f, w.seq⟩
theorem z_pass : PS X (.Pass pos) (TSt e Wx fun s => okv .nx s) := PS.imp ps_pass fun Z σ H ⟨m, s, f, w⟩ => w σ m H .refl f
theorem z_cont : PS X (.Continue pos) (TSt e Wx fun s => okv .ct s) := PS.imp ps_continue fun Z σ H ⟨m, s, f, w⟩ => w σ m H .refl f
theorem z_expr (ha : PE X a (TO e Wx ra)) (hs : swapsWith a none pos.line X.env = pure false) : PS X (.Expr a pos) (TSt e Wx fun s => bnd (ra s) fun _ s1 => okv .nx s1) :=
  PS.imp (ps_expr ha hs) fun Z σ H ⟨m, s, f, w⟩ => ⟨m, s, f, w.split.imp fun sl m1 s1 H1 v1 f1 w1 v hv => w1 σ m1 H1 v1 f1⟩
theorem z_ret (ha : PE X a (TO e Wx ra)) : PS X (.Return (some a) pos) (TSt e Wx fun s => bnd (frz (ra s)) fun d s1 => okv (.rt d) s1) :=
  PS.imp (ps_ret (xd ha)) fun Z σ H ⟨m, s, f, w⟩ => ⟨m, s, f, w.split.imp fun d m1 s1 H1 v1 f1 w1 v hv => w1 σ m1 H1 v v1 f1 hv⟩
theorem z_retN : PS X (.Return none pos) (TSt e Wx fun s => okv (.rt .non) s) := PS.imp ps_retN fun Z σ H ⟨m, s, f, w⟩ => w σ m H .non .refl f .non
theorem z_if {t : Expr} {as bs : List Stmt} (ht : PT X t (TB e Wx rt)) (ha : PSs X as (TSt e Wx r1)) (hb : PSs X bs (TSt e Wx r2)) : PS X (.If t as bs pos) (TSt e Wx fun s => bnd (rt s) fun k s1 => if k then r1 s1 else r2 s1) :=
  PS.imp (ps_if ht ha hb) fun Z σ H ⟨m, s, f, w⟩ => ⟨m, s, f, w.split.imp fun k m1 s1 H1 v1 f1 w1 => by
    cases k with
    | true => exact ⟨m1, s1, f1, w1.from v1⟩
    | false => exact ⟨m1, s1, f1, w1.from v1⟩⟩


inductive All2 {α β : Type} (P : α → β → Prop) : List α → List β → Prop
  | nil : All2 P [] []
  | cons {a : α} {b : β} {as : List α} {bs : List β} : P a b → All2 P as bs → All2 P (a :: as) (b :: bs)
theorem All2.length {α β : Type} {P : α → β → Prop} : ∀ {as : List α} {bs : List β}, All2 P as bs → as.length = bs.length
  | _, _, .nil => rfl
  | _, _, .cons _ t => by rw [List.length_cons, List.length_cons, t.length]
theorem own_sl {σ : St} {s : S} {i j : Nat} {a q : Addr} {sl : Sl} (w : OwnAt (σ.set i (some (.ref q))) (s.put i sl) j a) : OwnAt σ s j a ∨ (j = i ∧ a = q ∧ sl.isOwn = true) := by
  obtain ⟨h, sl', hs, ho⟩ := w
  rw [put_get] at hs
  by_cases e : i = j
  · subst e
    rw [if_pos rfl] at hs
    cases z : s.ρ[i]? <;> rw [z] at hs <;> cases hs
    rw [List.getElem?_set_self'] at h
    cases z2 : σ[i]? <;> rw [z2] at h <;> cases h
    exact .inr ⟨rfl, rfl, ho⟩
  · rw [if_neg e] at hs
    rw [List.getElem?_set_ne e] at h
    exact .inl ⟨h, sl', hs, ho⟩

theorem Fm.putR {σ σ0 : St} {m m0 : List Addr} {s s0 : S} {H H0 HB : Hp} {i : Nat} {v : V} {sl : Sl} (f : Fm e σ H m s) (hr : Res e σ m s HB H v sl) (hB : ∀ q, HB q = none → H0 q = none) (w : Evo σ0 m0 s0 H0 σ m s H) :
    Fm e (σ.set i (some v)) H m (s.put i sl) ∧ Evo σ0 m0 s0 H0 (σ.set i (some v)) m (s.put i sl) H := by
  cases sl with
  | emp => exact hr.elim
  | val d => obtain ⟨f1, w1⟩ := f.put1 (i := i) hr; exact ⟨f1, w1 w⟩
  | own xs =>
    obtain ⟨q, vs, rfl, h0, hq, hd, nw⟩ := hr
    refine ⟨⟨by rw [List.length_set, put_len]; exact f.len, fun j sl hj => ?_, f.wl, f.wok, f.wn, fun j l a h1 h2 => ?_, fun j a h => ?_⟩, ⟨w.keep, fun b x => ?_, w.wm, w.there⟩⟩
    · rw [put_get] at hj
      by_cases z : i = j
      · subst z
        rw [if_pos rfl] at hj
        cases y : s.ρ[i]? <;> rw [y] at hj <;> cases hj
        have hi : i < σ.length := by rw [f.len]; exact get_lt y
        exact ⟨q, vs, List.getElem?_set_self hi, hq, hd⟩
      · rw [if_neg z] at hj
        exact (f.slot j sl hj).of_eq (List.getElem?_set_ne z)
    · rcases own_sl h1 with h3 | ⟨h3, e1, _⟩ <;> rcases own_sl h2 with h4 | ⟨h4, e2, _⟩
      · exact f.od j l a h3 h4
      · subst e2; exact (nw (.inr ⟨j, h3⟩)).elim
      · subst e1; exact (nw (.inr ⟨l, h4⟩)).elim
      · rw [h3, h4]
    · rcases own_sl h with h | ⟨_, e1, _⟩
      · exact f.om j a h
      · subst e1; exact fun z => nw (.inl z)
    · rcases x with x | ⟨j, x⟩
      · exact w.grow b (.inl x)
      · rcases own_sl x with x | ⟨_, e1, _⟩
        · exact w.grow b (.inr ⟨j, x⟩)
        · subst e1; exact .inr (hB _ h0)
  | ownd ks us =>
    obtain ⟨q, vs, rfl, h0, hq, hd, hd2, nw⟩ := hr
    refine ⟨⟨by rw [List.length_set, put_len]; exact f.len, fun j sl hj => ?_, f.wl, f.wok, f.wn, fun j l a h1 h2 => ?_, fun j a h => ?_⟩, ⟨w.keep, fun b x => ?_, w.wm, w.there⟩⟩
    · rw [put_get] at hj
      by_cases z : i = j
      · subst z
        rw [if_pos rfl] at hj
        cases y : s.ρ[i]? <;> rw [y] at hj <;> cases hj
        have hi : i < σ.length := by rw [f.len]; exact get_lt y
        exact ⟨q, vs, List.getElem?_set_self hi, hq, hd, hd2⟩
      · rw [if_neg z] at hj
        exact (f.slot j sl hj).of_eq (List.getElem?_set_ne z)
    · rcases own_sl h1 with h3 | ⟨h3, e1, _⟩ <;> rcases own_sl h2 with h4 | ⟨h4, e2, _⟩
      · exact f.od j l a h3 h4
      · subst e2; exact (nw (.inr ⟨j, h3⟩)).elim
      · subst e1; exact (nw (.inr ⟨l, h4⟩)).elim
      · rw [h3, h4]
    · rcases own_sl h with h | ⟨_, e1, _⟩
      · exact f.om j a h
      · subst e1; exact fun z => nw (.inl z)
    · rcases x with x | ⟨j, x⟩
      · exact w.grow b (.inl x)
      · rcases own_sl x with x | ⟨_, e1, _⟩
        · exact w.grow b (.inr ⟨j, x⟩)
        · subst e1; exact .inr (hB _ h0)
  | keys ks =>
    obtain ⟨q, vs, rfl, h0, hq, hd, nw⟩ := hr
    refine ⟨⟨by rw [List.length_set, put_len]; exact f.len, fun j sl hj => ?_, f.wl, f.wok, f.wn, fun j l a h1 h2 => ?_, fun j a h => ?_⟩, ⟨w.keep, fun b x => ?_, w.wm, w.there⟩⟩
    · rw [put_get] at hj
      by_cases z : i = j
      · subst z
        rw [if_pos rfl] at hj
        cases y : s.ρ[i]? <;> rw [y] at hj <;> cases hj
        have hi : i < σ.length := by rw [f.len]; exact get_lt y
        exact ⟨q, vs, List.getElem?_set_self hi, hq, hd⟩
      · rw [if_neg z] at hj
        exact (f.slot j sl hj).of_eq (List.getElem?_set_ne z)
    · rcases own_sl h1 with h3 | ⟨h3, e1, _⟩ <;> rcases own_sl h2 with h4 | ⟨h4, e2, _⟩
      · exact f.od j l a h3 h4
      · subst e2; exact (nw (.inr ⟨j, h3⟩)).elim
      · subst e1; exact (nw (.inr ⟨l, h4⟩)).elim
      · rw [h3, h4]
    · rcases own_sl h with h | ⟨_, e1, _⟩
      · exact f.om j a h
      · subst e1; exact fun z => nw (.inl z)
    · rcases x with x | ⟨j, x⟩
      · exact w.grow b (.inl x)
      · rcases own_sl x with x | ⟨_, e1, _⟩
        · exact w.grow b (.inr ⟨j, x⟩)
        · subst e1; exact .inr (hB _ h0)

structure Tg1 (X : Cx) (x : Str) (i : Nat) : Prop where
  at_ : X.N[i]? = some x
  loc : Loc X.env.scope x
  fn : X.fn x = true ∨ X.env.scope.names.lookup x = some .local
theorem i_set {i : Nat} {Z : Ends} {σ : St} {H : Hp} (w : TSt e Wx (fun s => bnd (ra s) fun x s1 => okv .nx (s1.put i x)) Z σ H) : tAsg (TO e Wx ra) (gName i) Z σ H := by
  obtain ⟨m, s, f, w⟩ := w
  refine ⟨m, s, f, w.split.imp fun sl m1 s1 H1 v1 f1 w1 v hr => ?_⟩
  obtain ⟨f2, v2⟩ := f1.putR (i := i) hr (fun q h => h) v1
  exact w1.ok v2 f2
theorem z_set (G : Gd e N sc kk Wx X) {i : Nat} {x : Str} (t : Tg1 X x i) (ha : PE X a (TO e Wx ra)) (hs : swapsWith a (some (.Name x p)) pos.line X.env = pure false) : PS X (.Assign [.Name x p] a pos) (TSt e Wx fun s => bnd (ra s) fun x s1 => okv .nx (s1.put i x)) :=
  PS.imp (ps_set (by rw [G.hN]; exact G.nd) t.at_ t.loc ha hs t.fn) fun Z σ H w => i_set w
theorem Tgs.of : ∀ {xs : List (Str × Pos)} {l : List Nat}, All2 (fun (x : Str × Pos) i => Tg1 X x.1 i) xs l → Tgs X (xs.map fun x => .Name x.1 x.2) l
  | _, _, .nil => .nil
  | _, _, .cons h t => .cons h.at_ h.loc h.fn (Tgs.of t)

def oa : V → Sl → List Addr
  | .ref p, .own _ => [p]
  | .ref p, .ownd _ _ => [p]
  | .ref p, .keys _ => [p]
  | _, _ => []
inductive ResL (e : En) (σ : St) (m : List Addr) (s : S) (HB H : Hp) : List V → List Sl → Prop
  | nil : ResL e σ m s HB H [] []
  | cons {v : V} {sl : Sl} {vs : List V} {sls : List Sl} : Res e σ m s HB H v sl → ResL e σ m s HB H vs sls → (∀ p ∈ oa v sl, ∀ (j : Nat) (u : V) (t : Sl), vs[j]? = some u → sls[j]? = some t → p ∉ oa u t) → ResL e σ m s HB H (v :: vs) (sl :: sls)
theorem Res.oa_wr {σ : St} {m : List Addr} {s : S} {HB H : Hp} {v : V} {sl : Sl} (h : Res e σ m s HB H v sl) : ∀ p ∈ oa v sl, ¬ Wr σ m s p ∧ HB p = none ∧ ∃ o, H p = some o := by
  intro p hp
  cases sl with
  | emp => exact h.elim
  | val d => cases v <;> simp [oa] at hp
  | own xs => obtain ⟨q, vs, rfl, h0, h1, _, nw⟩ := h; simp [oa] at hp; subst hp; exact ⟨nw, h0, _, h1⟩
  | ownd ks us => obtain ⟨q, vs, rfl, h0, h1, _, _, nw⟩ := h; simp [oa] at hp; subst hp; exact ⟨nw, h0, _, h1⟩
  | keys ks => obtain ⟨q, vs, rfl, h0, h1, _, nw⟩ := h; simp [oa] at hp; subst hp; exact ⟨nw, h0, _, h1⟩
theorem Res.re {σ σ' : St} {m m' : List Addr} {s s' : S} {HB H H' : Hp} {v : V} {sl : Sl} (h : Res e σ m s HB H v sl) (st : Stay m H m' H') (k : ∀ p ∈ oa v sl, ∀ o, H p = some o → H' p = some o) (n : ∀ p ∈ oa v sl, ¬ Wr σ' m' s' p) : Res e σ' m' s' HB H' v sl := by
  cases sl with
  | emp => exact h
  | val d => exact Dat.stay st h
  | own xs => obtain ⟨q, vs, rfl, h0, h1, h2, nw⟩ := h; exact ⟨q, vs, rfl, h0, k q (by simp [oa]) _ h1, DatL.stay st h2, n q (by simp [oa])⟩
  | ownd ks us => obtain ⟨q, vs, rfl, h0, h1, h2, h3, nw⟩ := h; exact ⟨q, vs, rfl, h0, k q (by simp [oa]) _ h1, DatL.stay st h2, DatL.stay st h3, n q (by simp [oa])⟩
  | keys ks => obtain ⟨q, vs, rfl, h0, h1, h2, nw⟩ := h; exact ⟨q, vs, rfl, h0, k q (by simp [oa]) _ h1, h2.stay st, n q (by simp [oa])⟩
theorem ResL.re {σ σ' : St} {m m' : List Addr} {s s' : S} {HB H H' : Hp} {vs : List V} {sls : List Sl} (h : ResL e σ m s HB H vs sls) (st : Stay m H m' H') (k : ∀ (j : Nat) (u : V) (t : Sl), vs[j]? = some u → sls[j]? = some t → ∀ p ∈ oa u t, ∀ o, H p = some o → H' p = some o)
    (n : ∀ (j : Nat) (u : V) (t : Sl), vs[j]? = some u → sls[j]? = some t → ∀ p ∈ oa u t, ¬ Wr σ' m' s' p) : ResL e σ' m' s' HB H' vs sls := by
  induction h with
  | nil => exact .nil
  | cons h t d ih => exact .cons (h.re st (k 0 _ _ rfl rfl) (n 0 _ _ rfl rfl)) (ih (fun j u t h1 h2 => k (j + 1) u t h1 h2) fun j u t h1 h2 => n (j + 1) u t h1 h2) d
theorem ResL.at {σ : St} {m : List Addr} {s : S} {HB H : Hp} {vs : List V} {sls : List Sl} (h : ResL e σ m s HB H vs sls) : ∀ (j : Nat) (u : V) (t : Sl), vs[j]? = some u → sls[j]? = some t → Res e σ m s HB H u t := by
  induction h with
  | nil => intro j u t h1; simp at h1
  | cons h t d ih =>
    intro j u t h1 h2
    cases j with
    | zero => simp at h1 h2; subst h1; subst h2; exact h
    | succ j => exact ih j u t (by simpa using h1) (by simpa using h2)
theorem ResL.length {σ : St} {m : List Addr} {s : S} {HB H : Hp} {vs : List V} {sls : List Sl} (h : ResL e σ m s HB H vs sls) : vs.length = sls.length := by
  induction h with
  | nil => rfl
  | cons _ _ _ ih => rw [List.length_cons, List.length_cons, ih]
theorem ResL.base {σ : St} {m : List Addr} {s : S} {HB HC H : Hp} {vs : List V} {sls : List Sl} (h : ResL e σ m s HB H vs sls) (hb : ∀ p, HB p = none → HC p = none) : ResL e σ m s HC H vs sls := by
  induction h with
  | nil => exact .nil
  | @cons v sl vs sls h t d ih =>
    refine .cons ?_ ih d
    cases sl with
    | emp => exact h
    | val d => exact h
    | own xs => obtain ⟨q, vs, h1, h2, h3⟩ := h; exact ⟨q, vs, h1, hb _ h2, h3⟩
    | ownd ks us => obtain ⟨q, vs, h1, h2, h3⟩ := h; exact ⟨q, vs, h1, hb _ h2, h3⟩
    | keys ks => obtain ⟨q, vs, h1, h2, h3⟩ := h; exact ⟨q, vs, h1, hb _ h2, h3⟩

def TLs (e : En) (Wx : WX) (r : S → R (List Sl)) : TA := fun σ H Q => ∃ m s, Fm e σ H m s ∧ Run e Wx σ m s H (r s) (fun sls m' s' H' => ∀ vs, ResL e σ m' s' H H' vs sls → Q vs H')
theorem xs_nil : PA X [] (TLs e Wx fun s => okv [] s) := PA.imp pa_nil fun σ H Q ⟨m, s, f, w⟩ => w m H .refl f [] .nil
theorem xs_cons {rs : S → R (List Sl)} (ha : PE X a (TO e Wx ra)) (hl : PA X es (TLs e Wx rs)) (h : noStar a = true) : PA X (a :: es) (TLs e Wx fun s => bnd (ra s) fun d s1 => bnd (rs s1) fun ds s2 => okv (d :: ds) s2) :=
  PA.imp (pa_cons ha hl (star_of h)) fun σ H Q ⟨m, s, f, w⟩ => ⟨m, s, f, w.split.imp fun sl m1 s1 H1 v1 f1 w1 v hr => ⟨m1, s1, f1, w1.split.imp fun sls m2 s2 H2 v2 f2 w2 vs hv => by
    have k1 : ∀ p ∈ oa v sl, ¬ Wr σ m2 s2 p ∧ (∀ o, H1 p = some o → H2 p = some o) := fun p hp => by
      obtain ⟨n1, _, o, ho⟩ := hr.oa_wr p hp
      obtain ⟨n2, h2⟩ := v2.nwr ho n1
      exact ⟨n2, fun o' ho' => by rw [ho] at ho'; cases ho'; exact h2⟩
    have hr2 : Res e σ m2 s2 H H2 v sl := hr.re (v2.stay f1) (fun p hp => (k1 p hp).2) fun p hp => (k1 p hp).1
    refine w2 m2 H2 .refl f2 _ (.cons hr2 (hv.base fun p hp => v1.fresh hp) fun p hp j u t h1 h2 hp2 => ?_)
    obtain ⟨_, _, o, ho⟩ := hr.oa_wr p hp
    obtain ⟨_, h0, _⟩ := (hv.at j u t h1 h2).oa_wr p hp2
    rw [h0] at ho; cases ho⟩⟩
theorem i_setO {σ0 : St} {m m0 : List Addr} {s0 s' : S} {H H0 HB : Hp} : ∀ {l : List Nat} {sls : List Sl} {vs : List V} {σ : St} {s : S} {Q : St → Hp → Prop}, setO s l sls = some s' → ResL e σ m s HB H vs sls → (∀ q, HB q = none → H0 q = none) → Fm e σ H m s → Evo σ0 m0 s0 H0 σ m s H →
    (∀ σ', Fm e σ' H m s' → Evo σ0 m0 s0 H0 σ' m s' H → Q σ' H) → gNames l vs σ H Q
  | [], [], _, σ, s, Q, h, .nil, hb, f, w, k => by cases h; exact ⟨rfl, k σ f w⟩
  | i :: l, sl :: sls, v :: vs, σ, s, Q, h, .cons hr t d, hb, f, w, k => by
    refine ⟨_, _, rfl, ?_⟩
    obtain ⟨f1, w1⟩ := f.putR (i := i) hr hb w
    refine i_setO (s := s.put i sl) h (t.re .refl (fun j u t h1 h2 p hp o ho => ho) fun j u tt h1 h2 p hp wr => ?_) hb f1 w1 k
    have n0 := ((t.at j u tt h1 h2).oa_wr p hp).1
    rcases wr with wr | ⟨z, wr⟩
    · exact n0 (.inl wr)
    · cases sl with
      | emp => exact hr.elim
      | val d => exact n0 (.inr ⟨z, own_put2 wr⟩)
      | own xs =>
        obtain ⟨q, us, rfl, _⟩ := hr
        rcases own_sl wr with wr | ⟨_, e1, _⟩
        · exact n0 (.inr ⟨z, wr⟩)
        · subst e1; exact d p (by simp [oa]) j u tt h1 h2 hp
      | ownd ks us =>
        obtain ⟨q, us, rfl, _⟩ := hr
        rcases own_sl wr with wr | ⟨_, e1, _⟩
        · exact n0 (.inr ⟨z, wr⟩)
        · subst e1; exact d p (by simp [oa]) j u tt h1 h2 hp
      | keys ks =>
        obtain ⟨q, us, rfl, _⟩ := hr
        rcases own_sl wr with wr | ⟨_, e1, _⟩
        · exact n0 (.inr ⟨z, wr⟩)
        · subst e1; exact d p (by simp [oa]) j u tt h1 h2 hp
  | [], _ :: _, _, _, _, _, h, _, _, _, _, _ => by cases h
  | _ :: _, [], _, _, _, _, h, _, _, _, _, _ => by cases h
def parR (rs : S → R (List Sl)) (l : List Nat) : S → R Fl := fun s => bnd (rs s) fun ds s1 => match setO s1 l ds with | some s2 => okv .nx s2 | none => none
theorem i_par {rs : S → R (List Sl)} {l : List Nat} {Z : Ends} {σ : St} {H : Hp} (w : TSt e Wx (parR rs l) Z σ H) : TLs e Wx rs σ H fun vs H1 => gNames l vs σ H1 Z.nx := by
  obtain ⟨m, s, f, w⟩ := w
  unfold parR at w
  refine ⟨m, s, f, w.split.imp fun sls m1 s1 H1 v1 f1 w1 vs hr => ?_⟩
  split at w1
  · rename_i s2 h2
    exact i_setO h2 hr (fun q h => h) f1 v1 fun σ' f2 v2 => w1.ok v2 f2
  · exact w1.elim
def isStar : Expr → Bool
  | .Starred .. => true
  | _ => false
def swNames (sc : Scope) (line : Nat) (ts : List Expr) : List Str := ts.filterMap fun
  | .Name id pos => if sc.names.lookup id == some .local && pos.line == line then some id else none
  | _ => none
def swP (sc : Scope) (ts vs : List Expr) : Option (Option (List Str)) :=
  if !(ts.length == 2 || ts.length == 3) || vs.length != ts.length then some none
  else if vs.any isStar then some none
  else if (swNames sc ((ts.head?.map (·.pos.line)).getD 0) ts).length != ts.length || (swNames sc ((ts.head?.map (·.pos.line)).getD 0) ts).eraseDups.length != (swNames sc ((ts.head?.map (·.pos.line)).getD 0) ts).length then some none
  else if vs.all (foldedForSure 8) then some none
  else if vs.all (constantsAlone 8) then none
  else some (some (swNames sc ((ts.head?.map (·.pos.line)).getD 0) ts))
theorem sw_of {env : Env} {ts vs : List Expr} {kt k2 : Nat} {pt pt2 : Pos} {r : Option (List Str)} (hk : env.scope.kind = .function) (h : swP env.scope ts vs = some r) : swappedStores [.Tuple ts kt pt] (.Tuple vs k2 pt2) env = pure r := by
  have hb : env.blockKind = .function := by unfold Env.blockKind; rw [hk]; rfl
  have hbb : (env.blockKind != ScopeKind.function) = false := by rw [hb]; rfl
  show (if (!(ts.length == 2 || ts.length == 3) || vs.length != ts.length || env.blockKind != .function) = true then pure none
    else if vs.any isStar = true then pure none
    else if ((swNames env.scope ((ts.head?.map (·.pos.line)).getD 0) ts).length != ts.length || (swNames env.scope ((ts.head?.map (·.pos.line)).getD 0) ts).eraseDups.length != (swNames env.scope ((ts.head?.map (·.pos.line)).getD 0) ts).length) = true then pure none
    else if vs.all (foldedForSure 8) = true then pure none
    else if vs.all (constantsAlone 8) = true then (unsupported "assign.tuple-of-constant-expressions:order-of-the-stores" >>= fun (_ : PUnit) => pure (some (swNames env.scope ((ts.head?.map (·.pos.line)).getD 0) ts)))
    else pure (some (swNames env.scope ((ts.head?.map (·.pos.line)).getD 0) ts)) : Sem _) = pure r
  rw [hbb, Bool.or_false]
  unfold swP at h
  split at h
  · rename_i h1; rw [if_pos h1]; cases h; rfl
  rename_i h1; rw [if_neg h1]
  split at h
  · rename_i h1; rw [if_pos h1]; cases h; rfl
  rename_i h1; rw [if_neg h1]
  split at h
  · rename_i h1; rw [if_pos h1]; cases h; rfl
  rename_i h1; rw [if_neg h1]
  split at h
  · rename_i h1; rw [if_pos h1]; cases h; rfl
  rename_i h1; rw [if_neg h1]
  split at h
  · cases h
  rename_i h1; rw [if_neg h1]; cases h; rfl
end
end GP

set_option Elab.async false
set_option linter.all false
set_option maxRecDepth 100000
set_option autoImplicit false
set_option maxHeartbeats 1000000

namespace GP
open PySem PySem.Spec L2

section
variable {e : En} {N : List Str} {sc : Scope} {kk : Nat} {Wx : WX} {X : Cx} {Γ : Ctx} {a b c ex : Expr} {es : List Expr} {pos p pt pt2 : Pos} {kt k2 : Nat} {ra rb rc : S → R Sl} {rt : S → R Bool} {rl : S → R (List D)} {rs : S → R (List Sl)} {r1 r2 : S → R Fl} {st : Stmt} {sts : List Stmt} {l : List Nat}
theorem Gd.ndX (G : Gd e N sc kk Wx X) : X.N.Nodup := by rw [G.hN]; exact G.nd
theorem two_ne {i j : Nat} {x y : Str} (h1 : N[i]? = some x) (h2 : N[j]? = some y) (h : x ≠ y) : i ≠ j := fun z => by subst z; rw [h1] at h2; cases h2; exact h rfl
theorem z_par2 (G : Gd e N sc kk Wx X) {x y : Str} {px py : Pos} {i j : Nat} (t1 : Tg1 X x i) (t2 : Tg1 X y j) (hk : X.env.scope.kind = .function) (hl : PA X [a, b] (TLs e Wx rs)) (hx : X.env.scope.names.lookup x = some .local) (hy : X.env.scope.names.lookup y = some .local) (hne : x ≠ y)
    (hw : swP X.env.scope [.Name x px, .Name y py] [a, b] = some (some [x, y])) :
    PS X (.Assign [.Tuple [.Name x px, .Name y py] kt pt] (.Tuple [a, b] k2 pt2) pos) (TSt e Wx (parR rs [i, j])) :=
  PS.imp (ps_par G.calm G.ndX t1.at_ t2.at_ (two_ne t1.at_ t2.at_ hne) hx hy hl (sw_of hk hw)) fun Z σ H w => by
    obtain ⟨m, s, f, w⟩ := i_par w
    refine ⟨m, s, f, w.imp fun sls m1 s1 H1 v1 f1 w1 vs hv => ?_⟩
    obtain ⟨v, r, rfl, v', r', rfl, rfl, q⟩ := w1 vs hv
    exact ⟨_, _, rfl, q⟩
theorem z_par3 (G : Gd e N sc kk Wx X) {x y z : Str} {px py pz : Pos} {i j n : Nat} (t1 : Tg1 X x i) (t2 : Tg1 X y j) (t3 : Tg1 X z n) (hk : X.env.scope.kind = .function) (hl : PA X [a, b, c] (TLs e Wx rs)) (hx : X.env.scope.names.lookup x = some .local) (hy : X.env.scope.names.lookup y = some .local) (hz : X.env.scope.names.lookup z = some .local)
    (h12 : x ≠ y) (h13 : x ≠ z) (h23 : y ≠ z) (hw : swP X.env.scope [.Name x px, .Name y py, .Name z pz] [a, b, c] = some (some [x, y, z])) :
    PS X (.Assign [.Tuple [.Name x px, .Name y py, .Name z pz] kt pt] (.Tuple [a, b, c] k2 pt2) pos) (TSt e Wx (parR rs [i, j, n])) :=
  PS.imp (ps_par3 G.calm G.ndX t1.at_ t2.at_ t3.at_ (two_ne t1.at_ t2.at_ h12) (two_ne t1.at_ t3.at_ h13) (two_ne t2.at_ t3.at_ h23) hx hy hz hl (sw_of hk hw)) fun Z σ H w => by
    obtain ⟨m, s, f, w⟩ := i_par w
    refine ⟨m, s, f, w.imp fun sls m1 s1 H1 v1 f1 w1 vs hv => ?_⟩
    obtain ⟨v, r, rfl, v', r', rfl, v2, r2, rfl, rfl, q⟩ := w1 vs hv
    exact ⟨_, _, _, rfl, q⟩

theorem z_parT (G : Gd e N sc kk Wx X) {ts : List Expr} (hk : X.env.scope.kind = .function) (t : Tgs X ts l) (hl : PA X es (TLs e Wx rs)) (hn : es.length ≤ sizeLine) (hw : swP X.env.scope ts es = some none) (hlen : ∀ s ds s', rs s = some (.val ds, s') → ds.length = es.length) :
    PS X (.Assign [.Tuple ts kt pt] (.Tuple es k2 pt2) pos) (TSt e Wx (parR rs l)) := by
  refine PS.imp (ps_asg (pe_tup hl) (pg_tup G.calm (t.pgs G.ndX) t.len t.nostar) rfl (sw_of hk hw) rfl) fun Z σ H ⟨m, s, f, w⟩ => ?_
  unfold parR at w
  refine ⟨m, s, f, w.split.impE fun sls m1 s1 H1 e1 v1 f1 w1 vs hr => ⟨by rw [hr.length, hlen _ _ _ e1]; exact hn, fun p hp => ?_⟩⟩
  split at w1
  · rename_i s2 h2
    have hll : vs.length = l.length := by
      rw [hr.length]
      have : ∀ (l : List Nat) (sls : List Sl) (s : S), setO s l sls = some s2 → sls.length = l.length := by
        intro l
        induction l with
        | nil => intro sls s h; cases sls with | nil => rfl | cons => cases h
        | cons i l ih => intro sls s h; cases sls with | nil => cases h | cons sl sls => rw [List.length_cons, List.length_cons, ih sls _ h]
      exact this _ _ _ h2
    refine ⟨p, vs, rfl, SqT.of upd_same, hll, ?_⟩
    have f2 : Fm e σ (upd H1 p (.tup vs)) m1 s1 := f1.new hp
    have v2 : Evo σ m s H σ m1 s1 (upd H1 p (.tup vs)) := v1.new (v1.fresh hp)
    have hr2 : ResL e σ m1 s1 H (upd H1 p (.tup vs)) vs sls := hr.re (.new hp) (fun j u t h1 h2 q hq o ho => by rw [upd_ne (ne_of_none ho hp)]; exact ho) fun j u t h1 h2 q hq => ((hr.at j u t h1 h2).oa_wr q hq).1
    exact i_setO h2 hr2 (fun q h => h) f2 v2 fun σ' f3 v3 => w1.ok v3 f3
  · exact w1.elim
def notTup : Expr → Bool
  | .Tuple .. => false
  | _ => true
theorem z_unp (G : Gd e N sc kk Wx X) {ts : List Expr} (t : Tgs X ts l) (ha : PE X a (TO e Wx ra)) (hn : notTup a = true) :
    PS X (.Assign [.Tuple ts kt pt] a pos) (TSt e Wx fun s => bnd (frz (ra s)) fun d s1 => match itemsOf d with | some ds => (match setL s1 l ds with | some s2 => okv .nx s2 | none => none) | none => none) := by
  refine PS.imp (ps_asg (xd ha) (pg_un G.calm G.ndX t) (by cases a <;> first | rfl | cases hn) (by cases a <;> first | rfl | cases hn) rfl) fun Z σ H ⟨m, s, f, w⟩ => ?_
  refine ⟨m, s, f, w.split.imp fun d m1 s1 H1 v1 f1 w1 v hv => ?_⟩
  cases hd : itemsOf d with
  | none => rw [hd] at w1; exact w1.elim
  | some ds =>
    rw [hd] at w1
    change RunZ e Wx σ m s H (match setL s1 l ds with | some s2 => okv .nx s2 | none => none) Z at w1
    cases hs : setL s1 l ds with
    | none => rw [hs] at w1; exact w1.elim
    | some s2 =>
      rw [hs] at w1
      have hb : bindG s1 (.tp l) d = some s2 := by cases d <;> cases hd <;> exact hs
      exact i_bind G.hK hb hv f1 fun σ' f2 v2 _ => w1.ok (v2 v1) f2
end
end GP

set_option Elab.async false
set_option linter.all false
set_option maxRecDepth 100000
set_option autoImplicit false
set_option maxHeartbeats 1000000

namespace GP
open PySem PySem.Spec L2

def nk (ks : List Int) : NestedKey := .tup (ks.map .num)
theorem hashes_num (w : World) : ∀ ks : List Int, NestedKey.hashes w (ks.map .num) = ks.map hashInt
  | [] => rfl
  | k :: ks => by rw [List.map_cons, NestedKey.hashes, hashes_num w ks, NestedKey.hash]; rfl
theorem nk_hash (w : World) (ks : List Int) : (nk ks).hash w = khash ks := by
  unfold nk khash
  rw [NestedKey.hash, hashes_num]
theorem nk_inj {a b : List Int} (h : nk a = nk b) : a = b := by
  unfold nk at h
  replace h : a.map NestedKey.num = b.map .num := by injection h
  induction a generalizing b with
  | nil => cases b with | nil => rfl | cons => cases h
  | cons x a ih => cases b with
    | nil => cases h
    | cons y b =>
      rw [List.map_cons, List.map_cons, List.cons.injEq] at h
      obtain ⟨h1, h2⟩ := h
      have h1 : x = y := by injection h1
      rw [h1, ih h2]
theorem nk_depth (ks : List Int) : (nk ks).depth ≤ 8 := by
  unfold nk
  rw [NestedKey.depth]
  have : ∀ ks : List Int, NestedKey.depthAll (ks.map .num) = 0 := by
    intro ks
    induction ks with
    | nil => rfl
    | cons k ks ih => rw [List.map_cons, NestedKey.depthAll, ih]; rfl
  rw [this]; decide
def keyNum : V → Option Int
  | .int i => some i
  | .bl b => some (if b then 1 else 0)
  | _ => none

def KTup (H : Hp) (x : List Int × Addr) : Prop := ∃ vs, H x.2 = some (.tup vs) ∧ vs.map keyNum = x.1.map some
section
variable {X : Cx} {pins : List (Addr × Obj)} {σ : L2.St} {H : Hp} {s : Shared}
theorem nested_all {h : Heap} : ∀ {vs : List V} {us : List Value} {ks : List Int}, Vals vs us → vs.map keyNum = ks.map some → NestedAll h (ks.map .num) us
  | [], _, [], .nil, _ => .nil
  | [], _, _ :: _, .nil, e => by cases e
  | _ :: _, _, [], _, e => by cases e
  | v :: vs, _, k :: ks, .cons r t, e => by
    rw [List.map_cons, List.map_cons, List.cons.injEq] at e
    rw [List.map_cons]
    refine .cons ?_ (nested_all t e.2)
    cases v with
    | int i =>
      have e1 : i = k := by have := e.1; simp [keyNum] at this; exact this
      obtain ⟨tk, rfl⟩ := r
      subst e1
      exact .int _ _
    | bl b =>
      have e1 : (if b then (1 : Int) else 0) = k := by have := e.1; simp [keyNum] at this; exact this
      cases r
      exact .bool (by rw [← e1])
    | _ => simp [keyNum] at e
theorem is_key (I : Inv X pins σ H s) {x : List Int × Addr} (h : KTup H x) : (nestedKind X.prog X.w).is s.heap (nk x.1) x.2 := by
  obtain ⟨vs, h1, h2⟩ := h
  obtain ⟨z, its, r, hi⟩ := I.hok _ _ h1
  refine ⟨?_, nk_depth _⟩
  obtain ⟨o, n, ho, hc, hd⟩ : ∃ o n, s.heap.get? x.2 = some o ∧ o.cls = .type "tuple" ∧ o.data = .seq its.toArray n := by
    obtain ⟨o, ho, hc, n, hd⟩ := hi
    exact ⟨o, n, ho, hc, hd⟩
  exact .tup ho hc hd (by simpa using nested_all r h2)
def toX (xs : List (List Int × Addr)) : List (NestedKey × Addr × Value) := xs.map fun x => (nk x.1, x.2, Value.bool true)
theorem toX_entries (P : Program) (w : World) (xs : List (List Int × Addr)) : (toX xs).map (entryOfKey (nestedKind P w)) = xs.map fun x => (⟨khash x.1, .ref x.2, .bool true⟩ : DictEntry) := by
  unfold toX
  rw [List.map_map]
  apply List.map_congr_left
  intro x _
  show (⟨(nk x.1).hash w, .ref x.2, .bool true⟩ : DictEntry) = _
  rw [nk_hash]
theorem toX_nd {xs : List (List Int × Addr)} (h : (xs.map fun x => x.1).Nodup) : ((toX xs).map fun x => x.1).Nodup := by
  unfold toX
  rw [List.map_map]
  have : (xs.map ((fun x : NestedKey × Addr × Value => x.1) ∘ fun x => (nk x.1, x.2, Value.bool true))) = (xs.map fun x => x.1).map nk := by rw [List.map_map]; rfl
  rw [this]
  refine List.Pairwise.map nk (fun a b hab z => hab (nk_inj z)) h
theorem kd_dict (I : Inv X pins σ H s) {a : Addr} {xs : List (List Int × Addr)} (ha : H a = some (kdO a xs)) (hk : ∀ x ∈ xs, KTup H x) (nd : (xs.map fun x => x.1).Nodup) :
    (a == sysModules) = false ∧ s.heap.DictOfH (nestedKind X.prog X.w) a (toX xs) := by
  obtain ⟨⟨h0, o, es, ep, ho, hx, hd, he⟩, _, _⟩ := I.hok _ _ ha
  refine ⟨h0, o, es, ep, ho, hx, hd, by rw [toX_entries]; exact he, fun y hy => ?_, toX_nd nd⟩
  obtain ⟨x, hx, rfl⟩ := List.mem_map.mp hy
  exact is_key I (hk x hx)
def putX (ks : List Int) (b : Addr) (xs : List (List Int × Addr)) : List (List Int × Addr) := if (xs.any fun x => decide (x.1 = ks)) = true then xs else xs ++ [(ks, b)]
theorem stored_toX {ks : List Int} {b : Addr} {xs : List (List Int × Addr)} : storedH (toX xs) (nk ks) b (.bool true) = toX (putX ks b xs) := by
  have hany : (atKey (toX xs) (nk ks)).isSome = xs.any fun x => decide (x.1 = ks) := by
    unfold atKey toX
    rw [Option.isSome_map]
    induction xs with
    | nil => rfl
    | cons x xs ih =>
      rw [List.map_cons, List.find?_cons, List.any_cons]
      by_cases q : x.1 = ks
      · rw [decide_eq_true (show nk x.1 = nk ks by rw [q]), decide_eq_true q]; rfl
      · rw [decide_eq_false (fun z => q (nk_inj z)), decide_eq_false q]
        exact ih
  unfold storedH putX
  rw [hany]
  split
  · unfold toX
    rw [List.map_map]
    apply List.map_congr_left
    intro x _
    show putAt (nk ks) (.bool true) (nk x.1, x.2, Value.bool true) = _
    unfold putAt
    split <;> rfl
  · unfold toX
    rw [List.map_append]; rfl
theorem ok_kd {h' : Heap} {H' : Hp} {a : Addr} {xs : List (List Int × Addr)} {P : Program} {w : World} (h0 : (a == sysModules) = false) (hm : h'.DictOfH (nestedKind P w) a (toX xs)) : ObjOk P w H' h' a (kdO a xs) := by
  obtain ⟨o, es, ep, ho, hx, hd, he, _, _⟩ := hm
  rw [toX_entries] at he
  refine ⟨⟨h0, o, es, ep, ho, hx, hd, he⟩, ⟨o, ho⟩, ?_⟩
  rintro h1 h2 ⟨k0, o, es, ep, ho, hr⟩ hk
  exact ⟨k0, o, es, ep, hk o ho, hr⟩
end
section
variable {X : Cx}

def tKnew : TE := fun _ H Q => ∀ p, H p = none → Q (.ref p) (upd H p (kdO p []))
theorem pe_knew {pos : Pos} : PE X (.Dict [] [] pos) tKnew := ⟨fun pins s σ H Q I h =>
  wpAny_Dict_empty ⟨.ref s.heap.objs.size, _, I.laid (a := s.heap.objs.size) (o := kdO s.heap.objs.size []) (t' := s.toks) (fun _ _ q => Heap.get?_push_of_some _ q) (Nat.le_refl _) (by
    have h0 := (dk_empty (P := X.prog) (w := X.w) (H := H) s.heap I.big).2.1
    exact ok_kd (xs := []) h0 (Heap.DictOfH.new s.heap)), rfl, h _ (I.hok.fresh (Nat.le_refl _))⟩⟩
def rKeyV : TSet := fun o i v H Q => ∃ (a : Addr) (xs : List (List Int × Addr)) (b : Addr) (ks : List Int), o = .ref a ∧ i = .ref b ∧ v = .bl true ∧ H a = some (kdO a xs) ∧ (∀ x ∈ (ks, b) :: xs, KTup H x) ∧ (xs.map fun x => x.1).Nodup ∧ xs.length ≤ sizeLine ∧ Q (upd H a (kdO a (putX ks b xs)))
theorem set_key (hu : X.A.units + 10 < cLine) : PSet X rKeyV := by
  rintro pins s σ H o i v ov iv u Q I ro ri rv ⟨a, xs, b, ks, rfl, rfl, rfl, ha, hk, nd, hz, q⟩
  cases ro
  cases ri
  cases rv
  obtain ⟨h0, hm⟩ := kd_dict I ha (fun x hx => hk x (List.mem_cons_of_mem _ hx)) nd
  have hkey := is_key I (hk (ks, b) List.mem_cons_self)
  refine wpAny_setItem_heap (hsz := by unfold toX; rw [List.length_map]; exact hz) (knd := nestedKind X.prog X.w) (show X.A.units + 1 + 8 < cLine by omega) hkey hm fun h' hm' hs => ?_
  rw [stored_toX] at hm'
  refine ⟨_, I.write (x := a) (e := a) (o := kdO a (putX ks b xs)) (by rw [ha]; exact trivial) (.inl rfl) (fun c u hc hu => (hs.2 c hc).trans hu) ?_ (ok_kd h0 hm'), q⟩
  obtain ⟨o, _, _, ho, _⟩ := hm'
  exact ⟨o, ho⟩
def rListK : List V → Hp → VK → Prop := fun vs H Q => ∃ (a : Addr) (xs : List (List Int × Addr)), vs = [.ref a] ∧ H a = some (kdO a xs) ∧ xs.length ≤ sizeLine ∧ ∀ p, H p = none → Q (.ref p) (upd H p (.lst (xs.map fun x => V.ref x.2)))
theorem call_list_kd (hc : X.calm = true) : CallR X (.type "list") rListK := by
  intro pins s σ H vs us Q I r h
  obtain ⟨d, xs, rfl, ha, hz, q⟩ := h
  obtain ⟨u, rfl, rx⟩ := r.one
  cases rx
  obtain ⟨⟨h0, o, es, ep, ho, hx, hd, he⟩, _, _⟩ := I.hok _ _ ha
  have l1 : es.size = xs.length := by rw [← Array.length_toList, he, List.length_map]
  refine PySem.W.kdl_call (L2.kdl_raw h0 hx hd) (I.ok.hd hc) ho (by omega) fun h' tk acc' c' kp e it => ?_
  have ea : acc'.toList = xs.map fun x => Value.ref x.2 := by
    have hl : acc'.toList.length = xs.length := by rw [Array.length_toList, it.1]; exact l1
    apply List.ext_getElem?
    intro j
    rw [List.getElem?_map]
    cases hj : acc'.toList[j]? with
    | none =>
      have h1 := List.getElem?_eq_none_iff.mp hj
      rw [List.getElem?_eq_none (by omega)]
      all_goals rfl
    | some v =>
      obtain ⟨en, hen, hv⟩ := it.2 j v (by rw [← Array.getElem?_toList]; exact hj)
      have qe : es[j]? = (xs.map fun x => (⟨khash x.1, .ref x.2, .bool true⟩ : DictEntry))[j]? := by rw [← he, Array.getElem?_toList]
      rw [hen, List.getElem?_map] at qe
      cases hb : xs[j]? with
      | none => rw [hb] at qe; cases qe
      | some b =>
        rw [hb] at qe
        have e2 : en = (⟨khash b.1, .ref b.2, .bool true⟩ : DictEntry) := Option.some.inj qe
        rw [hv, e2]
        all_goals rfl
  have eb : acc'.toList = (xs.map fun x => x.2).map Value.ref := by rw [ea, List.map_map]; all_goals rfl
  have rv : Vals ((xs.map fun x => x.2).map V.ref) acc'.toList := by rw [eb]; exact vals_refs _
  have em : (xs.map fun x => V.ref x.2) = (xs.map fun x => x.2).map V.ref := by rw [List.map_map]; rfl
  rw [em] at q
  refine ⟨.ref s.heap.objs.size, _, I.laid (t' := tk) (o := .lst ((xs.map fun x => x.2).map V.ref)) kp (Nat.le_refl _) ?_, rfl, q _ (I.hok.fresh (Nat.le_refl _))⟩
  exact ⟨by rw [List.length_map, List.length_map]; exact hz, acc'.toList, c', rv, by rw [Array.toArray_toList]; exact e⟩
end
end GP

set_option Elab.async false
set_option linter.all false
set_option maxRecDepth 100000
set_option autoImplicit false
set_option maxHeartbeats 1000000

namespace GP
open PySem PySem.Spec L2

section
variable {e : En} {σ : St} {m : List Addr} {s : S} {H : Hp} {i : Nat} {p : Addr}
theorem stayW {o : HO} (hp : ∀ u, H p = some u → wrO u = true) : Stay m H m (L2.upd H p o) := ⟨fun b u q w => by rw [upd_ne (fun z => by subst z; rw [hp u q] at w; cases w)]; exact q, fun _ _ h => h⟩
theorem own_re {i j : Nat} {a : Addr} {sl sl' : Sl} (h0 : s.ρ[i]? = some sl) (o0 : sl.isOwn = true) (w : OwnAt σ (s.put i sl') j a) : OwnAt σ s j a := by
  obtain ⟨h, t, hs, ho⟩ := w
  rw [put_get] at hs
  by_cases z : i = j
  · subst z; exact ⟨h, sl, h0, o0⟩
  · rw [if_neg z] at hs; exact ⟨h, t, hs, ho⟩
theorem wr_re {i : Nat} {a : Addr} {sl sl' : Sl} (h0 : s.ρ[i]? = some sl) (o0 : sl.isOwn = true) (w : Wr σ m (s.put i sl') a) : Wr σ m s a := by
  rcases w with w | ⟨j, w⟩
  · exact .inl w
  · exact .inr ⟨j, own_re h0 o0 w⟩

theorem Fm.reOwn {sl sl' : Sl} {o : HO} (f : Fm e σ H m s) (h0 : s.ρ[i]? = some sl) (o0 : sl.isOwn = true) (hs : σ[i]? = some (some (.ref p))) (hw : ∀ u, H p = some u → wrO u = true) (hn : SlAt e m (L2.upd H p o) σ i sl') :
    Fm e σ (L2.upd H p o) m (s.put i sl') ∧ Evo σ m s H σ m (s.put i sl') (L2.upd H p o) := by
  have wp : OwnAt σ s i p := ⟨hs, sl, h0, o0⟩
  have st : Stay m H m (L2.upd H p o) := stayW hw
  have ne : ∀ {j a}, OwnAt σ s j a → j ≠ i → a ≠ p := fun {j a} w hj z => hj (by subst z; exact f.od j i a w wp)
  refine ⟨⟨by rw [put_len]; exact f.len, fun j t hj => ?_, f.wl, fun n a w h1 h2 => ?_, f.wn, fun j l a h1 h2 => f.od j l a (own_re h0 o0 h1) (own_re h0 o0 h2), fun j a h => f.om j a (own_re h0 o0 h)⟩,
    ⟨fun b u h n => by rw [upd_ne (fun z => by subst z; exact n (.inr ⟨i, wp⟩))]; exact h, fun b x => .inl (wr_re h0 o0 x), fun _ _ h => h, fun b u h => ?_⟩⟩
  · rw [put_get] at hj
    by_cases z : i = j
    · subst z
      rw [if_pos rfl, h0] at hj
      cases hj; exact hn
    · rw [if_neg z] at hj
      have x := f.slot j t hj
      cases t with
      | emp => trivial
      | val d => obtain ⟨u, q, r⟩ := x; exact ⟨u, q, r.stay st⟩
      | own xs => obtain ⟨a, vs, q, h, r⟩ := x; exact ⟨a, vs, q, by rw [upd_ne (ne ⟨q, _, hj, rfl⟩ (Ne.symm z))]; exact h, DatL.stay st r⟩
      | ownd ks us => obtain ⟨a, kvs, q, h, r, r2⟩ := x; exact ⟨a, kvs, q, by rw [upd_ne (ne ⟨q, _, hj, rfl⟩ (Ne.symm z))]; exact h, DatL.stay st r, DatL.stay st r2⟩
      | keys ks => obtain ⟨a, xs, q, h, r⟩ := x; exact ⟨a, xs, q, by rw [upd_ne (ne ⟨q, _, hj, rfl⟩ (Ne.symm z))]; exact h, r.stay st⟩
  · have x := f.wok n a w h1 h2
    have na : a ≠ p := fun z => by subst z; exact f.om i _ wp (List.mem_of_getElem? h1)
    cases w with
    | dict kvs => obtain ⟨us, h, r⟩ := x; exact ⟨us, by rw [upd_ne na]; exact h, r.stay st⟩
    | inst c fs => obtain ⟨C, dx, us, hc, h, r⟩ := x; exact ⟨C, dx, us, hc, by rw [upd_ne na]; exact h, r.stay st⟩
  · by_cases z : b = p
    · subst z; exact ⟨_, upd_same⟩
    · exact ⟨u, by rw [upd_ne z]; exact h⟩
theorem Fm.reLst {xs xs' : List D} {vs vs' : List V} (f : Fm e σ H m s) (h0 : s.ρ[i]? = some (.own xs)) (hs : σ[i]? = some (some (.ref p))) (hp : H p = some (.lst vs)) (hd : DatL e m H vs' xs') :
    Fm e σ (L2.upd H p (.lst vs')) m (s.put i (.own xs')) ∧ Evo σ m s H σ m (s.put i (.own xs')) (L2.upd H p (.lst vs')) := by
  have hw : ∀ u, H p = some u → wrO u = true := fun u q => by rw [hp] at q; cases q; rfl
  exact f.reOwn h0 rfl hs hw ⟨p, vs', hs, upd_same, DatL.stay (stayW hw) hd⟩

theorem Fm.reW {n : Nat} {wo : WO} {o : HO} (f : Fm e σ H m s) (hm : m[n]? = some p) (hw : ∀ u, H p = some u → wrO u = true) (hn : WoAt e m (L2.upd H p o) p wo) :
    Fm e σ (L2.upd H p o) m { s with W := s.W.set n wo } ∧ Evo σ m s H σ m { s with W := s.W.set n wo } (L2.upd H p o) := by
  have st : Stay m H m (L2.upd H p o) := stayW hw
  have wm : p ∈ m := List.mem_of_getElem? hm
  have ne : ∀ {j a}, OwnAt σ s j a → a ≠ p := fun {j a} w z => f.om j a w (by rw [z]; exact wm)
  refine ⟨⟨f.len, fun j t hj => ?_, by show _ = (s.W.set n wo).length; rw [List.length_set]; exact f.wl, fun n' a w h1 h2 => ?_, f.wn, f.od, f.om⟩, ⟨fun b u h nw => by rw [upd_ne (fun z => by subst z; exact nw (.inl wm))]; exact h, fun b x => .inl x, fun _ _ h => h, fun b u h => ?_⟩⟩
  · have x := f.slot j t hj
    cases t with
    | emp => trivial
    | val d => obtain ⟨u, q, r⟩ := x; exact ⟨u, q, r.stay st⟩
    | own xs => obtain ⟨a, vs, q, h, r⟩ := x; exact ⟨a, vs, q, by rw [upd_ne (ne ⟨q, _, hj, rfl⟩)]; exact h, DatL.stay st r⟩
    | ownd ks us => obtain ⟨a, kvs, q, h, r, r2⟩ := x; exact ⟨a, kvs, q, by rw [upd_ne (ne ⟨q, _, hj, rfl⟩)]; exact h, DatL.stay st r, DatL.stay st r2⟩
    | keys ks => obtain ⟨a, xs, q, h, r⟩ := x; exact ⟨a, xs, q, by rw [upd_ne (ne ⟨q, _, hj, rfl⟩)]; exact h, r.stay st⟩
  · have h2 : (s.W.set n wo)[n']? = some w := h2
    by_cases z : n = n'
    · subst z
      rw [hm] at h1; cases h1
      rw [List.getElem?_set_self'] at h2
      cases y : s.W[n]? <;> rw [y] at h2 <;> cases h2
      exact hn
    · rw [List.getElem?_set_ne z] at h2
      have x := f.wok n' a w h1 h2
      have na : a ≠ p := fun y => z (f.wn n n' p hm (by rw [← y]; exact h1))
      cases w with
      | dict kvs => obtain ⟨us, h, r⟩ := x; exact ⟨us, by rw [upd_ne na]; exact h, r.stay st⟩
      | inst c fs => obtain ⟨C, dx, us, hc, h, r⟩ := x; exact ⟨C, dx, us, hc, by rw [upd_ne na]; exact h, r.stay st⟩
  · by_cases z : b = p
    · subst z; exact ⟨_, upd_same⟩
    · exact ⟨u, by rw [upd_ne z]; exact h⟩
theorem DatF.putKV {us : List (Str × V)} {kvs : List (Str × D)} {k : Str} {v : V} {d : D} (h : DatF e m H us kvs) (hd : Dat e m H v d) : DatF e m H (GP.putKV k v us) (GP.putKV k d kvs) := by
  induction h with
  | nil => exact .nil
  | @cons k' v' d' us kvs h t ih =>
    unfold GP.putKV
    rw [List.map_cons, List.map_cons]
    show DatF e m H ((if k' = k then (k', v) else (k', v')) :: _) ((if k' = k then (k', d) else (k', d')) :: _)
    split
    · exact .cons hd ih
    · exact .cons h ih
theorem DatF.has {us : List (Str × V)} {kvs : List (Str × D)} {k : Str} (h : DatF e m H us kvs) (g : (kvs.lookup k).isSome = true) : ((us.map skey).any fun kv => decide (kv.1 = Sum.inr k)) = true := by
  induction h with
  | nil => cases g
  | @cons k' v' d' us kvs h t ih =>
    rw [List.lookup_cons] at g
    rw [List.map_cons, List.any_cons]
    by_cases q : k = k'
    · subst q; simp [skey]
    · rw [beq_eq_false_iff_ne.mpr q] at g
      rw [ih g, Bool.or_true]
theorem DatF.length {us : List (Str × V)} {kvs : List (Str × D)} (h : DatF e m H us kvs) : us.length = kvs.length := by
  induction h with
  | nil => rfl
  | cons _ _ ih => rw [List.length_cons, List.length_cons, ih]
theorem putK_skey {us : List (Str × V)} {k : Str} {v : V} (h : ((us.map skey).any fun kv => decide (kv.1 = Sum.inr k)) = true) : putK (us.map skey) (Sum.inr k) v = (GP.putKV k v us).map skey := by
  unfold putK
  rw [if_pos h]
  unfold GP.putKV
  rw [List.map_map, List.map_map]
  apply List.map_congr_left
  intro x _
  show (if (Sum.inr x.1 : Key) = Sum.inr k then ((Sum.inr x.1 : Key), v) else (Sum.inr x.1, x.2)) = skey (if x.1 = k then (x.1, v) else x)
  by_cases q : x.1 = k
  · rw [if_pos (by rw [q]), if_pos q]; rfl
  · rw [if_neg (fun z => q (Sum.inr.inj z)), if_neg q]; rfl
theorem ikeys {kvs : List (Key × V)} {ks : List D} {ns : List Int} (h : DatL e m H (kvs.map fun p => kV p.1) ks) (hn : intsO ks = some ns) : kvs.map (fun p => p.1) = ns.map Sum.inl := by
  rw [ints_map hn] at h
  have := h.ints
  clear h hn
  induction kvs generalizing ns with
  | nil => cases ns with | nil => rfl | cons => simp at this
  | cons p kvs ih => cases ns with
    | nil => simp at this
    | cons n ns =>
      simp only [List.map_cons, List.cons.injEq] at this ⊢
      refine ⟨?_, ih this.2⟩
      cases hp : p.1 with
      | inl i => rw [hp] at this; have := this.1; simp [kV] at this; rw [this]
      | inr x => rw [hp] at this; have := this.1; simp [kV] at this
theorem any_ikeys {kvs : List (Key × V)} {ns : List Int} {n : Int} (hk : kvs.map (fun p => p.1) = ns.map Sum.inl) : (kvs.any fun kv => decide (kv.1 = Sum.inl n)) = ns.any fun k => decide (k = n) := by
  induction kvs generalizing ns with
  | nil => cases ns with | nil => rfl | cons => simp at hk
  | cons p kvs ih => cases ns with
    | nil => simp at hk
    | cons k ns =>
      simp only [List.map_cons, List.cons.injEq] at hk
      rw [List.any_cons, List.any_cons, ih hk.2, hk.1]
      congr 1
      simp
theorem putI_at {kvs : List (Key × V)} {ks us : List D} {ns : List Int} {n : Int} {v : V} {d : D} (h : DatL e m H (kvs.map fun p => kV p.1) ks) (h2 : DatL e m H (kvs.map fun p => p.2) us) (hn : intsO ks = some ns) (hd : Dat e m H v d) :
    DatL e m H ((putK kvs (Sum.inl n) v).map fun p => kV p.1) (putI n d ns us).1 ∧ DatL e m H ((putK kvs (Sum.inl n) v).map fun p => p.2) (putI n d ns us).2 := by
  have hk := ikeys h hn
  have hks := ints_map hn
  subst hks
  unfold putK putI
  rw [any_ikeys hk]
  split
  · constructor
    · rw [List.map_map]
      have : (kvs.map ((fun p : Key × V => kV p.1) ∘ fun kv => if kv.1 = Sum.inl n then (kv.1, v) else kv)) = kvs.map fun p => kV p.1 := by
        apply List.map_congr_left
        intro x _
        show kV (if x.1 = Sum.inl n then (x.1, v) else x).1 = kV x.1
        split <;> rfl
      rw [this]; exact h
    · rw [List.map_map]
      rename_i hany
      clear h hn hany
      show DatL e m H _ (List.zipWith (fun k x => if k = n then d else x) ns us)
      induction kvs generalizing us ns with
      | nil => cases h2; cases ns <;> exact .nil
      | cons p kvs ih => cases ns with
        | nil => simp at hk
        | cons k ns =>
          simp only [List.map_cons, List.cons.injEq] at hk
          cases h2 with
          | cons q t =>
            rw [List.map_cons, List.zipWith_cons_cons]
            refine .cons ?_ (ih t hk.2)
            show Dat e m H (if p.1 = Sum.inl n then (p.1, v) else p).2 _
            rw [hk.1]
            by_cases z : k = n
            · rw [if_pos (by rw [z]), if_pos z]; exact hd
            · rw [if_neg (fun y => z (Sum.inl.inj y)), if_neg z]; exact q
  · rw [List.map_append, List.map_append]
    exact ⟨h.append (.cons (.int n) .nil), h2.append (.cons hd .nil)⟩
theorem Fm.reDic {ks us : List D} {ns : List Int} {n : Int} {kvs : List (Key × V)} {v : V} {d : D} (f : Fm e σ H m s) (h0 : s.ρ[i]? = some (.ownd ks us)) (hs : σ[i]? = some (some (.ref p))) (hp : H p = some (.dK kvs)) (h : DatL e m H (kvs.map fun p => kV p.1) ks) (h2 : DatL e m H (kvs.map fun p => p.2) us)
    (hn : intsO ks = some ns) (hd : Dat e m H v d) :
    Fm e σ (L2.upd H p (.dK (putK kvs (Sum.inl n) v))) m (s.put i (.ownd (putI n d ns us).1 (putI n d ns us).2)) ∧ Evo σ m s H σ m (s.put i (.ownd (putI n d ns us).1 (putI n d ns us).2)) (L2.upd H p (.dK (putK kvs (Sum.inl n) v))) := by
  have hw : ∀ u, H p = some u → wrO u = true := fun u q => by rw [hp] at q; cases q; rfl
  obtain ⟨k1, k2⟩ := putI_at h h2 hn hd
  exact f.reOwn h0 rfl hs hw ⟨p, _, hs, upd_same, DatL.stay (stayW hw) k1, DatL.stay (stayW hw) k2⟩
end


def rSub (X : Cx) : TSet := fun o i v H Q => rSetL o i v H Q ∨ (∃ a H', o = .ref a ∧ DPut H a i v H' ∧ Q H') ∨ rKeyV o i v H Q
theorem set_sub {X : Cx} (hu : X.A.units + 10 < cLine) : PSet X (rSub X) := by
  intro pins s σ H o i v ov iv u Q I ro ri rv h
  rcases h with h | ⟨a, H', rfl, g, q⟩ | h
  · exact set_list pins s σ H o i v ov iv u Q I ro ri rv h
  · cases ro
    exact d_setItem (by omega) I g ri rv fun s4 I4 => ⟨H', I4, q⟩
  · exact set_key hu pins s σ H o i v ov iv u Q I ro ri rv h
section
variable {e : En} {N : List Str} {sc : Scope} {kk : Nat} {Wx : WX} {X : Cx} {Γ : Ctx} {a b c ex : Expr} {es : List Expr} {pos p pt pt2 : Pos} {ra rb rk : S → R Sl}
theorem key_num {m : List Addr} {H : Hp} : ∀ {es : List D} {vs : List V} {ns : List Int}, DatL e m H vs es → allSome elemNum es = some ns → vs.map keyNum = ns.map some
  | [], _, ns, .nil, h => by
    cases h; rfl
  | d :: es, _, ns, .cons hd t, h => by
    unfold allSome at h
    split at h
    · rename_i a b h1 h2
      cases h
      have ih := key_num t h2
      rw [List.map_cons, List.map_cons, ih]
      congr 1
      cases d <;> simp [elemNum] at h1 <;> cases hd <;> simp [keyNum, h1]
    · cases h
theorem key_tup {m : List Addr} {H : Hp} {k : V} {es : List D} (hk : Dat e m H k (.tup es)) (h : keyOk es = true) : ∃ b ks, k = .ref b ∧ KTup H (ks, b) ∧ keyO (.tup es) = some ks := by
  unfold keyOk at h
  rw [Bool.and_eq_true_iff, Bool.and_eq_true_iff] at h
  obtain ⟨⟨h1, h2⟩, _⟩ := h
  obtain ⟨ks, hks⟩ := Option.isSome_iff_exists.mp h1
  cases hk with
  | tup hT hL =>
    have hn := key_num hL hks
    rcases hT with hT | ⟨⟨z, zs, rfl⟩, _⟩
    · exact ⟨_, ks, rfl, ⟨_, hT, hn⟩, hks⟩
    · cases ks with
      | nil => cases hn
      | cons i ks => simp [keyNum] at hn
theorem KeyL.tups {m : List Addr} {H : Hp} {xs : List (List Int × Addr)} {ks : List D} (h : KeyL e m H xs ks) : ∀ x ∈ xs, KTup H x := by
  obtain ⟨h1, h2, h3, h4⟩ := h
  clear h3
  induction xs generalizing ks with
  | nil => intro x hx; cases hx
  | cons y xs ih =>
    cases ks with
    | nil => cases h2
    | cons d ks =>
      rw [List.map_cons] at h1 h2
      rw [List.map_cons, List.cons.injEq] at h2
      cases h1 with
      | cons hd t =>
        intro x hx
        rcases List.mem_cons.mp hx with rfl | hx
        · obtain ⟨es, rfl, hok⟩ := h4 d List.mem_cons_self
          obtain ⟨b, ks', e1, e2, e3⟩ := key_tup hd hok
          have e1 : x.2 = b := by injection e1
          rw [e3] at h2
          have e4 : ks' = x.1 := Option.some.inj h2.1
          rw [← e1, e4] at e2
          exact e2
        · exact ih t h2.2 (fun d hd => h4 d (List.mem_cons_of_mem _ hd)) x hx
theorem KeyL.put {m : List Addr} {H : Hp} {xs : List (List Int × Addr)} {ks es : List D} {b : Addr} {k : List Int} (h : KeyL e m H xs ks) (hd : Dat e m H (.ref b) (.tup es)) (hk : keyO (.tup es) = some k) (ho : keyOk es = true) : KeyL e m H (putX k b xs) (addK (.tup es) ks) := by
  have hany : (ks.any fun z => decide (keyO z = keyO (.tup es))) = xs.any fun x => decide (x.1 = k) := by
    have h2 := h.key
    rw [hk]
    clear h
    induction xs generalizing ks with
    | nil => cases ks with | nil => rfl | cons => cases h2
    | cons y xs ih => cases ks with
      | nil => cases h2
      | cons d ks =>
        rw [List.map_cons, List.map_cons, List.cons.injEq] at h2
        rw [List.any_cons, List.any_cons, ih h2.2, h2.1]
        congr 1
        simp
  unfold putX addK
  rw [hany]
  split
  · exact h
  · rename_i hn
    refine ⟨by rw [List.map_append]; exact h.dat.append (.cons hd .nil), by rw [List.map_append, List.map_append, h.key, List.map_cons, hk]; rfl, ?_, fun d hd' => ?_⟩
    · rw [List.map_append]
      refine List.nodup_append.mpr ⟨h.nd, by simp, fun a ha c hc z => ?_⟩
      obtain ⟨x, hx, rfl⟩ := List.mem_map.mp ha
      have : c = k := by simpa using hc
      exact hn (List.any_eq_true.mpr ⟨x, hx, decide_eq_true (by rw [z, this])⟩)
    · rcases List.mem_append.mp hd' with hd' | hd'
      · exact h.ok d hd'
      · exact ⟨es, List.mem_singleton.mp hd', ho⟩
theorem i_sub {σ : St} {m : List Addr} {s s' : S} {H : Hp} {x : Nat} {kd d : D} {k v : V} {Q : Hp → Prop} (f : Fm e σ H m s) (h : subS s x kd d = some s') (hk : Dat e m H k kd) (hd : Dat e m H v d) (q : ∀ H', Fm e σ H' m s' → Evo σ m s H σ m s' H' → Q H') :
    ∃ o, σ[x]? = some (some o) ∧ rSub X o k v H Q := by
  unfold subS at h
  split at h
  · rename_i xs i h0
    obtain ⟨j, hj, rfl⟩ := Option.map_eq_some_iff.mp h
    cases hk
    obtain ⟨p, vs, hs, hp, hv⟩ := f.slot x _ h0
    obtain ⟨f1, w1⟩ := f.reLst h0 hs hp (hv.set hd j)
    exact ⟨.ref p, hs, .inl ⟨p, vs, i, j, rfl, rfl, hp, by rw [hv.length]; exact hj, q _ f1 w1⟩⟩
  · rename_i ks es h0
    split at h <;> cases h
    rename_i hc
    rw [Bool.and_eq_true_iff, Bool.and_eq_true_iff] at hc
    obtain ⟨⟨h1, h2⟩, h3⟩ := hc
    obtain ⟨p, xs, hs, hp, hk0⟩ := f.slot x _ h0
    have hv : v = .bl true := by
      cases d <;> try (simp [isTrueD] at h1)
      rename_i b
      cases b
      · simp [isTrueD] at h1
      · cases hd; rfl
    subst hv
    obtain ⟨b, ks', rfl, hkt, hkey⟩ := key_tup hk h2
    have hall := hk0.tups
    have hl : xs.length = ks.length := by have := hk0.dat.length; simpa using this
    obtain ⟨f1, w1⟩ := f.reOwn (i := x) (sl' := .keys (addK (.tup es) ks)) (o := kdO p (putX ks' b xs)) h0 rfl hs (fun u q => by rw [hp] at q; cases q; rfl)
      ⟨p, _, hs, upd_same, (hk0.stay (stayW fun u q => by rw [hp] at q; cases q; rfl)).put (Dat.stay (stayW fun u q => by rw [hp] at q; cases q; rfl) hk) hkey h2⟩
    exact ⟨.ref p, hs, .inr (.inr ⟨p, xs, b, ks', rfl, rfl, rfl, hp, fun y hy => by
      rcases List.mem_cons.mp hy with rfl | hy
      · exact hkt
      · exact hall y hy, hk0.nd, by rw [hl]; have := sizeB_le h3; omega, q _ f1 w1⟩)⟩
  · rename_i ks us n h0
    obtain ⟨ns, hn, h⟩ := Option.bind_eq_some_iff.mp h
    split at h <;> cases h
    rename_i hz
    cases hk
    obtain ⟨p, kvs, hs, hp, hv, hv2⟩ := f.slot x _ h0
    obtain ⟨f1, w1⟩ := f.reDic (n := n) h0 hs hp hv hv2 hn hd
    have hl : kvs.length = ns.length := by have := congrArg List.length (ikeys hv hn); simpa using this
    exact ⟨.ref p, hs, .inr (.inl ⟨p, _, rfl, DPut.k (k := Sum.inl n) hp (by have := sizeB_le hz; omega), q _ f1 w1⟩)⟩
  · rename_i n y h0
    cases hk
    unfold subW at h
    split at h
    · rename_i kvs hw
      split at h <;> cases h
      rename_i hh
      obtain ⟨hh, hz⟩ := Bool.and_eq_true_iff.mp hh
      obtain ⟨o, hs, ho⟩ := f.slot x _ h0
      cases ho with | obj hm =>
      rename_i p
      obtain ⟨us, hp, hF⟩ := f.wok n p _ hm hw
      have hw' : ∀ u, H p = some u → wrO u = true := fun u q => by rw [hp] at q; cases q; rfl
      have hany := hF.has hh
      have hput := putK_skey (v := v) hany
      obtain ⟨f1, w1⟩ := f.reW (wo := .dict (GP.putKV y d kvs)) (o := .dK (putK (us.map skey) (Sum.inr y) v)) hm hw' ⟨GP.putKV y v us, by rw [upd_same, hput], (hF.putKV hd).stay (stayW hw')⟩
      refine ⟨.ref p, hs, .inr (.inl ⟨p, _, rfl, DPut.k (k := Sum.inr y) hp ?_, q _ f1 w1⟩)⟩
      rw [List.length_map, hF.length]
      have := sizeB_le hz
      omega
    · cases h
  · cases h
def nameR (X : Cx) (x : Str) (i : Nat) : Prop := X.N[i]? = some x ∧ Vis X.env.scope x ∧ (x == ("__debug__" : Str)) = false ∧ (x == ("__classdict__" : Str)) = false
theorem z_sub (G : Gd e N sc kk Wx X) {x : Str} {i : Nat} {p1 : Pos} (n : nameR X x i) (hk : PE X b (TO e Wx rk)) (ha : PE X a (TO e Wx ra)) (hb : noSl b = true) :
    PS X (.Assign [.Subscript (.Name x p1) b p] a pos) (TSt e Wx fun s => bnd (frz (ra s)) fun d s1 => if isSet s1 i then bnd (frz (rk s1)) fun kd s2 => match subS s2 i kd d with
      | some s3 => okv .nx s3
      | none => none else none) := by
  have hu : X.A.units + 10 < cLine := by have := G.room.un; omega
  refine PS.imp (ps_asg (xd ha) (pg_sub (pe_var n.1 n.2.1 n.2.2.1 n.2.2.2) (xd hk) (set_sub hu) (by cases b <;> first | (intro v; rfl) | cases hb)) (by cases a <;> rfl) (by cases a <;> rfl) rfl) fun Z σ H ⟨m, s, f, w⟩ => ?_
  refine ⟨m, s, f, w.split.imp fun d m1 s1 H1 v1 f1 w1 v hv => ?_⟩
  split at w1
  case isFalse => exact w1.elim
  rename_i hset
  have ho : ∃ o, σ[i]? = some (some o) := by
    unfold isSet at hset
    cases q : s1.ρ[i]? with
    | none => rw [q] at hset; cases hset
    | some sl =>
      have y := f1.slot i sl q
      cases sl with
      | emp => rw [q] at hset; cases hset
      | val d => obtain ⟨v, h, _⟩ := y; exact ⟨v, h⟩
      | own _ => obtain ⟨v, _, h, _⟩ := y; exact ⟨_, h⟩
      | ownd _ _ => obtain ⟨v, _, h, _⟩ := y; exact ⟨_, h⟩
      | keys _ => obtain ⟨v, _, h, _⟩ := y; exact ⟨_, h⟩
  obtain ⟨o, ho⟩ := ho
  refine ⟨o, ho, m1, s1, f1, (RunZ.from w1 v1).split.imp fun kd m2 s2 H2 v2 f2 w2 k hkd => ?_⟩
  cases hs : subS s2 i kd d with
  | none => rw [hs] at w2; exact w2.elim
  | some s3 =>
    rw [hs] at w2
    obtain ⟨o', ho', h⟩ := i_sub (X := X) (Q := fun H3 => Z.nx σ H3) f2 hs hkd (hv.stay (v2.stay f1)) fun H3 f3 v3 => w2.ok (v2.trans v3) f3
    rw [ho] at ho'; cases ho'
    exact h
theorem x_knew : PE X (.Dict [] [] pos) (TO e Wx (evO Γ .knew)) :=
  PE.imp pe_knew fun σ H Q ⟨m, s, f, w⟩ => fun p hp => by
    have w : Run e Wx σ m s H (okv (.keys []) s) (fun sl m' s' H' => ∀ v, Res e σ m' s' H H' v sl → Q v H') := by unfold evO at w; exact w
    exact (w.got .refl f) p [] hp ⟨.nil, rfl, List.nodup_nil, fun d h => nomatch h⟩
theorem x_klist (G : Gd e N sc kk Wx X) {x : Str} {i : Nat} {p1 p2 : Pos} (n : nameR X x i) (b : Bn X "list") :
    PE X (.Call (.Name "list" p1) [.Name x p2] [] pos) (TO e Wx (evO Γ (.klist i))) := by
  refine PE.imp (pe_callTy (call_list_kd G.calm) b.1 b.2 rfl (pa_cons (pe_var n.1 n.2.1 n.2.2.1 n.2.2.2) pa_nil (star_of rfl)) (by decide) (by decide) (by rfl) (by rfl)) fun σ H Q ⟨m, s, f, w⟩ => ?_
  have w : Run e Wx σ m s H (match s.ρ[i]? with
    | some (.keys ks) => if sizeB ks.length then okv (.own ks) s else none
    | _ => none) (fun sl m' s' H' => ∀ v, Res e σ m' s' H H' v sl → Q v H') := by unfold evO at w; exact w
  cases q : s.ρ[i]? with
  | none => rw [q] at w; exact w.elim
  | some sl =>
    rw [q] at w
    have y := f.slot i sl q
    cases sl with
    | keys ks =>
      obtain ⟨a, xs, hs, hp, hk⟩ := y
      dsimp only at w
      split at w
      · rename_i hz
        refine ⟨.ref a, hs, a, xs, rfl, hp, ?_, fun p np => ?_⟩
        · have := hk.dat.length
          rw [List.length_map] at this
          rw [this]; exact sizeB_le hz
        · exact (w.got .refl f) p _ np hk.dat
      · exact w.elim
    | _ => exact w.elim
end
end GP

set_option Elab.async false
set_option linter.all false
set_option maxRecDepth 100000
set_option autoImplicit false
set_option maxHeartbeats 4000000

namespace GP
open PySem PySem.Spec PyProof.Rows L2
section
variable {Pg : Program} {Wd : World} {Ar : Around} {Er : Value → Shared → Prop} {st : Shared}

abbrev emS (Wd : World) : Obj := { cls := .type "set", dict := none, data := .set #[] 0 (.fresh 0 0 (!Wd.params.followText "set-order")) }
theorem set_ints {li : Addr} {its : Array Value} (ks : List Int) {Q : Value → Shared → Prop} (hh : Ar.handled = none) (hl : st.heap.IsList li its) (hit : IntsAre its.toList ks) (hb : ks.length + 1 < scanBound)
    (fin : ∀ (h2 : Heap) (tk c : Nat), SetR Wd h2 st.heap.objs.size (fun j => decide (j ∈ ks)) c → (∀ b o, st.heap.get? b = some o → h2.get? b = some o) → Q (.ref st.heap.objs.size) { st with heap := h2, toks := tk }) :
    wpAny (model Pg Wd) Ar (call (.type "set") [.ref li]) Q Er st := by
  have hsz : its.size = ks.length := by
    have e := IntsAre.length hit
    rwa [Array.length_toList] at e
  obtain ⟨c0, tl0, hmro0⟩ := F.called_set.mro
  have m1 := F.called_set.made
  have m2 := F.called_set.sub
  refine wpAny_call (codeAny_of_tree ?_)
  show wpAny _ _ (callAny (.type "set") _) _ _ _
  refine wpAny_pure ⟨Code.quiet_builtin _ (by decide +kernel), ?_⟩
  refine codeAny_builtin F.entry_type_call ?_
  rw [Around.under_plain (weight_type_call_type "set" [.ref li] []) rfl]
  have m3 := F.called_set.notType
  have m4 := F.called_set.canCreate
  have m5 := F.typeCall_set_1 (.ref li)
  repeat (any_goals (first | assumption | wp_step))
  refine codeAny_mono (code_set_led1 (.ref li) (E := Er) (Q₁ := fun v s1 => v = .ref st.heap.objs.size ∧ s1 = { st with heap := st.heap.push (emS Wd) }) ⟨rfl, rfl⟩) fun r s1 hr => ?_
  cases r with
  | error _ => exact hr
  | ok f1 =>
    cases f1 with
    | ret v1 =>
      obtain ⟨rfl, rfl⟩ := hr
      have hS : (st.heap.push (emS Wd)).get? st.heap.objs.size = some (emS Wd) := Heap.get?_push_size _ rfl
      have hT : Shared.TypeIs { st with heap := st.heap.push (emS Wd) } (.ref st.heap.objs.size) "set" := ⟨_, hS, rfl⟩
      have n1 := F.called_set.init.lookup
      have n2 := F.called_set.init.bind (.ref st.heap.objs.size)
      repeat (any_goals (first | assumption | wp_step))
      refine codeAny_mono (codeAny_call_builtin (R := wants (fun r s2 => r = .none ∧ ∃ h2 tk c, s2 = { st with heap := h2, toks := tk } ∧ SetR Wd h2 st.heap.objs.size (fun j => decide (j ∈ ks)) c ∧
          (∀ b o, st.heap.get? b = some o → h2.get? b = some o)) Er) F.called_set.init.plain F.entry_set_init (check_set_init_1 hT ?_)) fun r2 s2 hr2 => ?_
      · obtain ⟨ob, hob, hcl, nl, hdl⟩ := hl
        obtain ⟨kcls, kdict, kdata, kslots⟩ := ob
        simp only at hcl hdl
        subst hcl
        subst hdl
        have hob' : (st.heap.push (emS Wd)).get? li = some { cls := .type "list", dict := kdict, data := .seq its nl, slots := kslots } := Heap.get?_push_of_some _ hob
        have x1 := F.sub_list_set
        have x2 := F.sub_list_frozenset
        have x3 : (Value.type "list" == Value.type "dict") = false := by decide
        have hl2 : (st.heap.push (emS Wd)).IsList li its := ⟨_, hob', rfl, nl, rfl⟩
        unfold Builtin.«set.__init__» noKeywords Builtin.Frozenset.updateFrom
        generalize hPI : pyIter = PI
        wp_walk
        subst hPI
        refine wpAny_pyIter_list hl2 ?_
        refine wpAny_bind (wpAny_runValue ?_)
        have hlt : li < st.heap.objs.size := Heap.lt_size hob
        have hh3 : Ar.in1.in1.in1.handled = none := by simp [hh]
        have hz1 : (st.heap.push (emS Wd)).objs.size = st.heap.objs.size + 1 := Heap.size_push ..
        have d1 : li ≠ (st.heap.push (emS Wd)).objs.size := by rw [hz1]; exact Nat.ne_of_lt (Nat.lt_succ_of_lt hlt)
        have d2 : st.heap.objs.size ∉ [(st.heap.push (emS Wd)).objs.size, li] := by
          rw [hz1]
          simp only [List.mem_cons, List.not_mem_nil, or_false, not_or]
          exact ⟨Nat.ne_of_lt (Nat.lt_succ_self _), Nat.ne_of_gt hlt⟩
        have hval : ∀ (i : Nat) (v : Value), its[i]? = some v → ∃ k t, ks[i]? = some k ∧ v = .int k t := fun i v hv => by
          have hi : i < ks.length := by rw [← hsz]; exact (Array.getElem?_eq_some_iff.mp hv).1
          obtain ⟨t, e⟩ := IntsAre.int_at hit i v (by rw [Array.getElem?_toList]; exact hv)
          refine ⟨ks[i], t, List.getElem?_eq_getElem hi, ?_⟩
          rw [e, List.getD_eq_getElem?_getD, List.getElem?_eq_getElem hi] <;> rfl
        refine set_update_ints ((Walks.list hh3 _ li d1 its).toS) st.heap.objs.size d2 ks hsz hb hval (its.size - 0) 0 _ (by omega) (Nat.zero_le _) ⟨⟨_, Heap.get?_push_size _ rfl, rfl, rfl⟩, (hl2.push _)⟩ ?_ ?_
        · have g0 : ((st.heap.push (emS Wd)).push { cls := .type "list_iterator", data := .fields #[.ref li, .int 0 0] }).get? st.heap.objs.size = some (emS Wd) := Heap.get?_push_of_some _ hS
          exact ⟨0, Nat.le_refl 0, setR_new_at g0⟩
        · intro s3 c3 hm hc3 hS3
          obtain ⟨h3, g3, e3, t3, o3⟩ := s3
          have eg : g3 = st.gens := hm.gens
          have ed : e3 = st.drawn := hm.drawn
          have eo : o3 = st.os := hm.os
          subst eg
          subst ed
          subst eo
          show wpAny _ _ _ _ _ _
          refine wpAny_pure ?_
          show wpAny _ _ (ret Value.none) _ _ _
          refine wpAny_pure ⟨rfl, h3, t3, c3, rfl, hS3, fun b o e => ?_⟩
          have k0 : b < st.heap.objs.size := Heap.lt_size e
          refine hm.heap b o ?_ (Heap.get?_push_of_some _ (Heap.get?_push_of_some _ e))
          rw [hz1]
          simp only [List.mem_cons, List.not_mem_nil, or_false, not_or]
          exact ⟨Nat.ne_of_lt k0, Nat.ne_of_lt (Nat.lt_succ_of_lt k0)⟩
      · cases r2 with
        | error _ => exact hr2
        | ok f2 =>
          cases f2 with
          | ret v2 =>
            obtain ⟨rfl, h2, tk, c, rfl, hS2, hk2⟩ := hr2
            repeat (any_goals (first | assumption | wp_step))
            exact fin _ _ _ hS2 hk2
          | _ => exact hr2.elim
    | _ => exact hr.elim

theorem sorted_sets {a : Addr} {S : Int → Bool} {n : Nat} {Q : Value → Shared → Prop} (R : SetR Wd st.heap a S n) (hh : Ar.handled = none)
    (fin : ∀ s2 p (out : Array Value) (c : Nat) (ns : List Int), (∀ b o, st.heap.get? b = some o → s2.heap.get? b = some o) → s2.gens = st.gens → s2.os = st.os → st.heap.objs.size ≤ p →
      s2.heap.get? p = some (seqObj "list" out c) → IntsAre out.toList ns → ns.Pairwise (· < ·) → (∀ k, k ∈ ns ↔ S k = true) → ns.length < scanBound → Q (.ref p) s2) :
    wpAny (model Pg Wd) Ar (call (.builtin "sorted") [.ref a]) Q Er st := by
  obtain ⟨o, es, ep, t, ho, hex, hd, g, nd, hm, hb, hf, hn, hr, hl⟩ := R
  refine Calls.call_function_entry kind_sorted plain_sorted entry_sorted (args_sorted1 _) ?_
  unfold Builtin.«sorted»
  refine wpAny_bind (m := checkCount "sorted" 1 1 _) (wpAny_pure ?_)
  refine wpAny_bind (collect_set (A := Ar.in1) hh ⟨o, ho, hex.1, hd⟩ hf hb hr hl fun s1 vs k1 hz g1 o1 pm => ?_)
  have hlen : vs.length < scanBound := by rw [pm.length_eq, List.length_map, Array.length_toList]; exact hb
  have hz1 : vs.length ≤ sizeLine := by rw [sizeLine_eq]; unfold scanBound at hlen; omega
  have hI : IntsAre vs (vs.map Builtin.Re.reRawOf) := ints_of vs fun v hv => by
    obtain ⟨e, he, q⟩ := List.mem_map.mp (pm.mem_iff.mp hv)
    obtain ⟨k, tk, h1, _⟩ := g e he
    exact ⟨k, tk, q ▸ h1⟩
  have pk : (vs.map Builtin.Re.reRawOf).Perm (es.toList.map keyOf) := by
    have q := pm.map Builtin.Re.reRawOf
    rwa [List.map_map] at q
  refine wpAny_bind (wpAny_newList ?_ hz1)
  have hoL : (s1.heap.push (seqObj "list" vs.toArray 0)).get? s1.heap.objs.size = some (seqObj "list" vs.toArray 0) := Heap.get?_push_size _ rfl
  refine wpAny_bind (wpAny_holding (wpAny_call_entry slot_list_sort ⟨_, hoL, rfl⟩ entry_list_sort (SrtO.list_sort_ord SrtO.swo_int hoL hz1 (fun h2 => SrtO.ints_sortable hI h2) fun out hs hst => ⟨_, rfl, ?_⟩) (args_list_sort _)))
  obtain ⟨c, hc⟩ := sortedHeap_at (vs := vs) (out := out.toArray) hoL
  obtain ⟨i1, i2, i3⟩ := SrtO.ints_out hI hs hst
  have pn := i2.trans pk
  refine wpAny_pure ⟨_, rfl, fin _ s1.heap.objs.size out.toArray c (out.map SrtO.iv) (fun b u e => ?_) g1 o1 hz hc (by simpa using i1) (lt_of_le_nodup _ i3 (pn.nodup_iff.mpr nd)) (fun k => by rw [pn.mem_iff, ← hm k]) ?_⟩
  · have q := k1 b u e
    have hlt := Heap.lt_size q
    show (sortedHeap (s1.heap.push (seqObj "list" vs.toArray 0)) s1.heap.objs.size vs out.toArray).get? b = some u
    rw [sortedHeap_old (Nat.ne_of_lt hlt) (by rw [size_push']; exact Nat.lt_succ_of_lt hlt)]
    exact Heap.get?_push_of_some _ q
  · rw [pn.length_eq, List.length_map, Array.length_toList]; exact hb
end
end GP

set_option Elab.async false
set_option linter.all false
set_option maxRecDepth 100000
set_option autoImplicit false
set_option maxHeartbeats 4000000

namespace GP
open PySem PySem.Spec L2
section
variable {e : En} {N : List Str} {sc : Scope} {kk : Nat} {Wx : WX} {X : Cx} {Γ : Ctx} {a b : Expr} {pos pos2 : Pos} {p1 p2 : Pos} {ra rb : S → R Sl} {rl : S → R (List D)} {H : Hp} {m : List Addr}
theorem rg_data {i : Int} : ∀ {n : Nat}, rangeL i 1 n = ((List.range n).map fun k => i + (k : Nat)).map D.int := by
  intro n
  induction n generalizing i with
  | zero => rfl
  | succ n ih =>
    rw [rangeL, ih, List.range_succ_eq_map, List.map_cons, List.map_cons, List.map_map, List.map_map, List.map_map]
    congr 1
    · simp
    · refine List.map_congr_left fun k _ => ?_
      show D.int (i + 1 + (k : Int)) = D.int (i + ((k + 1 : Nat) : Int))
      congr 1
      omega
theorem rgV_dat {i j : Int} : DatL e m H (rgV i j) (rangeL i 1 (j - i).toNat) := by
  rw [rg_data]
  have : rgV i j = ((List.range (j - i).toNat).map fun k => i + (k : Nat)).map V.int := by
    unfold rgV
    rw [List.map_map]; rfl
  rw [this]
  exact DatL.ofInts _
theorem x_rlist (G : Gd e N sc kk Wx X) (bl : Bn X "list") (br : Bn X "range") (ha : PE X a (TO e Wx ra)) (hb : PE X b (TO e Wx rb)) (hs : noStar a = true) (hs2 : noStar b = true) :
    PE X (.Call (.Name "list" p1) [.Call (.Name "range" p2) [a, b] [] pos2] [] pos) (TO e Wx fun s => bnd (frz (ra s)) fun x s1 => bnd (frz (rb s1)) fun y s2 => lft (rlistD x y) s2) := by
  have pl : (backTo pos2 (starEach [b] X.env)).any (·.1) = false := plain_args (by rw [List.all_cons, hs2]; rfl)
  refine PE.imp (pe_listRg G.calm bl.1 bl.2 (prg_2 br.1 br.2 (xd ha) (xd hb) (star_of hs) (star_of hs2) pl) (star_of rfl)) fun σ H Q ⟨m, s, f, w⟩ => ⟨m, s, f, Run.two w fun x y v u m2 s2 H2 v2 f2 hx hy w2 => ?_⟩
  obtain ⟨sl, hb, w3⟩ := w2.lft
  unfold rlistD at hb
  split at hb
  · rename_i i j
    split at hb <;> cases hb
    rename_i hz
    unfold rgOkB at hz
    have hz := of_decide_eq_true hz
    cases hx
    cases hy
    exact ⟨i, j, rfl, rfl, hz, fun q hq => (w3.got v2 f2) q _ hq rgV_dat⟩
  · cases hb

def rLSet (K : PySem.W.Frag) (w : World) : List V → Hp → VK → Prop := fun vs H Q => ∃ (p : Addr) (ns : List Int), vs = [V.ref p] ∧ SqL K H p (ns.map V.int) ∧ ns.length + 1 < scanBound ∧
  ∀ q c, H q = none → Q (.ref q) (upd H q (SetO w q (fun j => decide (j ∈ ns)) c))
def rSSet (w : World) : List V → Hp → VK → Prop := fun vs H Q => ∃ (p : Addr) (S : Int → Bool) (n : Nat), vs = [V.ref p] ∧ H p = some (SetO w p S n) ∧
  ∀ (ns : List Int) (q : Addr), ns.Pairwise (· < ·) → (∀ k : Int, k ∈ ns ↔ S k = true) → H q = none → Q (.ref q) (upd H q (.lst (ns.map V.int)))
theorem cr_lset (hc : X.calm = true) : CallR X (.type "set") (rLSet X.K X.w) := by
  rintro pins s σ H vs us Q I r ⟨p, ns, rfl, hs, hb, q⟩
  obtain ⟨its, rv, hl, hz⟩ := I.list hs
  rw [Vals.ref1 r]
  refine set_ints ns (I.ok.hd hc) hl.isList (by simpa using rv.ints) hb fun h2 tk c R keep => ?_
  have np : H s.heap.objs.size = none := I.hok.fresh (Nat.le_refl _)
  exact ⟨.ref s.heap.objs.size, _, I.laid (t' := tk) keep (Nat.le_refl _) (setO_new R), rfl, q _ c np⟩
theorem cr_sset (hc : X.calm = true) : CallR X (.builtin "sorted") (rSSet X.w) := by
  rintro pins s σ H vs us Q I r ⟨p, S, n, rfl, hp, q⟩
  have R := setO_get I hp
  rw [Vals.ref1 r]
  refine sorted_sets R (I.ok.hd hc) fun s2 p2 out c ns k g o hz hg hi hw hm hl => ?_
  have hlen : (ns.map V.int).length ≤ sizeLine := by rw [List.length_map, sizeLine_eq]; unfold scanBound at hl; omega
  have hn : H p2 = none := I.hok.fresh hz
  have J : Inv X pins σ (upd H p2 (.lst (ns.map V.int))) { s with heap := s2.heap, gens := s2.gens, drawn := s2.drawn, toks := s2.toks } :=
    I.call (ch := []) (Un.laid k hz hn) (I.hok.laid k hz ⟨hlen, out.toList, c, vals_of_ints hi, hg⟩) (by rw [g]; exact I.bare) (fun _ z => nomatch z)
  have e2 : s2 = { s with heap := s2.heap, gens := s2.gens, drawn := s2.drawn, toks := s2.toks } := by
    cases s2
    cases s
    cases o
    rfl
  rw [e2]
  exact ⟨.ref p2, _, J, rfl, q ns p2 hw hm hn⟩
theorem mem_ddp : ∀ {l : List Int} {k : Int}, k ∈ dedup l ↔ k ∈ l
  | [], _ => Iff.rfl
  | [x], _ => Iff.rfl
  | x :: y :: r, k => by
    unfold dedup
    split
    · rename_i h
      rw [mem_ddp, h]
      simp
    · rw [List.mem_cons, mem_ddp, List.mem_cons (l := y :: r)]
theorem ddp_strict : ∀ {l : List Int}, l.Pairwise (· ≤ ·) → (dedup l).Pairwise (· < ·)
  | [], _ => .nil
  | [x], _ => List.pairwise_singleton ..
  | x :: y :: r, h => by
    unfold dedup
    obtain ⟨h1, h2⟩ := List.pairwise_cons.mp h
    split
    · exact ddp_strict h2
    · rename_i ne
      refine List.pairwise_cons.mpr ⟨fun z hz => ?_, ddp_strict h2⟩
      have hz := mem_ddp.mp hz
      have l1 := h1 y List.mem_cons_self
      rcases List.mem_cons.mp hz with rfl | hz
      · omega
      · have := (List.pairwise_cons.mp h2).1 z hz
        omega
theorem strict_uniq : ∀ {l k : List Int}, l.Pairwise (· < ·) → k.Pairwise (· < ·) → (∀ x, x ∈ l ↔ x ∈ k) → l = k
  | [], [], _, _, _ => rfl
  | [], y :: k, _, _, h => by have := (h y).mpr List.mem_cons_self; cases this
  | x :: l, [], _, _, h => by have := (h x).mp List.mem_cons_self; cases this
  | x :: l, y :: k, h1, h2, h => by
    obtain ⟨a1, a2⟩ := List.pairwise_cons.mp h1
    obtain ⟨b1, b2⟩ := List.pairwise_cons.mp h2
    have e : x = y := by
      rcases List.mem_cons.mp ((h x).mp List.mem_cons_self) with e | hx
      · exact e
      · rcases List.mem_cons.mp ((h y).mpr List.mem_cons_self) with e | hy
        · exact e.symm
        · have := b1 x hx
          have := a1 y hy
          omega
    subst e
    congr 1
    refine strict_uniq a2 b2 fun z => ?_
    have := h z
    rw [List.mem_cons, List.mem_cons] at this
    constructor
    · intro hz
      rcases this.mp (.inr hz) with e | hz'
      · subst e
        have := a1 z hz
        omega
      · exact hz'
    · intro hz
      rcases this.mpr (.inr hz) with e | hz'
      · subst e
        have := b1 z hz
        omega
      · exact hz'
theorem mem_srtI {le : Int → Int → Bool} {y : Int} : ∀ {l : List Int}, y ∈ sortBy le l ↔ y ∈ l := by
  have ins : ∀ (x : Int) (l : List Int), y ∈ insBy le x l ↔ y = x ∨ y ∈ l := by
    intro x l
    induction l with
    | nil => simp [insBy]
    | cons z l ih =>
      unfold insBy
      split
      · simp
      · rw [List.mem_cons, ih, List.mem_cons]
        constructor
        · rintro (h | h | h)
          · exact .inr (.inl h)
          · exact .inl h
          · exact .inr (.inr h)
        · rintro (h | h | h)
          · exact .inr (.inl h)
          · exact .inl h
          · exact .inr (.inr h)
  intro l
  induction l with
  | nil => simp [sortBy]
  | cons x l ih => rw [sortBy, ins, ih, List.mem_cons]
theorem srtI_asc : ∀ (l : List Int), (sortBy (fun a b => decide (a ≤ b)) l).Pairwise (· ≤ ·) := by
  have ins : ∀ (x : Int) (l : List Int), l.Pairwise (· ≤ ·) → (insBy (fun a b => decide (a ≤ b)) x l).Pairwise (· ≤ ·) := by
    intro x l
    induction l with
    | nil => intro _; exact List.pairwise_singleton ..
    | cons z l ih =>
      intro h
      obtain ⟨h1, h2⟩ := List.pairwise_cons.mp h
      unfold insBy
      split
      · rename_i c
        have c := of_decide_eq_true c
        refine List.pairwise_cons.mpr ⟨fun w hw => ?_, h⟩
        rcases List.mem_cons.mp hw with rfl | hw
        · exact c
        · exact Int.le_trans c (h1 w hw)
      · rename_i c
        have c : ¬ x ≤ z := fun g => c (decide_eq_true g)
        refine List.pairwise_cons.mpr ⟨fun w hw => ?_, ih h2⟩
        have : w = x ∨ w ∈ l := by
          clear ih h1 h2 h c
          induction l with
          | nil => simp [insBy] at hw; exact .inl hw
          | cons u l ih2 =>
            unfold insBy at hw
            split at hw
            · rcases List.mem_cons.mp hw with h | h
              · exact .inl h
              · exact .inr h
            · rcases List.mem_cons.mp hw with h | h
              · exact .inr (List.mem_cons.mpr (.inl h))
              · rcases ih2 h with h | h
                · exact .inl h
                · exact .inr (List.mem_cons_of_mem _ h)
        rcases this with rfl | hw
        · omega
        · exact h1 w hw
  intro l
  induction l with
  | nil => exact .nil
  | cons x l ih => exact ins x _ ih
theorem x_sset (G : Gd e N sc kk Wx X) (bs : Bn X "sorted") (bt : Bn X "set") (hl : PA X [a] (TL e Wx rl)) (hs : noStar a = true) :
    PE X (.Call (.Name "sorted" p1) [.Call (.Name "set" p2) [a] [] pos2] [] pos) (TO e Wx fun s => bnd (rl s) fun ds s1 => lft (bltD .sset ds) s1) := by
  have inner : PE X (.Call (.Name "set" p2) [a] [] pos2) (tCB (rLSet X.K X.w) (TL e Wx rl)) := pe_callTy (cr_lset G.calm) bt.1 bt.2 rfl hl (by decide) (by decide) (star_of hs) (by rfl)
  refine PE.imp (pe_callB (cr_sset G.calm) bs.1 bs.2 rfl (pa_cons inner pa_nil (star_of rfl)) (by decide) (by decide) (by rfl) (by rfl)) fun σ H Q ⟨m, s, f, w⟩ => ?_
  refine ⟨m, s, f, w.split.imp fun ds m1 s1 H1 v1 f1 w1 vs hv => ?_⟩
  obtain ⟨sl, hb, w2⟩ := w1.lft
  change ssetD ds = some sl at hb
  unfold ssetD at hb
  split at hb
  · rename_i xs
    obtain ⟨ns, hns, hb⟩ := Option.bind_eq_some_iff.mp hb
    split at hb <;> cases hb
    rename_i hz
    have hz := of_decide_eq_true hz
    obtain ⟨v, rfl, hv2⟩ := one_of hv
    cases hv2 with | lst l t =>
    rw [intsL hns t] at l
    refine ⟨_, ns, rfl, sqL G.hK l, by unfold scanBound; omega, fun q c hq => ?_⟩
    refine ⟨q, _, c, rfl, upd_same, fun ns2 q2 h1 h2 hq2 => ?_⟩
    have e2 : ns2 = dedup (sortBy (fun a b => decide (a ≤ b)) ns) := strict_uniq h1 (ddp_strict (srtI_asc ns)) fun x => by rw [h2, mem_ddp, mem_srtI, decide_eq_true_eq]
    rw [e2]
    have v2 : Evo σ m1 s1 H1 σ m1 s1 (upd H1 q (SetO X.w q (fun j => decide (j ∈ ns)) c)) := Evo.new .refl hq
    have f2 : Fm e σ (upd H1 q (SetO X.w q (fun j => decide (j ∈ ns)) c)) m1 s1 := f1.new hq
    generalize upd H1 q (SetO X.w q (fun j => decide (j ∈ ns)) c) = H2 at *
    have v3 := v2.new (o := HO.lst ((dedup (sortBy (fun a b => decide (a ≤ b)) ns)).map V.int)) (v2.fresh hq2)
    have f3 := f2.new (o := HO.lst ((dedup (sortBy (fun a b => decide (a ≤ b)) ns)).map V.int)) hq2
    exact w2 m1 _ v3 f3 _ ⟨q2, _, rfl, v1.fresh (v2.fresh hq2), upd_same, DatL.ofInts _, fun wr => f2.free hq2 wr⟩
  · cases hb
end
end GP

set_option Elab.async false
set_option linter.all false
set_option maxRecDepth 100000
set_option autoImplicit false
set_option maxHeartbeats 4000000

namespace GP
open PySem PySem.Spec L2
section
variable {e : En} {N : List Str} {sc : Scope} {kk : Nat} {Wx : WX} {X : Cx} {Γ : Ctx} {a b ex : Expr} {es : List Expr} {pos pos2 : Pos} {p1 p2 : Pos} {ra rb : S → R Sl} {rl : S → R (List D)} {H : Hp} {m : List Addr}
theorem x_rtup (G : Gd e N sc kk Wx X) (bl : Bn X "tuple") (br : Bn X "range") (ha : PE X a (TO e Wx ra)) (hs : noStar a = true) :
    PE X (.Call (.Name "tuple" p1) [.Call (.Name "range" p2) [a] [] pos2] [] pos) (TO e Wx fun s => bnd (frz (ra s)) fun x s1 => lft (rtupD x) s1) := by
  refine PE.imp (pe_tupRg G.calm bl.1 bl.2 (prg_1 br.1 br.2 (xd ha) (star_of hs)) (star_of rfl)) fun σ H Q ⟨m, s, f, w⟩ => ⟨m, s, f, Run.one w fun x v m2 s2 H2 v2 f2 hx w2 => ?_⟩
  obtain ⟨sl, hb, w3⟩ := w2.lft
  unfold rtupD at hb
  split at hb
  · rename_i j
    split at hb <;> cases hb
    rename_i hz
    unfold rgOkB at hz
    have hz := of_decide_eq_true hz
    cases hx
    have dd : DatL e m2 H2 (rgV 0 j) (rangeL 0 1 j.toNat) := by
      have := rgV_dat (e := e) (m := m2) (H := H2) (i := 0) (j := j)
      rwa [Int.sub_zero] at this
    exact ⟨j, rfl, hz, fun q hq => (w3.got v2 f2).tup dd q hq⟩
  · cases hb
theorem x_dint {k : Int} {j : Nat} {p : Pos} (ha : PE X a (TO e Wx ra)) :
    PE X (.Dict [some (.Constant (.int k) j p)] [a] pos) (TO e Wx fun s => bnd (frz (ra s)) fun x s1 => okv (.ownd [.int k] [x]) s1) := by
  refine PE.imp (pe_disp (trs := [(tC (.int k), TD e Wx fun s => frz (ra s))]) (pps_cons pe_int (xd ha) pps_nil) rfl rfl (by simp) (by show 1 ≤ 15; decide)) fun σ H Q ⟨m, s, f, w⟩ q hq => ?_
  have f0 : Fm e σ (upd H q (.dK [])) m s := f.new hq
  have v0 : Evo σ m s H σ m s (upd H q (.dK [])) := Evo.new .refl hq
  have w : Run e Wx σ m s H (bnd (frz (ra s)) fun x s1 => okv (.ownd [.int k] [x]) s1) (fun sl m' s' H' => ∀ v, Res e σ m' s' H H' v sl → Q v H') := w
  have w0 : Run e Wx σ m s (upd H q (.dK [])) (frz (ra s)) (fun x m1 s1 H1 => Run e Wx σ m s H (okv (.ownd [.int k] [x]) s1) (fun sl m' s' H' => ∀ v, Res e σ m' s' H H' v sl → Q v H')) := by
    revert w
    cases frz (ra s) with
    | none => exact fun w => w
    | some o =>
      obtain ⟨o, s1⟩ := o
      cases o with
      | exc z => exact fun w m' H' c d v f x => w m' H' c d (v0.trans v) f x
      | val ds => exact fun w m' H' v f => w
  refine ⟨m, s, f0, w0.imp fun x m1 s1 H1 v1 f1 w1 v hv => ?_⟩
  have np0 : ¬ Wr σ m s q := f.free hq
  obtain ⟨np, hp1⟩ := v1.nwr (upd_same (H := H)) np0
  refine ⟨hp1, [(Sum.inl k, v)], rfl, by show 1 ≤ 15; decide, ?_⟩
  have hw : ∀ u, H1 q = some u → wrO u = true := fun u z => by rw [hp1] at z; cases z; rfl
  have st : Stay m1 H1 m1 (upd H1 q (.dK [(Sum.inl k, v)])) := stayW (m := m1) hw
  have f2 : Fm e σ (upd H1 q (.dK [(Sum.inl k, v)])) m1 s1 := f1.upd np hw
  have v2 : Evo σ m s H σ m1 s1 (upd H1 q (.dK [(Sum.inl k, v)])) := by
    have vv := v0.trans v1
    exact { keep := fun b o h n => by rw [upd_ne (ne_of_none h hq)]; exact vv.keep b o h n
            grow := vv.grow
            wm := vv.wm
            there := fun b o h => by rw [upd_ne (ne_of_none h hq)]; exact vv.there b o h }
  refine w1 m1 _ v2 f2 (.ref q) ⟨q, [(Sum.inl k, v)], rfl, hq, upd_same, .cons (.int k) .nil, .cons (hv.stay st) .nil, np⟩

theorem in_own (hK : X.K = e.K) (hu : X.A.units + 65 < cLine) (neg : Bool) : OpR X (compareOp (if neg then .NotIn else .In)) (fun x y H Q => ∃ m d xs vs q k, Dat e m H x d ∧ y = .ref q ∧ H q = some (.lst vs) ∧ DatL e m H vs xs ∧ inD d (.lst xs) = some k ∧ Q (.bl (if neg then !k else k)) H) := by
  rintro pins s σ H x y v u Q I rx ry ⟨m, d, xs, vs, q, k, hx, rfl, hq, hl, hb, g⟩
  change (match toPy d, toPyL xs with
    | some p, some ps => if SeqAt.shaped p && SeqAt.shaped (.list ps) then some (ps.any fun z => PyData.eqv z p) else none
    | _, _ => none) = some k at hb
  split at hb
  · rename_i p ps h1 h2
    split at hb <;> cases hb
    rename_i hs
    obtain ⟨s1, s2⟩ := Bool.and_eq_true_iff.mp hs
    have dl : Dp X.K H (.ref q) (.list ps) := .lst (SqL.of hq) (dpL hK hl h2)
    cases neg
    · exact op_inD hu pins s σ H _ _ v u Q I rx ry ⟨p, ps, dp hK hx h1, dl, s1, s2, g⟩
    · exact op_notInD hu pins s σ H _ _ v u Q I rx ry ⟨p, ps, dp hK hx h1, dl, s1, s2, g⟩
  · cases hb
theorem i_bisin {i : Nat} {neg : Bool} {σ : St} {H : Hp} {Q : VK} {ca : CE} (w : TO e Wx (evO Γ (.bisin i neg ca)) σ H Q) :
    tOp (fun x y H Q => ∃ m d xs vs q k, Dat e m H x d ∧ y = .ref q ∧ H q = some (.lst vs) ∧ DatL e m H vs xs ∧ inD d (.lst xs) = some k ∧ Q (.bl (if neg then !k else k)) H) (TD e Wx fun s => frz (evO Γ ca s)) (tVar i) σ H Q := by
  obtain ⟨m, s, f, w⟩ := w
  have w : Run e Wx σ m s H (bnd (frz (evO Γ ca s)) fun d s1 => match s1.ρ[i]? with
    | some (.own xs) => lft ((inD d (.lst xs)).map fun k => Sl.val (.bl (if neg then !k else k))) s1
    | _ => none) (fun sl m' s' H' => ∀ v, Res e σ m' s' H H' v sl → Q v H') := by unfold evO at w; exact w
  refine ⟨m, s, f, w.split.imp fun d m1 s1 H1 v1 f1 w1 v hv => ?_⟩
  cases q : s1.ρ[i]? with
  | none => rw [q] at w1; exact w1.elim
  | some sl =>
    rw [q] at w1
    have y := f1.slot i sl q
    cases sl with
    | own xs =>
      obtain ⟨p, vs, hs, hp, hd⟩ := y
      obtain ⟨sl, hb, w3⟩ := w1.lft
      obtain ⟨k, hk, rfl⟩ := Option.map_eq_some_iff.mp hb
      exact ⟨.ref p, hs, m1, d, xs, vs, p, k, hv, rfl, hp, hd, hk, (w3.got v1 f1).at (.bl _)⟩
    | emp => exact w1.elim
    | val d => exact w1.elim
    | ownd _ _ => exact w1.elim
    | keys _ => exact w1.elim
theorem bisin_val {i : Nat} {neg : Bool} {ca : CE} (s s' : S) (sl : Sl) (h : evO Γ (.bisin i neg ca) s = some (.val sl, s')) : ∃ d, sl = .val d := by
  unfold evO at h
  obtain ⟨x, s1, _, h⟩ := bnd_inv h
  split at h
  · obtain ⟨h, _⟩ := lft_inv h
    obtain ⟨k, _, rfl⟩ := Option.map_eq_some_iff.mp h
    exact ⟨_, rfl⟩
  · cases h
theorem x_bisin (G : Gd e N sc kk Wx X) {i : Nat} {x : Str} {neg : Bool} {ca : CE} (ha : PE X a (TO e Wx (evO Γ ca))) (hN : N[i]? = some x) (hv : Vis X.env.scope x) (h1 : (x == ("__debug__" : Str)) = false) (h2 : (x == ("__classdict__" : Str)) = false) (hm : behindInMarks (if neg then .NotIn else .In) (.Name x p1) = false) :
    PE X (.Compare a [if neg then .NotIn else .In] [.Name x p1] pos) (TO e Wx (evO Γ (.bisin i neg ca))) :=
  PE.imp (pe_cmpR (in_own G.hK (by have := G.hu; omega) neg) (xd ha) (pe_var (i := i) (by rw [G.hN]; exact hN) hv h1 h2) hm) fun σ H Q w => i_bisin w
theorem xt_bisin (G : Gd e N sc kk Wx X) {i : Nat} {x : Str} {neg : Bool} {ca : CE} (ha : PE X a (TO e Wx (evO Γ ca))) (hN : N[i]? = some x) (hv : Vis X.env.scope x) (h1 : (x == ("__debug__" : Str)) = false) (h2 : (x == ("__classdict__" : Str)) = false) (hm : behindInMarks (if neg then .NotIn else .In) (.Name x p1) = false) :
    PT X (.Compare a [if neg then .NotIn else .In] [.Name x p1] pos) (TB e Wx fun s => bnd (frz (evO Γ (.bisin i neg ca) s)) fun d s1 => lft (blO d) s1) :=
  PT.imp (pt_cmpR (in_own G.hK (by have := G.hu; omega) neg) (xd ha) (pe_var (i := i) (by rw [G.hN]; exact hN) hv h1 h2) hm) fun σ H Q w => i_bisin (i_toD (i_test w) bisin_val)

theorem look_val {m : List Addr} {H : Hp} : ∀ {kvs : List (Key × V)} {ns : List Int} {vs : List D} {n : Int}, DatL e m H (kvs.map fun p => kV p.1) (ns.map .int) → DatL e m H (kvs.map fun p => p.2) vs →
    (∃ w d, valV kvs (Sum.inl n) = some w ∧ (ns.zip vs).lookup n = some d ∧ Dat e m H w d) ∨ (valV kvs (Sum.inl n) = none ∧ (ns.zip vs).lookup n = none)
  | [], ns, vs, n, h1, h2 => by
    cases ns with
    | nil => exact .inr ⟨rfl, rfl⟩
    | cons a ns => cases h1
  | (k, w) :: kvs, ns, vs, n, h1, h2 => by
    cases ns with
    | nil => cases h1
    | cons a ns =>
      cases vs with
      | nil => cases h2
      | cons d vs =>
        rw [List.map_cons, List.map_cons] at h1
        rw [List.map_cons] at h2
        cases h1 with | cons q1 t1 =>
        cases h2 with | cons q2 t2 =>
        have hk : k = Sum.inl a := by
          cases k with
          | inl i => cases q1; rfl
          | inr z => cases q1
        subst hk
        rw [List.zip_cons_cons, List.lookup_cons]
        by_cases e0 : a = n
        · subst e0
          left
          refine ⟨w, d, valV_pos rfl, ?_, q2⟩
          simp
        · rw [valV_neg (by intro z; exact e0 (Sum.inl.inj z))]
          have : (n == a) = false := beq_eq_false_iff_ne.mpr fun z => e0 z.symm
          rw [this]
          exact look_val t1 t2
theorem x_bget (G : Gd e N sc kk Wx X) {i : Nat} {x : Str} {ck cd : CE} {apos : Pos} (hN : N[i]? = some x) (hv : Vis X.env.scope x) (h1 : (x == ("__debug__" : Str)) = false) (h2 : (x == ("__classdict__" : Str)) = false)
    (ha : PE X a (TO e Wx (evO Γ ck))) (hb : PE X b (TO e Wx (evO Γ cd))) (hs : noStar a = true) (hs2 : noStar b = true) (hl : (apos.endLine == pos.line) = true) :
    PE X (.Call (.Attribute (.Name x p1) "get" apos) [a, b] [] pos) (TO e Wx (evO Γ (.bget i ck cd))) := by
  have st2 : starEach [b] X.env = (false, eval b X.env) :: starEach [] X.env := star_of hs2
  have st1 : starEach [a, b] X.env = (false, eval a X.env) :: starEach [b] X.env := star_of hs
  have M : M2 X (.Name x p1) "get" apos a b pos := ⟨ab_of rfl, by rw [st1, st2]; rfl, hl, by rw [st1, st2]; rfl⟩
  refine PE.imp (pe_dget2 (by have := G.hu; omega) (pe_var (i := i) (by rw [G.hN]; exact hN) hv h1 h2) (xd ha) (xd hb) M) fun σ H Q ⟨m, s, f, w⟩ => ?_
  have w : Run e Wx σ m s H (if ownDB s i then bnd (frz (evO Γ ck s)) fun kd s1 => bnd (frz (evO Γ cd s1)) fun dd s2 => match s2.ρ[i]?, kd with
    | some (.ownd ks vs), .int n => lft ((intsO ks).map fun ns => Sl.val (((ns.zip vs).lookup n).getD dd)) s2
    | _, _ => none else none) (fun sl m' s' H' => ∀ v, Res e σ m' s' H H' v sl → Q v H') := by unfold evO at w; exact w
  split at w
  · rename_i ho
    unfold ownDB at ho
    split at ho
    · rename_i ks vs q
      obtain ⟨p, kvs, hs, hp, _, _⟩ := f.slot i _ q
      refine ⟨.ref p, hs, p, rfl, .inl ⟨kvs, .inl hp⟩, m, s, f, ?_⟩
      refine w.split.imp fun kd m1 s1 H1 v1 f1 w1 y hy => ⟨m1, s1, f1, w1.split.imp fun dd m2 s2 H2 v2 f2 w2 z hz => ?_⟩
      split at w2
      · rename_i ks2 vs2 n q2 
        obtain ⟨p2, kvs2, hs2, hp2, hk2, hd2⟩ := f2.slot i _ q2
        rw [hs] at hs2
        cases hs2
        obtain ⟨sl, hb, w3⟩ := w2.lft
        obtain ⟨ns, hns, rfl⟩ := Option.map_eq_some_iff.mp hb
        cases hy
        refine ⟨valV kvs2 (Sum.inl n), DGet.k (k := Sum.inl n) hp2, ?_⟩
        rw [ints_map hns] at hk2
        have g := w3.got (v1.trans v2) f2
        rcases look_val (n := n) hk2 hd2 with ⟨w', d, e1, e2, e3⟩ | ⟨e1, e2⟩
        · rw [e1]
          rw [e2] at g
          exact g.at e3
        · rw [e1]
          rw [e2] at g
          exact g.at hz
      · exact w2.elim
    · cases ho
  · exact w.elim

theorem x_tups (G : Gd e N sc kk Wx X) {k : Nat} (ha : PE X a (TO e Wx ra)) (hl : PA X es (TL e Wx rl)) :
    PE X (.Tuple (.Starred a p1 :: es) k pos) (TO e Wx fun s => bnd (frz (ra s)) fun x s1 => match x with
    | .tup xs => bnd (rl s1) fun ds s2 => if sizeB (xs.length + ds.length) then okv (.val (.tup (xs ++ ds))) s2 else none
    | _ => none) := by
  refine PE.imp (pe_tup (StX.pa_star (xd ha) hl)) fun σ H Q ⟨m, s, f, w⟩ => ⟨m, s, f, ?_⟩
  have w : Run e Wx σ m s H (bnd (frz (ra s)) fun x s1 => match x with
    | .tup xs => bnd (rl s1) fun ds s2 => if sizeB (xs.length + ds.length) then okv (Sl.val (.tup (xs ++ ds))) s2 else none
    | _ => none) (fun sl m' s' H' => ∀ v, Res e σ m' s' H H' v sl → Q v H') := w
  refine w.split.imp fun x m1 s1 H1 v1 f1 w1 v hv => ?_
  cases x with
  | tup xs =>
    cases hv with | tup l t =>
    refine ⟨_, _, rfl, .inl (sqT G.hK l), m1, s1, f1, w1.split.imp fun ds m2 s2 H2 v2 f2 w2 us hu => ?_⟩
    split at w2
    · rename_i hz
      have t2 := DatL.stay (v2.stay f1) t
      refine ⟨by rw [List.length_append, t2.length, hu.length]; exact sizeB_le hz, fun q hq => ?_⟩
      exact (w2.got (v1.trans v2) f2).tup (t2.append hu) q hq
    · exact w2.elim
  | _ => exact w1.elim
end
end GP

set_option Elab.async false
set_option linter.all false
set_option maxRecDepth 100000
set_option autoImplicit false
set_option maxHeartbeats 1000000

namespace HT
open PySem PySem.Spec PyProof.Rows
section
variable {prog : Program} {w : World} {A : Around} {E : Value → Shared → Prop} {s : Shared}
theorem adjust_rev (n : Nat) : Builtin.Slice.sliceAdjust none none (-1) (n : Int) = ((n : Int) - 1, -1) := by
  unfold Builtin.Slice.sliceAdjust
  simp
theorem places_rev (n : Nat) : Builtin.Slice.slicePlaces ((n : Int) - 1) (-1) (-1) = n := by
  unfold Builtin.Slice.slicePlaces
  rw [if_neg (by decide)]
  by_cases h : (n : Int) - 1 > -1
  · rw [if_pos h, show (- -1 : Int) = 1 by decide, Int.ediv_one]
    omega
  · rw [if_neg h]
    have : n = 0 := by omega
    subst this; rfl
theorem sliceApplied_rev {sl : Addr} {vl vu vs : Value} {n : Nat} {Q : Int × Int × Nat → Shared → Prop} (hs : s.heap.IsSliceOf sl vl vu vs) (pl : IsPart vl none) (pu : IsPart vu none) (ps : IsPart vs (some (-1)))
    (h : Q ((n : Int) - 1, -1, n) s) : wpAny (model prog w) A (Builtin.Slice.sliceApplied (.ref sl) (pure (n : Int))) Q E s := by
  obtain ⟨os, hos, hcs, hds⟩ := id hs
  unfold Builtin.Slice.sliceApplied Builtin.Slice.sliceFields
  refine wpAny_bind (wpAny_bind (wpAny_field hos hds (x := vl) rfl (wpAny_bind (wpAny_field hos hds (x := vu) rfl (wpAny_bind (wpAny_field hos hds (x := vs) rfl (wpAny_pure ?_)))))))
  refine wpAny_bind (slicePart_ ps ?_)
  show wpAny _ _ (if ((-1 : Int) == 0) = true then _ else _) _ _ s
  rw [if_neg (by decide)]
  refine wpAny_bind (slicePart_ pl (wpAny_bind (slicePart_ pu (wpAny_bind (wpAny_pure ?_)))))
  show wpAny _ _ (match Builtin.Slice.sliceAdjust none none (-1) (n : Int) with | (lo, hi) => pure (lo, (-1 : Int), Builtin.Slice.slicePlaces lo hi (-1))) _ _ s
  rw [adjust_rev]
  show wpAny _ _ (pure ((n : Int) - 1, (-1 : Int), Builtin.Slice.slicePlaces ((n : Int) - 1) (-1) (-1))) _ _ s
  rw [places_rev]
  exact wpAny_pure h
theorem pick_rev (xs : Array Value) : ((List.range xs.size).filterMap fun (m : Nat) => xs[(((xs.size : Int) - 1) + (m : Int) * (-1)).toNat]?).toArray = xs.toList.reverse.toArray := by
  have e : (fun (m : Nat) => xs[(((xs.size : Int) - 1) + (m : Int) * (-1)).toNat]?) = (fun k => xs[k]?) ∘ fun m => xs.size - 1 - m := by
    funext m
    show xs[(((xs.size : Int) - 1) + (m : Int) * (-1)).toNat]? = xs[xs.size - 1 - m]?
    congr 1
    omega
  rw [e, ← List.filterMap_map, PySem.W.krv_range, List.filterMap_reverse, PySem.W.krv_all]
theorem getItem_tuple_rev {t sl : Addr} {items : Array Value} {vl vu vs : Value} {Q : Value → Shared → Prop} (ht : IsTup s.heap t items) (hs : s.heap.IsSliceOf sl vl vu vs) (pl : IsPart vl none) (pu : IsPart vu none) (ps : IsPart vs (some (-1)))
    (h : Q (.ref s.heap.objs.size) { s with heap := s.heap.push { cls := .type "tuple", data := .seq items.toList.reverse.toArray } })
    (hsz : items.size ≤ sizeLine) : wpAny (model prog w) A (getItem (.ref t) (.ref sl)) Q E s := by
  have htake : sizeOk (.seq items.toList.reverse.toArray) := by
    show items.toList.reverse.toArray.size ≤ sizeLine
    rw [List.size_toArray, List.length_reverse, Array.length_toList]
    exact hsz
  obtain ⟨os, hos, hcs, hds⟩ := id hs
  have hTs : s.TypeIs (.ref sl) "slice" := ⟨os, hos, hcs⟩
  unfold getItem
  try with_reducible refine wpAny_holding ?_
  first | refine wpAny_bind (wpAny_pure ?_) | skip
  refine wpAny_bind (wpAny_sequenceKey ht.typeIs (by decide) ?_)
  refine wpAny_bind (wpAny_callSpecial?_slot (name := Str.ofString "__getitem__") ht.typeIs PyProof.Rows.slot_tuple_getitem
    (wpAny_call_entry PyProof.Rows.slot_tuple_getitem ht.typeIs entry_tuple_getitem ?_ (args_tuple_getitem _ _)))
  show wpAny _ _ (Builtin.Tuple.tupleItemsOf (.ref t) >>= _) _ _ s
  refine wpAny_bind (tupleItemsOf_ ht ?_)
  refine wpAny_bind (wpAny_typeOf hTs ?_)
  rw [if_pos (by decide)]
  refine wpAny_bind (sliceApplied_rev hs pl pu ps ?_)
  have hno : ¬ ((((items.size : Int) - 1) == 0 && (-1 : Int) == 1 && items.size == items.size) = true) := by
    intro q
    rw [Bool.and_eq_true, Bool.and_eq_true] at q
    exact absurd q.1.2 (by decide)
  show wpAny _ _ (if (((items.size : Int) - 1) == 0 && (-1 : Int) == 1 && items.size == items.size) = true then _ else _) _ _ s
  rw [if_neg hno, pick_rev]
  first
    | exact wpAny_bind (m := Builtin.Tuple.tupleExact _) (wpAny_newObj_type (wpAny_pure ⟨_, rfl, wpAny_pure h⟩) htake)
    | exact wpAny_bind (m := Builtin.Tuple.tupleExact _) (wpAny_newObj_type (wpAny_bind (wpAny_pure (wpAny_pure ⟨_, rfl, wpAny_pure h⟩))) htake)
    | exact wpAny_bind (wpAny_bind (m := Builtin.Tuple.tupleExact _) (wpAny_newObj_type (wpAny_pure (wpAny_pure ⟨_, rfl, wpAny_pure h⟩)) htake))
    | exact wpAny_bind (wpAny_bind (m := Builtin.Tuple.tupleExact _) (wpAny_newObj_type (wpAny_pure ⟨_, rfl, wpAny_pure h⟩) htake))
end
end HT
namespace L2
open PySem PySem.Spec PyProof.Rows
section
variable {X : Cx}

def tRevA (K : PySem.W.Frag) (te : TE) : TE := fun σ H Q => te σ H fun x H1 => (∃ a xs, x = .ref a ∧ SqL K H1 a xs ∧ ∀ p, H1 p = none → Q (.ref p) (upd H1 p (.lst xs.reverse))) ∨ ∃ a xs, x = .ref a ∧ SqT K H1 a xs ∧ ∀ p, H1 p = none → Q (.ref p) (upd H1 p (.tup xs.reverse))
theorem pe_revA {e : Expr} {te : TE} {k : Nat} {p1 p2 p3 pos : Pos} (he : PE X e te) : PE X (.Subscript e (.Slice none none (some (.UnaryOp .USub (.Constant (.int 1) k p1) p2)) p3) pos) (tRevA X.K te) := by
  refine ⟨fun pins s σ H Q I h => ?_⟩
  refine Subscript_ (thn (he.run pins s σ H _ I h) fun v s1 ⟨x, H1, I1, r1, q1⟩ => ?_)
  have hst : PO X (some (.UnaryOp .USub (.Constant (.int 1) k p1) p2)) (tPart (tUn (rU fun i => .int (-i)) (tC (.int 1)))) := po_some (pe_un un_neg pe_int)
  refine wpAny_Slice (thn (po_none.run pins s1 σ H1 (fun o H2 => o = none ∧ H2 = H1) I1 ⟨rfl, rfl⟩) fun vl s2 ⟨l, H2, I2, pl, el, e2⟩ => ?_)
  subst el e2
  refine thn (po_none.run pins s2 σ H2 (fun o H3 => o = none ∧ H3 = H2) I2 ⟨rfl, rfl⟩) fun vu s3 ⟨u, H3, I3, pu, eu, e3⟩ => ?_
  subst eu e3
  refine thn (hst.run pins s3 σ H3 (fun o H4 => o = some (-1) ∧ H4 = H3) I3 ⟨1, rfl, -1, rfl, rfl, rfl⟩) fun vs s4 ⟨o, H4, I4, ps, eo, e4⟩ => ?_
  subst eo e4
  have I5 : Inv X pins σ H4 { s4 with heap := s4.heap.push { cls := .type "slice", data := .fields #[vl, vu, vs] } } := I4.kept (t' := s4.toks) fun b ob q => Heap.get?_push_of_some _ q
  rcases q1 with ⟨a, xs, ex, hx, q⟩ | ⟨a, xs, ex, hx, q⟩
  · subst ex
    cases r1
    obtain ⟨its, r, ht, hz⟩ := I5.list hx
    have hlen := r.length
    show wpAny (model X.prog X.w) X.A (subscriptTail e (.Slice none none (some (.UnaryOp .USub (.Constant (.int 1) k p1) p2)) p3) (.ref a) (.ref s4.heap.objs.size)) (EP X pins σ Q) X.xe { s4 with heap := s4.heap.push { cls := .type "slice", data := .fields #[vl, vu, vs] } }
    refine tail_any (ops := [.ref a, .ref s4.heap.objs.size]) ht.isList.typeIs (PySem.slot_list_getitem.lookup) ?_ (by with_unfolding_all rfl)
    refine wpAny_getItem_list_slice ht.isList (Heap.IsSliceOf.new _ vl vu vs) pl pu ps (by decide) ?_ (by rw [List.size_toArray]; omega)
    rw [PySem.W.krv_pick]
    refine ⟨.ref _, _, I5.laid (t' := s4.toks) (o := .lst xs.reverse) (fun b ob q => Heap.get?_push_of_some _ q) (Nat.le_refl _) ?_, rfl, q _ (I5.hok.fresh (Nat.le_refl _))⟩
    exact ⟨by rw [List.length_reverse]; exact hz, _, 0, r.reverse, Heap.get?_push_size _ rfl⟩
  · subst ex
    cases r1
    obtain ⟨its, r, ht, hz⟩ := I5.tuple hx
    have hlen : its.toArray.size = xs.length := by rw [List.size_toArray]; exact r.length.symm
    show wpAny (model X.prog X.w) X.A (subscriptTail e (.Slice none none (some (.UnaryOp .USub (.Constant (.int 1) k p1) p2)) p3) (.ref a) (.ref s4.heap.objs.size)) (EP X pins σ Q) X.xe { s4 with heap := s4.heap.push { cls := .type "slice", data := .fields #[vl, vu, vs] } }
    refine tail_any (ops := [.ref a, .ref s4.heap.objs.size]) ht.typeIs (PyProof.Rows.slot_tuple_getitem.lookup) ?_ (by with_unfolding_all rfl)
    refine HT.getItem_tuple_rev ht (Heap.IsSliceOf.new _ vl vu vs) pl pu ps ?_ (by rw [hlen]; exact hz)
    refine ⟨.ref _, _, I5.laid (t' := s4.toks) (o := .tup xs.reverse) (fun b ob q => Heap.get?_push_of_some _ q) (Nat.le_refl _) ?_, rfl, q _ (I5.hok.fresh (Nat.le_refl _))⟩
    exact ⟨by rw [List.length_reverse]; exact hz, _, r.reverse, IsTup.new _ _⟩
end
end L2
namespace GP
open PySem PySem.Spec L2
section
variable {e : En} {N : List Str} {sc : Scope} {kk : Nat} {Wx : WX} {X : Cx} {a : Expr} {pos : Pos} {ra : S → R Sl}
theorem DatL.rev {m : List Addr} {H : Hp} : ∀ {vs : List V} {ds : List D}, DatL e m H vs ds → DatL e m H vs.reverse ds.reverse
  | [], [], _ => .nil
  | v :: vs, d :: ds, h => by
    cases h with | cons h1 h2 =>
    rw [List.reverse_cons, List.reverse_cons]
    exact h2.rev.append (.cons h1 .nil)
theorem x_rev (G : Gd e N sc kk Wx X) {k : Nat} {p1 p2 p3 : Pos} (ha : PE X a (TO e Wx ra)) : PE X (.Subscript a (.Slice none none (some (.UnaryOp .USub (.Constant (.int 1) k p1) p2)) p3) pos) (TO e Wx fun s => bnd (frz (ra s)) fun x s1 => lft (revD x) s1) :=
  PE.imp (pe_revA (xd ha)) fun σ H Q ⟨m, s, f, w⟩ => ⟨m, s, f, Run.one w fun x v m2 s2 H2 v2 f2 hx w2 => by
    obtain ⟨sl, hb, w3⟩ := w2.lft
    have g := w3.got v2 f2
    cases x <;> simp only [revD] at hb <;> try cases hb
    cases hx with | tup h1 t1 =>
    exact .inr ⟨_, _, rfl, sqT G.hK h1, fun p hp => g.tup t1.rev p hp⟩⟩
end
end GP

set_option Elab.async false
set_option linter.all false
set_option maxRecDepth 100000
set_option autoImplicit false
set_option maxHeartbeats 1000000

namespace GP
open PySem PySem.Spec L2

section
variable {e : En} {N : List Str} {sc : Scope} {kk : Nat} {Wx : WX} {X : Cx} {Γ : Ctx} {a b c ex : Expr} {es : List Expr} {pos p pt pt2 p1 : Pos} {kt k2 : Nat} {ra rb rk : S → R Sl} {rt : S → R Bool} {ri : S → R (List D)} {r1 r2 : S → R Fl} {sts : List Stmt}
theorem z_pars (G : Gd e N sc kk Wx X) {x y k : Str} {i j cj : Nat} {px py pk ps : Pos} (hk : X.env.scope.kind = .function) (t : Tg1 X x i) (n : nameR X y j) (ha : PE X a (TO e Wx ra)) (hb : PE X b (TO e Wx rb)) (hs : noStar a = true) (hs2 : noStar b = true)
    (hw : swP X.env.scope [.Name x px, .Subscript (.Name y py) (.Constant (.str k) cj pk) ps] [a, b] = some none) :
    PS X (.Assign [.Tuple [.Name x px, .Subscript (.Name y py) (.Constant (.str k) cj pk) ps] kt pt] (.Tuple [a, b] k2 pt2) pos) (TSt e Wx fun s => bnd (frz (ra s)) fun d s1 => bnd (frz (rb s1)) fun e s2 => match subS (s2.put i (.val d)) j (.str k) e with
      | some s3 => okv .nx s3
      | none => none) := by
  have hu : X.A.units + 10 < cLine := by have := G.room.un; omega
  have hl := xl_cons ha (xl_cons hb (xl_nil (X := X) (e := e) (Wx := Wx)) hs2) hs
  have g : PG X (.Tuple [.Name x px, .Subscript (.Name y py) (.Constant (.str k) cj pk) ps] kt pt) (gTup X.K 2 (gCons (gName i) (gCons (gSub (tVar j) (tC (.str k)) (rSub X)) gNil))) :=
    pg_tup G.calm (pgs_cons (pg_name G.ndX t.at_ t.loc t.fn) (pgs_cons (pg_sub (pe_var n.1 n.2.1 n.2.2.1 n.2.2.2) pe_str (set_sub hu) (by intro v; rfl)) pgs_nil rfl) rfl) rfl rfl
  refine PS.imp (ps_asg (pe_tup hl) g rfl (sw_of hk hw) rfl) fun Z σ H ⟨m, s, f, w⟩ => ?_
  dsimp only at w
  refine ⟨m, s, f, ?_⟩
  have w2 : RunZ e Wx σ m s H (bnd (bnd (frz (ra s)) fun d s1 => bnd (bnd (frz (rb s1)) fun d s2 => bnd (okv ([] : List D) s2) fun ds s3 => okv (d :: ds) s3) fun ds s2 => okv (d :: ds) s2) fun ds s2 => match ds with
      | [d, e] => (match subS (s2.put i (.val d)) j (.str k) e with
        | some s3 => okv .nx s3
        | none => none)
      | _ => none) Z := by
    revert w
    cases frz (ra s) with
    | none => exact fun w => w
    | some o =>
      obtain ⟨o, s1⟩ := o
      cases o with
      | exc z => exact fun w => w
      | val d =>
        rw [bnd_val, bnd_val]
        cases frz (rb s1) with
        | none => exact fun w => w
        | some o =>
          obtain ⟨o, s2⟩ := o
          cases o with
          | exc z => exact fun w => w
          | val d => exact fun w => w
  refine w2.split.imp fun ds m1 s1 H1 v1 f1 w3 vs hv => ⟨by rw [hv.length]; split at w3 <;> first | (show 2 ≤ sizeLine; decide) | exact w3.elim, fun q hq => ?_⟩
  split at w3
  case h_2 => exact w3.elim
  rename_i d d2
  obtain ⟨v, u, rfl, hv1, hv2⟩ := two_of hv
  have f2 : Fm e σ (upd H1 q (.tup [v, u])) m1 s1 := f1.new hq
  have v2 : Evo σ m s H σ m1 s1 (upd H1 q (.tup [v, u])) := v1.new (v1.fresh hq)
  obtain ⟨f3, v3⟩ := f2.put1 (i := i) (hv1.stay (.new hq))
  split at w3
  case h_2 => exact w3.elim
  rename_i s3 hs3
  obtain ⟨o, ho, h⟩ := i_sub (X := X) (Q := fun H3 => Z.nx (σ.set i (some v)) H3) f3 hs3 (.str k) (hv2.stay (.new hq)) fun H3 f4 v4 => w3.ok ((v3 v2).trans v4) f4
  refine ⟨q, _, rfl, SqT.of upd_same, rfl, v, _, rfl, ?_⟩
  refine ⟨u, _, rfl, ?_⟩
  refine ⟨o, ho, ?_⟩
  have key : ∀ {Q Q' : Hp → Prop} {o i v : V} {H : Hp}, rSub X o i v H Q → (∀ H, Q H → Q' H) → rSub X o i v H Q' := fun {Q Q' o i v H} h k => by
    rcases h with ⟨p, xs, k1, j1, h1, h2, h3, h4, h5⟩ | ⟨a, H', h1, h2, h3⟩ | ⟨a, xs, b, ks, e1, e2, e3, h1, h2, h3, h4, h5⟩
    · exact .inl ⟨p, xs, k1, j1, h1, h2, h3, h4, k _ h5⟩
    · exact .inr (.inl ⟨a, H', h1, h2, k _ h3⟩)
    · exact .inr (.inr ⟨a, xs, b, ks, e1, e2, e3, h1, h2, h3, h4, k _ h5⟩)
  exact key h fun H3 h3 => ⟨rfl, h3⟩
theorem aug_of {i : Nat} {m : List Addr} {s : S} {σ : St} {H : Hp} {v : Int} (f : Fm e σ H m s) (h : s.ρ[i]? = some (.val (.int v))) : σ[i]? = some (some (.int v)) := by
  obtain ⟨u, h1, h2⟩ := f.slot i _ h
  cases h2; exact h1
theorem z_aug (G : Gd e N sc kk Wx X) {x : Str} {i : Nat} (t : Tg1 X x i) (ha : PE X a (TO e Wx ra)) :
    PS X (.AugAssign (.Name x p) .Add a pos) (TSt e Wx fun s => match s.ρ[i]? with
    | some (.val (.int v)) => bnd (frz (ra s)) fun d s1 => (match d with
      | .int b => okv .nx (s1.put i (.val (.int (v + b))))
      | _ => none)
    | _ => none) := by
  refine PS.imp (ps_aug G.ndX t.at_ t.loc (xd ha) ip_add t.fn) fun Z σ H ⟨m, s, f, w⟩ => ?_
  dsimp only at w
  split at w
  · rename_i v hv
    refine ⟨_, aug_of f hv, m, s, f, w.split.imp fun d m1 s1 H1 v1 f1 w1 u hu => ?_⟩
    split at w1
    · rename_i k
      cases hu
      obtain ⟨f2, v2⟩ := f1.put1 (i := i) (.int (v + k))
      exact ⟨v, k, rfl, rfl, w1.ok (v2 v1) f2⟩
    · exact w1.elim
  · exact w.elim
theorem few1 {b : Expr} {env : Env} (h : noStar b = true) : ((backTo pos (starEach [b] env)).all (fun x => !x.1) && (backToKw pos (keywordEach [] env)).all (fun x => x.1.isSome) && decide (([b] : List Expr).length + ([] : List Keyword).length + (if ([] : List Keyword).isEmpty then 0 else 1) < 30)) = true := by
  rw [star_of h]; rfl
theorem ownL_of {σ : St} {m : List Addr} {s : S} {H : Hp} {i : Nat} (f : Fm e σ H m s) (h : ownL s i = true) : ∃ q vs, σ[i]? = some (some (.ref q)) ∧ H q = some (.lst vs) := by
  unfold ownL at h
  split at h
  · rename_i xs hx
    obtain ⟨q, vs, h1, h2, _⟩ := f.slot i _ hx
    exact ⟨q, vs, h1, h2⟩
  · cases h
theorem z_app (G : Gd e N sc kk Wx X) {x : Str} {i : Nat} {apos : Pos} (n : nameR X x i) (ha : PE X a (TO e Wx ra)) (hs : noStar a = true) (hl : (apos.endLine == pos.line) = true) :
    PS X (.Expr (.Call (.Attribute (.Name x p1) "append" apos) [a] [] pos) p) (TSt e Wx fun s => if ownL s i then bnd (frz (ra s)) fun d s1 => (match appS s1 i d with | some s2 => okv .nx s2 | none => none) else none) := by
  have h1 := pe_bm (r := rAppend) PySem.F.plainAttrs_list PySem.F.slot_list_append PySem.F.type_list_append mt_append (pe_var (pos := p1) n.1 n.2.1 n.2.2.1 n.2.2.2) (pa_cons (xd ha) pa_nil (star_of hs)) rfl (few1 hs) hl (star_of hs) rfl
  refine PS.imp (ps_expr h1 rfl) fun Z σ H ⟨m, s, f, w⟩ => ?_
  dsimp only at w
  split at w
  case isFalse => exact w.elim
  rename_i ho
  obtain ⟨q, vs, h2, h3⟩ := ownL_of f ho
  refine ⟨.ref q, h2, .inl ⟨rfl, vs, SqL.of h3⟩, m, s, f, w.split.imp fun d m1 s1 H1 v1 f1 w1 u hu => ?_⟩
  unfold appS at w1
  split at w1
  · rename_i s2 hs2
    split at hs2
    · rename_i xs hx
      split at hs2 <;> cases hs2
      rename_i hz
      obtain ⟨q', ws, h4, h5, h6⟩ := f1.slot i _ hx
      rw [h2] at h4; cases h4
      obtain ⟨f2, v2⟩ := f1.reLst hx h2 h5 (h6.append (.cons hu .nil))
      exact ⟨q, ws, u, rfl, rfl, h5, by rw [h6.length]; exact of_decide_eq_true hz, w1.ok (v1.trans v2) f2⟩
    · cases hs2
  · exact w1.elim
theorem z_ext (G : Gd e N sc kk Wx X) {x : Str} {i : Nat} {apos : Pos} (n : nameR X x i) (ha : PE X a (TO e Wx ra)) (hs : noStar a = true) (hl : (apos.endLine == pos.line) = true) :
    PS X (.Expr (.Call (.Attribute (.Name x p1) "extend" apos) [a] [] pos) p) (TSt e Wx fun s => if ownL s i then bnd (frz (ra s)) fun d s1 => (match extS s1 i d with | some s2 => okv .nx s2 | none => none) else none) := by
  have h1 := pe_bm (r := rExtF X.K) PySem.F.plainAttrs_list PySem.F.slot_list_extend PySem.F.type_list_extend mt_extF (pe_var (pos := p1) n.1 n.2.1 n.2.2.1 n.2.2.2) (pa_cons (xd ha) pa_nil (star_of hs)) rfl (few1 hs) hl (star_of hs) rfl
  refine PS.imp (ps_expr h1 rfl) fun Z σ H ⟨m, s, f, w⟩ => ?_
  dsimp only at w
  split at w
  case isFalse => exact w.elim
  rename_i ho
  obtain ⟨q, vs, h2, h3⟩ := ownL_of f ho
  refine ⟨.ref q, h2, .inl ⟨rfl, vs, SqL.of h3⟩, m, s, f, w.split.imp fun d m1 s1 H1 v1 f1 w1 u hu => ?_⟩
  unfold extS at w1
  split at w1
  · rename_i s2 hs2
    split at hs2
    · rename_i xs ys hx
      split at hs2 <;> cases hs2
      rename_i hz
      obtain ⟨q', ws, h4, h5, h6⟩ := f1.slot i _ hx
      rw [h2] at h4; cases h4
      cases hu with | lst l t =>
      obtain ⟨f2, v2⟩ := f1.reLst hx h2 h5 (h6.append t)
      exact ⟨q, _, ws, _, rfl, rfl, h5, .inr (by rw [G.hK]; exact l), by rw [h6.length, t.length]; exact sizeB_le hz, w1.ok (v1.trans v2) f2⟩
    · cases hs2
  · exact w1.elim


structure ForI (e : En) (Wx : WX) (r : D → S → R Fl) (Z : Ends) (xs : List D) (σ0 : St) (m0 : List Addr) (s0 : S) (H0 : Hp) (i : Nat) (σ : St) (H : Hp) : Prop where
  ex : ∃ m s, Fm e σ H m s ∧ Evo σ0 m0 s0 H0 σ m s H ∧ RunZ e Wx σ m s H (turnsF r (xs.drop i) s) Z
theorem RunZ.turn {σ : St} {m : List Addr} {s : S} {H : Hp} {Z : Ends} {N : St → Hp → Prop} {f : R Fl} {g : S → R Fl} (h : RunZ e Wx σ m s H (bnd f fun o s1 => match o with | .rt d => okv (.rt d) s1 | _ => g s1) Z)
    (k : ∀ σ' m' s' H', Evo σ m s H σ' m' s' H' → Fm e σ' H' m' s' → RunZ e Wx σ' m' s' H' (g s') Z → N σ' H') : RunZ e Wx σ m s H f { Z with nx := N, ct := N, bk := Z.nx } := by
  match f, h with
  | none, h => exact h
  | some (.exc x, s1), h => exact h
  | some (.val .nx, s1), h => exact fun σ' m' H' v f => k _ _ _ _ v f (RunZ.from h v)
  | some (.val .ct, s1), h => exact fun σ' m' H' v f => k _ _ _ _ v f (RunZ.from h v)
  | some (.val (.rt d), s1), h => exact h
def notSet : Expr → Bool
  | .Set .. => false
  | _ => true
theorem z_for {tg : CG} {tge it : Expr} (G : Gd e N sc kk Wx X) (hi : PI X tge it (TIt e Wx ri)) (hg : PG X tge (TGt X.K tg)) (hb : PSs X sts (TSt e Wx r1)) (hn : notSet it = true) :
    PS X (.For tge it sts [] pos) (TSt e Wx fun s => bnd (ri s) fun xs s1 => turnsF (turnF tg r1) xs s1) := by
  refine PS.imp (ps_for G.po G.calm hi hg hb (by cases it <;> first | (intro x; rfl) | cases hn)) fun Z σ H ⟨m, s, f, w⟩ => ?_
  refine ⟨m, s, f, w.split.imp fun xs m1 s1 H1 v1 f1 w1 J wk => ?_⟩
  refine ⟨fun i n σ' H' => n = xs.length - i ∧ i ≤ xs.length ∧ ForI e Wx (turnF tg r1) Z xs σ m1 s1 H1 i σ' H', ⟨xs.length, by simp, Nat.zero_le _, m1, s1, f1, .refl, RunZ.from w1 v1⟩, ?_⟩
  rintro i n σ2 H2 ⟨rfl, hi, m2, s2, f2, v2, w2⟩
  have st : Stay m1 H1 m2 H2 := v2.stay f1
  by_cases hlt : i < xs.length
  · refine .inr ⟨wk.go i m2 H2 hlt st, fun σ' H' => i + 1 ≤ xs.length ∧ ForI e Wx (turnF tg r1) Z xs σ m1 s1 H1 (i + 1) σ' H', fun σ' H' p => ⟨xs.length - (i + 1), by omega, rfl, p.1, p.2⟩, fun x H3 y => ?_⟩
    have hx : xs[i]? = some xs[i] := List.getElem?_eq_getElem hlt
    obtain ⟨nw, dx⟩ := wk.yld i m2 H2 x H3 _ hx st y
    rw [List.drop_eq_getElem_cons hlt] at w2
    unfold turnsF at w2
    have v3 : Evo σ m1 s1 H1 σ2 m2 s2 H3 := v2.trans nw.evo
    have f3 : Fm e σ2 H3 m2 s2 := nw.fm f2
    have w3 := RunZ.turn (N := fun σ' H' => i + 1 ≤ xs.length ∧ ForI e Wx (turnF tg r1) Z xs σ m1 s1 H1 (i + 1) σ' H') (RunZ.from w2 nw.evo) fun σ' m' s' H' v f r => ⟨hlt, m', s', f, v3.trans v, r⟩
    unfold turnF at w3
    split at w3
    · exact w3.elim
    rename_i sb hsb
    exact i_bind G.hK hsb dx f3 fun σ4 f4 v4 _ => ⟨m2, sb, f4, RunZ.from w3 (v4 .refl)⟩
  · have : i = xs.length := by omega
    subst this
    rw [List.drop_length] at w2
    exact .inl ⟨wk.stop m2 H2 st, w2 σ2 m2 H2 .refl f2⟩
theorem z_while (G : Gd e N sc kk Wx X) {t : Expr} (ht : PT X t (TB e Wx rt)) (hb : PSs X sts (TSt e Wx r1)) : PS X (.While t sts [] pos) (TSt e Wx fun s => turnsW rt r1 1000 s) := by
  refine PS.imp (ps_while G.po ht hb) fun Z σ H ⟨m, s, f, w⟩ => ?_
  refine ⟨fun n σ' H' => ∃ m' s', Fm e σ' H' m' s' ∧ RunZ e Wx σ' m' s' H' (turnsW rt r1 n s') Z, ⟨1000, m, s, f, w⟩, ?_⟩
  rintro n σ1 H1 ⟨m1, s1, f1, w1⟩
  cases n with
  | zero => exact w1.elim
  | succ n =>
    unfold turnsW at w1
    refine ⟨m1, s1, f1, w1.split.imp fun b m2 s2 H2 v2 f2 w2 => ?_⟩
    cases b with
    | false => exact w2 σ1 m2 H2 v2 f2
    | true =>
      dsimp only
      rw [if_pos rfl] at w2 ⊢
      exact ⟨fun σ' H' => ∃ m' s', Fm e σ' H' m' s' ∧ RunZ e Wx σ' m' s' H' (turnsW rt r1 n s') Z, fun σ' H' h => ⟨n, Nat.lt_succ_self n, h⟩, m2, s2, f2, RunZ.turn (RunZ.from w2 v2) fun σ' m' s' H' v f r => ⟨m', s', f, r⟩⟩
end
end GP

set_option Elab.async false
set_option linter.all false
set_option maxRecDepth 100000
set_option autoImplicit false
set_option maxHeartbeats 1000000

namespace GP
open PySem PySem.Spec L2

def ownP (N : List Str) (own : List Nat) : List (Str × Nat) := own.map fun i => ((N[i]?).getD "", i)
theorem ownP_map {N : List Str} {own : List Nat} : (ownP N own).map (fun p => p.2) = own := by
  unfold ownP; rw [List.map_map]; exact List.map_id _
section
variable {e : En} {N : List Str} {sc : Scope} {kk : Nat} {Wx : WX} {X : Cx} {Γ : Ctx} {a b c ex : Expr} {es : List Expr} {pos p pt pt2 p1 : Pos} {ra rb rk : S → R Sl} {rc : S → R Bool} {ri : S → R (List D)} {rl : S → R (List D)}
theorem takes_blk {X : Cx} {s : Shared} {H : Hp} {scope : Scope} {cenv : Env} {fp : List Addr} : Takes (X.blk s H scope cenv fp) WF := fun u s' ⟨_, _, _, _, _, _, _, _, _, _, _, _, _, _, _, _, w⟩ => w
theorem Gd.blk (G : Gd e N sc kk Wx X) (s : Shared) (H : Hp) (scope : Scope) (C : Addr) (cl : List (Str × Addr)) (fp : List Addr) : Gd e N (relS scope sc) kk WF (X.blk s H scope (compEnvC scope cl C X.env) fp) where
  hK := G.hK
  room := G.room
  gds := G.gds
  calm := G.calm
  hN := G.hN
  nd := G.nd
  hsc := by rw [← G.hsc]; rfl
  po := PassesOwn.never
  tk := takes_blk
theorem ts_nil {X : Cx} : PTs X [] (TB e Wx fun s => okv true s) := ⟨fun pins s σ H Q I w => pts_nil.run pins s σ H Q I (by obtain ⟨m, t, f, w⟩ := w; exact w m H .refl f)⟩
abbrev Blk (X : Cx) (scope : Scope) (P : Cx → Prop) : Prop := ∀ (s : Shared) (H : Hp) (C : Addr) (cl : List (Str × Addr)) (fp : List Addr), P (X.blk s H scope (compEnvC scope cl C X.env) fp)
theorem x_comp (G : Gd e N sc kk Wx X) {tg : CG} {tge it elt : Expr} {ifs : List Expr} {scope : Scope} {own : List Nat} {re : S → R Sl} (hi : PI X tge it (TIt e Wx ri)) (hb : blkC N sc scope (ownP N own) = true)
    (hg : Blk X scope fun Y => PG Y tge (TGt Y.K tg)) (ht : Blk X scope fun Y => PTs Y ifs (TB e WF rc)) (he : Blk X scope fun Y => PE Y elt (TO e WF re)) (hn : notSet it = true) (hop : ∀ i ∈ tg.ix, i ∈ own) :
    PE X (.ListComp elt [⟨tge, it, ifs, 0⟩] scope pos) (TO e Wx (compR ri tg rc re own)) := by
  have hok : BlkOk X.N X.env.scope scope (ownP N own) := by rw [G.hN, G.hsc]; exact blkOk_by hb
  have h := pe_lc (pos := pos) G.calm G.ndX hi hok (g := TGt X.K tg) (tt := TB e WF rc) (te := TD e WF fun s => frz (re s)) (fun s H C cl fp => hg s H C cl fp) (fun s H C cl fp => ht s H C cl fp) (fun s H C cl fp => xd (he s H C cl fp)) (by cases it <;> first | (intro x; rfl) | cases hn)
  rw [ownP_map] at h
  exact PE.imp h fun σ H Q w => i_comp G.hK hop w

theorem z_setc (G : Gd e N sc kk Wx X) {i : Nat} {x : Str} {px : Pos} {tg : CG} {tge it elt : Expr} {ifs : List Expr} {scope : Scope} {own : List Nat} {re : S → R Sl} (t : Tg1 X x i) (hx : X.env.scope.names.lookup x = some .local) (hsw : swapsWith (.ListComp elt [⟨tge, it, ifs, 0⟩] scope pos) (some (.Name x px)) p.line X.env = pure true)
    (hi : PI X tge it (TIt e Wx ri)) (hb : blkC N sc scope (ownP N own) = true)
    (hg : Blk X scope fun Y => PG Y tge (TGt Y.K tg)) (ht : Blk X scope fun Y => PTs Y ifs (TB e WF rc)) (he : Blk X scope fun Y => PE Y elt (TO e WF re)) (hn : notSet it = true) (hop : ∀ i ∈ tg.ix, i ∈ own) :
    PS X (.Assign [.Name x px] (.ListComp elt [⟨tge, it, ifs, 0⟩] scope pos) p) (TSt e Wx fun s => bnd (compR ri tg rc re own s) fun x s1 => okv .nx (s1.put i x)) := by
  have hok : BlkOk X.N X.env.scope scope (ownP N own) := by rw [G.hN, G.hsc]; exact blkOk_by hb
  have h := ps_setLc (pos := pos) (spos := p) G.calm G.ndX t.at_ hx hsw hi hok (g := TGt X.K tg) (tt := TB e WF rc) (te := TD e WF fun s => frz (re s)) (fun s H C cl fp => hg s H C cl fp) (fun s H C cl fp => ht s H C cl fp) (fun s H C cl fp => xd (he s H C cl fp)) (by cases it <;> first | (intro x; rfl) | cases hn)
  rw [ownP_map] at h
  refine PS.imp h fun Z σ H w => ?_
  obtain ⟨m, s, f, w⟩ := i_set (ra := compR ri tg rc re own) w
  exact i_comp G.hK hop ⟨m, s, f, w⟩


def swB (sc : Scope) (a : Expr) (x : Str) (p : Pos) : Option Bool := match a with
  | .ListComp _ _ scope pos => some (sc.names.lookup x == some .local && p.line == pos.line && !(scope.names.any fun (n, k) => n == x && (k == .local || k == .cell)))
  | .SetComp .. => none
  | .DictComp .. => none
  | _ => some false
theorem swB_of {env : Env} {a : Expr} {x : Str} {p : Pos} {l : Nat} {k : Bool} (hk : env.scope.kind = .function) (h : swB env.scope a x p = some k) : swapsWith a (some (.Name x p)) l env = pure k := by
  have hb : env.blockKind = .function := by unfold Env.blockKind; rw [hk]; rfl
  cases a <;> first | (cases h; done) | (cases h; rfl) | skip
  unfold swapsWith
  simp only [hb]
  cases h
  rfl


theorem Fm.newW {σ : St} {m : List Addr} {s : S} {H : Hp} {q : Addr} {o : HO} {wo : WO} (f : Fm e σ H m s) (nq : ¬ Wr σ m s q) (hw : ∀ u, H q = some u → wrO u = true) (hn : WoAt e (m ++ [q]) (L2.upd H q o) q wo) :
    Fm e σ (L2.upd H q o) (m ++ [q]) { s with W := s.W ++ [wo] } := by
  have st : Stay m H (m ++ [q]) (L2.upd H q o) := ⟨(stayW (m := m) hw).keep, fun n a h => by rw [List.getElem?_append_left (get_lt h)]; exact h⟩
  have ne : ∀ {j a}, OwnAt σ s j a → a ≠ q := fun {j a} w z => nq (by subst z; exact .inr ⟨j, w⟩)
  refine ⟨f.len, fun j t hj => ?_, by show _ = (s.W ++ [wo]).length; rw [List.length_append, List.length_append, f.wl]; rfl, fun n a w h1 h2 => ?_, fun i j a h1 h2 => ?_, f.od, fun i a h hm => ?_⟩
  · have x := f.slot j t hj
    cases t with
    | emp => trivial
    | val d => obtain ⟨u, q, r⟩ := x; exact ⟨u, q, r.stay st⟩
    | own xs => obtain ⟨a, vs, q, h, r⟩ := x; exact ⟨a, vs, q, by rw [upd_ne (ne ⟨q, _, hj, rfl⟩)]; exact h, DatL.stay st r⟩
    | ownd ks us => obtain ⟨a, kvs, q, h, r, r2⟩ := x; exact ⟨a, kvs, q, by rw [upd_ne (ne ⟨q, _, hj, rfl⟩)]; exact h, DatL.stay st r, DatL.stay st r2⟩
    | keys ks => obtain ⟨a, xs, q, h, r⟩ := x; exact ⟨a, xs, q, by rw [upd_ne (ne ⟨q, _, hj, rfl⟩)]; exact h, r.stay st⟩
  · have h2 : (s.W ++ [wo])[n]? = some w := h2
    by_cases hn' : n < m.length
    · rw [List.getElem?_append_left hn'] at h1
      rw [List.getElem?_append_left (by rw [← f.wl]; exact hn')] at h2
      have x := f.wok n a w h1 h2
      have na : a ≠ q := fun y => nq (.inl (by rw [← y]; exact List.mem_of_getElem? h1))
      cases w with
      | dict kvs => obtain ⟨us, h, r⟩ := x; exact ⟨us, by rw [upd_ne na]; exact h, r.stay st⟩
      | inst c fs => obtain ⟨C, dx, us, hc, h, r⟩ := x; exact ⟨C, dx, us, hc, by rw [upd_ne na]; exact h, r.stay st⟩
    · rw [List.getElem?_append_right (by omega)] at h1
      rw [List.getElem?_append_right (by rw [← f.wl]; omega), ← f.wl] at h2
      cases z : n - m.length with
      | zero => rw [z] at h1 h2; cases h1; cases h2; exact hn
      | succ k => rw [z] at h1; cases h1
  · rcases Nat.lt_or_ge i m.length with hi | hi <;> rcases Nat.lt_or_ge j m.length with hj | hj
    · rw [List.getElem?_append_left hi] at h1; rw [List.getElem?_append_left hj] at h2; exact f.wn i j a h1 h2
    · rw [List.getElem?_append_left hi] at h1; rw [List.getElem?_append_right hj] at h2
      cases z : j - m.length with
      | zero => rw [z] at h2; cases h2; exact (nq (.inl (List.mem_of_getElem? h1))).elim
      | succ k => rw [z] at h2; cases h2
    · rw [List.getElem?_append_right hi] at h1; rw [List.getElem?_append_left hj] at h2
      cases z : i - m.length with
      | zero => rw [z] at h1; cases h1; exact (nq (.inl (List.mem_of_getElem? h2))).elim
      | succ k => rw [z] at h1; cases h1
    · rw [List.getElem?_append_right hi] at h1; rw [List.getElem?_append_right hj] at h2
      cases z : i - m.length with
      | zero => cases z2 : j - m.length with
        | zero => omega
        | succ k => rw [z2] at h2; cases h2
      | succ k => rw [z] at h1; cases h1
  · rcases List.mem_append.mp hm with hm | hm
    · exact f.om i a h hm
    · exact ne h (by simpa using hm)
theorem Evo.newW {σ0 σ : St} {m0 m : List Addr} {s0 s : S} {H0 H : Hp} {q : Addr} {o : HO} {wo : WO} (v : Evo σ0 m0 s0 H0 σ m s H) (h : H0 q = none) : Evo σ0 m0 s0 H0 σ (m ++ [q]) { s with W := s.W ++ [wo] } (L2.upd H q o) where
  keep := fun b u e n => by rw [upd_ne (ne_of_none e h)]; exact v.keep b u e n
  grow := fun b w => by
    rcases w with w | w
    · rcases List.mem_append.mp w with w | w
      · exact v.grow b (.inl w)
      · right; rw [show b = q by simpa using w]; exact h
    · exact v.grow b (.inr w)
  wm := fun n a e => by
    have := v.wm n a e
    rw [List.getElem?_append_left (get_lt this)]; exact this
  there := fun b u e => by rw [upd_ne (ne_of_none e h)]; exact v.there b u e

def wdT (e : En) (Wx : WX) : List Str → List (S → R Sl) → List (TE × TE)
  | k :: ks, r :: rs => (tC (.str k), TD e Wx fun s => frz (r s)) :: wdT e Wx ks rs
  | _, _ => []
def seqR : List (S → R Sl) → S → R (List D)
  | [], s => okv [] s
  | r :: rs, s => bnd (frz (r s)) fun d s1 => bnd (seqR rs s1) fun ds s2 => okv (d :: ds) s2
inductive WdP (X : Cx) (e : En) (Wx : WX) : List (Option Expr) → List Expr → List Str → List (S → R Sl) → Prop
  | nil : WdP X e Wx [] [] [] []
  | cons {k : Str} {j : Nat} {p : Pos} {a : Expr} {r : S → R Sl} {ks : List (Option Expr)} {as : List Expr} {ns : List Str} {rs : List (S → R Sl)} : PE X a (TO e Wx r) → WdP X e Wx ks as ns rs → WdP X e Wx (some (.Constant (.str k) j p) :: ks) (a :: as) (k :: ns) (r :: rs)
theorem WdP.pps (q : Pos) : ∀ {ks : List (Option Expr)} {as : List Expr} {ns : List Str} {rs : List (S → R Sl)}, WdP X e Wx ks as ns rs → PPs X q ks as (wdT e Wx ns rs) ∧ ks.all (·.isSome) = true ∧ ks.length = as.length ∧ ns.length = rs.length ∧ ks.length = ns.length
  | _, _, _, _, .nil => ⟨pps_nil, rfl, rfl, rfl, rfl⟩
  | _, _, _, _, .cons h t => by
    obtain ⟨h1, h2, h3, h4, h5⟩ := WdP.pps q t
    exact ⟨pps_cons pe_str (xd h) h1, by simpa using h2, by simp [h3], by simp [h4], by simp [h5]⟩
theorem i_pairs {σ : St} : ∀ {ns : List Str} {rs : List (S → R Sl)} {m : List Addr} {s : S} {H : Hp} {Q : List (V × V) → Hp → Prop} {k : List D → List Addr → S → Hp → Prop}, ns.length = rs.length → Fm e σ H m s → Run e Wx σ m s H (seqR rs s) k →
    (∀ ds m' s' H' vs, ds.length = ns.length → Evo σ m s H σ m' s' H' → Fm e σ H' m' s' → k ds m' s' H' → DatL e m' H' vs ds → Q (ns.zip vs |>.map fun p => (.str p.1, p.2)) H') → tPairs (wdT e Wx ns rs) σ H Q
  | [], [], m, s, H, Q, k, _, f, w, q => q [] m s H [] rfl .refl f (w m H .refl f) .nil
  | n :: ns, r :: rs, m, s, H, Q, k, hl, f, w, q => by
    unfold seqR at w
    show tPairs ((tC (.str n), TD e Wx fun s => frz (r s)) :: wdT e Wx ns rs) σ H Q
    refine ⟨m, s, f, w.split.imp fun d m1 s1 H1 v1 f1 w1 v hv => ?_⟩
    refine i_pairs (by simpa using hl) f1 w1.split fun ds m2 s2 H2 vs hn v2 f2 w2 hvs => ?_
    have := q (d :: ds) m2 s2 H2 (v :: vs) (by simp [hn]) (v1.trans v2) f2 (w2 m2 H2 .refl f2) (.cons (hv.stay (v2.stay f1)) hvs)
    exact this
  | [], _ :: _, _, _, _, _, _, h, _, _, _ => by simp at h
  | _ :: _, [], _, _, _, _, _, h, _, _, _ => by simp at h
theorem merge_nodup : ∀ (us : List (Str × V)) (acc : List (Key × V)), (us.map fun p => p.1).Nodup → (∀ p ∈ us, ∀ q ∈ acc, q.1 ≠ Sum.inr p.1) → mergeK acc (us.map skey) = acc ++ us.map skey
  | [], acc, _, _ => by simp [mergeK]
  | p :: us, acc, nd, h => by
    rw [List.map_cons, List.nodup_cons] at nd
    have h1 : putK acc (skey p).1 (skey p).2 = acc ++ [skey p] := by
      unfold putK
      rw [if_neg]
      intro z
      obtain ⟨q, hq, e⟩ := List.any_eq_true.mp z
      exact h p List.mem_cons_self q hq (of_decide_eq_true e)
    have := merge_nodup us (acc ++ [skey p]) nd.2 fun r hr q hq => by
      rcases List.mem_append.mp hq with hq | hq
      · exact h r (List.mem_cons_of_mem _ hr) q hq
      · rw [show q = skey p by simpa using hq]
        intro z
        have : p.1 = r.1 := Sum.inr.inj z
        exact nd.1 (by rw [this]; exact List.mem_map_of_mem hr)
    unfold mergeK at this ⊢
    rw [List.map_cons, List.foldl_cons, h1, this]
    simp
theorem datF_zip {m : List Addr} {H : Hp} : ∀ {ns : List Str} {vs : List V} {ds : List D}, DatL e m H vs ds → DatF e m H (ns.zip vs) (ns.zip ds)
  | [], _, _, _ => by simp; exact .nil
  | n :: ns, _, _, .nil => by simp; exact .nil
  | n :: ns, _, _, .cons h t => by rw [List.zip_cons_cons, List.zip_cons_cons]; exact .cons h (datF_zip t)
theorem x_wd {ks : List (Option Expr)} {as : List Expr} {ns : List Str} {rs : List (S → R Sl)} (h : WdP X e Wx ks as ns rs) (nd : ns.Nodup) (h0 : ks ≠ []) (h15 : ks.length ≤ 15) :
    PE X (.Dict ks as pos) (TO e Wx fun s => bnd (seqR rs s) fun ds s1 => newDict ns ds s1) := by
  obtain ⟨h1, h2, h3, h4, h5⟩ := h.pps pos
  refine PE.imp (pe_disp h1 h2 h3 h0 h15) fun σ H Q ⟨m, s, f, w⟩ p hp => ?_
  have f0 : Fm e σ (upd H p (.dK [])) m s := f.new hp
  have v0 : Evo σ m s H σ m s (upd H p (.dK [])) := Evo.new .refl hp
  have w0 : Run e Wx σ m s (upd H p (.dK [])) (seqR rs s) (fun ds m1 s1 H1 => Run e Wx σ m s H (newDict ns ds s1) (fun sl m' s' H' => ∀ v, Res e σ m' s' H H' v sl → Q v H')) := by
    revert w
    dsimp only
    cases seqR rs s with
    | none => exact fun w => w
    | some o =>
      obtain ⟨o, s1⟩ := o
      cases o with
      | exc z => exact fun w m' H' c d v f x => w m' H' c d (v0.trans v) f x
      | val ds => exact fun w m' H' v f => w
  refine i_pairs h4 f0 w0 fun ds m1 s1 H1 vs hn v1 f1 w1 hvs => ?_
  have np0 : ¬ Wr σ m s p := f.free hp
  obtain ⟨np, hp1⟩ := v1.nwr (upd_same (H := H)) np0
  have hl : vs.length = ns.length := by rw [hvs.length, hn]
  have hz : (ns.zip vs).map (fun p => p.1) = ns := by rw [List.map_fst_zip]; omega
  refine ⟨hp1, (ns.zip vs).map skey, by rw [List.map_map]; rfl, by rw [List.length_map, List.length_zip, hl, Nat.min_self, ← h5]; exact h15, ?_⟩
  rw [merge_nodup (ns.zip vs) [] (by rw [hz]; exact nd) (fun _ _ _ h => nomatch h), List.nil_append]
  unfold newDict at w1
  rw [if_pos hn.symm] at w1
  have hw : ∀ u, H1 p = some u → wrO u = true := fun u q => by rw [hp1] at q; cases q; rfl
  have st : Stay m1 H1 (m1 ++ [p]) (upd H1 p (.dK ((ns.zip vs).map skey))) := ⟨(stayW (m := m1) hw).keep, fun n a h => by rw [List.getElem?_append_left (get_lt h)]; exact h⟩
  have f2 := f1.newW (o := .dK ((ns.zip vs).map skey)) (wo := .dict (ns.zip ds)) np hw ⟨ns.zip vs, upd_same, (datF_zip hvs).stay st⟩
  have v2 := (v0.trans v1).newW (o := .dK ((ns.zip vs).map skey)) (wo := .dict (ns.zip ds)) hp
  refine w1 _ _ v2 f2 _ (.obj ?_)
  rw [← f1.wl, List.getElem?_append_right (Nat.le_refl _), Nat.sub_self]; rfl
end
end GP

set_option Elab.async false
set_option linter.all false
set_option maxRecDepth 100000
set_option autoImplicit false
set_option maxHeartbeats 4000000

namespace GP
open PySem PySem.Spec L2

section
variable {e : En} {m : List Addr} {H : Hp}
theorem DatF.lookI {us : List (Str × V)} {kvs : List (Str × D)} {k : Str} {d : D} (h : DatF e m H us kvs) (g : kvs.lookup k = some d) : ∃ v, us.lookup k = some v ∧ Dat e m H v d := by
  induction h with
  | nil => cases g
  | @cons k' v' d' us kvs h t ih =>
    rw [List.lookup_cons] at g ⊢
    cases q : k == k' with
    | true => rw [q] at g; cases g; exact ⟨v', rfl, h⟩
    | false => rw [q] at g; exact ih g
theorem DatF.lookN {us : List (Str × V)} {kvs : List (Str × D)} {k : Str} (h : DatF e m H us kvs) (g : kvs.lookup k = none) : us.lookup k = none := by
  induction h with
  | nil => rfl
  | @cons k' v' d' us kvs h t ih =>
    rw [List.lookup_cons] at g ⊢
    cases q : k == k' with
    | true => rw [q] at g; cases g
    | false => rw [q] at g; exact ih g
theorem DatF.put {us : List (Str × V)} {kvs : List (Str × D)} {k : Str} {v : V} {d : D} (h : DatF e m H us kvs) (hd : Dat e m H v d) : DatF e m H (putF k v us) (putD k d kvs) := by
  induction h with
  | nil => exact .cons hd .nil
  | @cons k' v' d' us kvs h t ih =>
    unfold putF putD
    by_cases q : k' = k
    · rw [if_pos q, if_pos q]; exact .cons hd t
    · rw [if_neg q, if_neg q]; exact .cons h ih

theorem Fm.inst {σ : St} {s : S} {n c : Nat} {fs : List (Str × D)} {a : Addr} (f : Fm e σ H m s) (hm : m[n]? = some a) (hw : s.W[n]? = some (.inst c fs)) : ∃ C dx us, e.ins c = some C ∧ H a = some (.ins C dx us) ∧ DatF e m H us fs := f.wok n a _ hm hw
theorem isCls_of {W : List WO} {x : D} {c : Nat} {k : Str} (h : isCls W x c k = true) : ∃ n fs, x = .obj n ∧ W[n]? = some (.inst c fs) ∧ fs.lookup k = none := by
  unfold isCls at h
  split at h
  · split at h
    · rename_i b fs q
      rw [Bool.and_eq_true_iff] at h
      have := of_decide_eq_true h.1
      subst this
      exact ⟨_, fs, rfl, q, by simpa using h.2⟩
    · cases h
  · cases h
theorem Fm.isCls {σ : St} {s : S} {c : Nat} {x : D} {k : Str} {v : V} (f : Fm e σ H m s) (h : GP.isCls s.W x c k = true) (hv : Dat e m H v x) : ∃ a C dx us, v = .ref a ∧ e.ins c = some C ∧ H a = some (.ins C dx us) ∧ us.lookup k = none := by
  obtain ⟨n, fs, rfl, hw, hl⟩ := isCls_of h
  cases hv with | obj hm =>
  obtain ⟨C, dx, us, h1, h2, h3⟩ := f.inst hm hw
  exact ⟨_, C, dx, us, rfl, h1, h2, h3.lookN hl⟩
end
section
variable {e : En} {N : List Str} {sc : Scope} {kk : Nat} {Wx : WX} {X : Cx} {Γ : Ctx} {a o ex : Expr} {es : List Expr} {pos apos p : Pos} {ra ro : S → R Sl} {rl : S → R (List D)} {k : Str} {f c : Nat} {ps : List Str} {ds : List D}
theorem Run.later {α : Type} {σ : St} {m m1 : List Addr} {s s1 : S} {H H1 : Hp} {r : R α} {q : α → List Addr → S → Hp → Prop} (h : Run e Wx σ m s H r q) (v : Evo σ m s H σ m1 s1 H1) : Run e Wx σ m1 s1 H1 r q := by
  match r, h with
  | none, h => exact h
  | some (.exc x, _), h => exact fun m2 H2 cl d v2 f2 x2 => h m2 H2 cl d (v.trans v2) f2 x2
  | some (.val b, _), h => exact fun m2 H2 v2 f2 => h m2 H2 (v.trans v2) f2

theorem x_fld (G : Gd e N sc kk Wx X) (hc : ∀ c C, e.ins c = some C → Cls e.K C ∧ NoAttr e.K C k) (ha : PE X a (TO e Wx ra)) (ho : abOk a = true) :
    PE X (.Attribute a k pos) (TO e Wx fun s => bnd (frz (ra s)) fun x s1 => lft ((fldW s1.W x k).map .val) s1) :=
  PE.imp (pe_fld (xd ha) (ab_of ho)) fun σ H Q ⟨m, s, f0, w⟩ => ⟨m, s, f0, w.split.imp fun x m1 s1 H1 v1 f1 w1 v hv => by
    obtain ⟨sl, hb, w3⟩ := w1.lft
    obtain ⟨d, hd, rfl⟩ := Option.map_eq_some_iff.mp hb
    unfold fldW at hd
    split at hd
    · split at hd
      · rename_i q
        cases hv with | obj hm =>
        obtain ⟨C, dx, us, h1, h2, h3⟩ := f1.inst hm q
        obtain ⟨u, hu, du⟩ := h3.lookI hd
        obtain ⟨k1, k2⟩ := hc _ _ h1
        exact ⟨_, C, dx, us, u, rfl, h2, G.hK ▸ k1, G.hK ▸ k2, hu, (w3.got v1 f1).at du⟩
      · cases hd
    · cases hd⟩

def fstR (k : Str) (ro ra : S → R Sl) : S → R Fl := fun s => bnd (frz (ra s)) fun d s1 => bnd (frz (ro s1)) fun x s2 => match fstW s2 x k d with
  | some s3 => okv .nx s3
  | none => none
theorem z_fst (G : Gd e N sc kk Wx X) (hc : ∀ c C, e.ins c = some C → Cls e.K C ∧ NoAttr e.K C k) (hv : PE X a (TO e Wx ra)) (ho : PE X o (TO e Wx ro)) : PS X (.Assign [.Attribute o k apos] a pos) (TSt e Wx (fstR k ro ra)) := by
  refine PS.imp (ps_fld (xd ho) (xd hv) (by cases a <;> rfl)) fun Z σ H ⟨m, s, f0, w⟩ => ⟨m, s, f0, w.split.imp fun d m1 s1 H1 v1 f1 w1 y hy => ⟨m1, s1, f1, (w1.from v1).split.imp fun x m2 s2 H2 v2 f2 w2 v hv => ?_⟩⟩
  have w2 : RunZ e Wx σ m1 s1 H1 (match fstW s2 x k d with
    | some s3 => okv .nx s3
    | none => none) Z := w2
  cases q : fstW s2 x k d with
  | none => rw [q] at w2; exact w2.elim
  | some s3 =>
    rw [q] at w2
    unfold fstW at q
    split at q
    · rename_i n
      split at q
      · rename_i b fs hq
        split at q <;> cases q
        rename_i hz
        cases hv with | obj hm =>
        obtain ⟨C, dx, us, h1, h2, h3⟩ := f2.inst hm hq
        obtain ⟨k1, k2⟩ := hc _ _ h1
        have hlen : us.length < 1000 := by rw [h3.length]; exact of_decide_eq_true hz
        have hw : ∀ u, H2 _ = some u → wrO u = true := fun u z => by rw [h2] at z; cases z; rfl
        obtain ⟨f3, v3⟩ := f2.reW (wo := .inst b (putD k d fs)) (o := .ins C dx (putF k y us)) hm hw ⟨C, dx, _, h1, upd_same, ((h3.put (hy.stay (v2.stay f1))).stay (stayW hw))⟩
        exact ⟨_, C, dx, us, rfl, h2, G.hK ▸ k1, G.hK ▸ k2, hlen, w2.ok (v2.trans v3) f3⟩
      · cases q
    · cases q



structure MethR (e : En) (X : Cx) (k : Nat) (c : Nat) (n : Str) (ps : List Str) (ds : List D) (sp : Sp) : Prop where
  ex : ∃ (C g : Addr) (fd : FuncData) (dv : List V) (du : List Value), e.ins c = some C ∧ Cls X.K C ∧ Meth X.K C n g ∧ FnG X.prog X.w X.K X.mg X.base k g fd ps sp ∧ Binds X.K fd ps du ∧ Vals dv du ∧ ∀ m H, DatL e m H dv ds
def methR (Γ : Ctx) (f c : Nat) (k : Str) (ds : List D) (ra : S → R Sl) (rl : S → R (List D)) : S → R Sl := fun s => bnd (frz (ra s)) fun x s1 => if isCls s1.W x c k then bnd (rl s1) fun xs s2 => bnd (Γ.run f (x :: (xs ++ ds)) s2) fun d s3 => okv (.val d) s3 else none
theorem few_form {pos : Pos} {env : Env} (hs : es.all noStar = true) (hn : es.length < 20) : methodCallForm (es.length + ([] : List Keyword).length) (backTo pos (starEach es env)) (backToKw pos (keywordEach [] env)) = true := by
  have h1 : (backTo pos (starEach es env)).all (fun x => !x.1) = true := by
    have h0 := plain_args (pos := pos) (env := env) hs
    generalize backTo pos (starEach es env) = l at h0 ⊢
    induction l with
    | nil => rfl
    | cons x l ih =>
      rw [List.any_cons, Bool.or_eq_false_iff] at h0
      rw [List.all_cons, h0.1, ih h0.2]; rfl
  unfold methodCallForm
  rw [h1]
  show (true && true && decide (es.length + 0 + 0 < 30)) = true
  simp; omega
theorem mc_eq {env : Env} (hb : ∀ w, attributeBase o k env w = w) (hl : (apos.endLine == pos.line) = true) (hs : es.all noStar = true) (hn : es.length < 20) :
    eval (.Call (.Attribute o k apos) es [] pos) env = (do
      let ov ← eval o env
      standAt apos.atName
      let (g, first) ← holding [ov] (getMethod ov k (do return (← importBound o env).getD true))
      callWith pos g first (backTo pos (starEach es env)) (backToKw pos (keywordEach [] env))) := by
  rw [arm_eval_Call, hb]
  congr 1
  funext ov
  congr 1
  funext _
  unfold methodCall
  rw [few_form hs hn]
  unfold methodCallPos
  rw [hl]
  rfl
theorem i_meth {np : Nat} {dv : List V} (hl : ∀ ds W o, Γ.call f ds W = some o → ds.length = np) (hd : ∀ m H, DatL e m H dv ds) {σ : St} {H : Hp} {Q : VK} (w : TO e Wx (methR Γ f c k ds ra rl) σ H Q) :
    TD e Wx (fun s => frz (ra s)) σ H fun v H1 => ∃ a C dx us, v = .ref a ∧ e.ins c = some C ∧ H1 a = some (.ins C dx us) ∧ us.lookup k = none ∧ TL e Wx rl σ H1 fun vs H2 => spG e np (Γ.call f) (v :: (vs ++ dv)) H2 Q (WE Wx σ) := by
  obtain ⟨m, s, f0, w⟩ := w
  refine ⟨m, s, f0, w.split.imp fun x m1 s1 H1 v1 f1 w1 v hv => ?_⟩
  by_cases q : isCls s1.W x c k = true
  · rw [if_pos q] at w1
    obtain ⟨a, C, dx, us, h1, h2, h3, h4⟩ := f1.isCls q hv
    refine ⟨a, C, dx, us, h1, h2, h3, h4, m1, s1, f1, w1.split.imp fun xs m2 s2 H2 v2 f2 w2 vs hvs => Run.spg (s := s2) (w2.split.imp fun d m3 s3 H3 v3 f3 w3 u hu => ?_) f2 (.cons (hv.stay (v2.stay f1)) (hvs.append (hd _ _))) hl⟩
    exact (w3.got ((v1.trans v2).trans v3) f3).at hu
  · rw [if_neg q] at w1; exact w1.elim
theorem ins_inj {c : Nat} {C C' : Addr} (h : e.ins c = some C) (h' : e.ins c = some C') : C = C' := by rw [h] at h'; exact Option.some.inj h'
theorem x_meth (G : Gd e N sc kk Wx X) (F : MethR e X kk c k ps ds (spG e ps.length (Γ.call f))) (ha : PE X o (TO e Wx ra)) (hl : PA X es (TL e Wx rl)) (hs : es.all noStar = true) (hn : es.length < 20) (ho : abOk o = true) (hli : (apos.endLine == pos.line) = true)
    (hlen : ∀ ds W o, Γ.call f ds W = some o → ds.length = ps.length) (hnil : es = [] → rl = fun s => okv [] s) :
    PE X (.Call (.Attribute o k apos) es [] pos) (TO e Wx (methR Γ f c k ds ra rl)) := by
  obtain ⟨C, g, fd, dv, du, hC, kc, km, F, hb, rdu, hdv⟩ := F.ex
  refine ⟨fun pins s σ H Q I w => ?_⟩
  refine PySem.W.methodCall_KW (thn ((xd ha).run pins s σ H _ I (i_meth hlen hdv w)) fun u s1 ⟨x, H1, I1, rx, a, C', dx, us, ev, hC', ea, hlk, q⟩ => ?_) (mc_eq (fun _ => ab_of ho) hli hs hn)
  subst ev
  obtain rfl : u = Value.ref a := rx
  cases ins_inj hC hC'
  refine getmeth_ok I1 ea kc km hlk ?_
  have fin : ∀ {vs : List V} {xs : List Value} {H2 : Hp} {s2 : Shared}, L2.Inv X pins σ H2 s2 → Vals vs xs → spG e ps.length (Γ.call f) (.ref a :: (vs ++ dv)) H2 Q (WE Wx σ) → wpAny (model X.prog X.w) X.A (call (.ref g) (.ref a :: xs)) (EP X pins σ Q) X.xe s2 := by
    intro vs xs H2 s2 I2 r q2
    have r2 : Vals (.ref a :: (vs ++ dv)) (.ref a :: (xs ++ du)) := .cons rfl (r.append rdu)
    refine run_g (us' := .ref a :: (xs ++ du)) F G.room G.gds (hb s2 (.ref a :: xs) I2.kIn ?_) G.tk I2 r2 q2
    show (Value.ref a :: (xs ++ du)).length = ps.length
    rw [← r2.length]; exact F.len _ _ _ _ q2
  cases es with
  | nil =>
    obtain ⟨m, t, f1, w1⟩ := q
    rw [hnil rfl] at w1
    exact PySem.W.callWith_K0 (first := [.ref a]) I1.kIn km.kp (fin I1 .nil (w1 m H1 .refl f1 [] .nil))
  | cons b es =>
    rw [List.all_cons, Bool.and_eq_true_iff] at hs
    exact PySem.W.callWith_K (first := [.ref a]) (h₀ := X.base) I1.ok.mod.kin km.kp (thn (hl.run pos pins s1 σ H1 _ I1 q) fun xs s2 ⟨vs, H2, I2, r, q2⟩ => ⟨I2.kIn, fin I2 r q2⟩) (star_of hs.1) (plain_args hs.2)


structure PropR (e : En) (X : Cx) (k : Nat) (c : Nat) (n : Str) (ps : List Str) (sp : Sp) : Prop where
  ex : ∃ (C p g : Addr) (fd : FuncData) (j : Nat), j + 1 ≤ k ∧ e.ins c = some C ∧ Cls X.K C ∧ PropOf X.K C n p g ∧ FnG X.prog X.w X.K X.mg X.base j g fd ps sp ∧ Binds X.K fd ps []
def propR (Γ : Ctx) (f c : Nat) (k : Str) (ra : S → R Sl) : S → R Sl := fun s => bnd (frz (ra s)) fun x s1 => if isCls s1.W x c k then bnd (noExc (Γ.run f [x] s1)) fun d s2 => okv (.val d) s2 else none
theorem Run.spgN {σ : St} {m : List Addr} {s : S} {H : Hp} {np : Nat} {vs : List V} {ds : List D} {Q : VK} {E : XK} (w : Run e Wx σ m s H (noExc (Γ.run f ds s)) (fun d m' s' H' => ∀ v, Dat e m' H' v d → Q v H')) (fm : Fm e σ H m s) (hd : DatL e m H vs ds) (hl : ∀ ds W o, Γ.call f ds W = some o → ds.length = np) :
    spG e np (Γ.call f) vs H Q E := by
  unfold Ctx.run at w
  cases q : Γ.call f ds s.W with
  | none => rw [q] at w; exact w.elim
  | some o =>
    have hlen := hl _ _ _ q
    obtain ⟨o, W⟩ := o
    rw [q] at w
    refine ⟨m, ds, s.W, by rw [hd.length, hlen], hd, fm.world, ?_⟩
    rw [q]
    cases o with
    | val d => exact fun m' H' v ev fm' hv => w m' H' (fm.call ev fm').2 (fm.call ev fm').1 v hv
    | exc x => exact w.elim
theorem i_prop {np : Nat} (hl : ∀ ds W o, Γ.call f ds W = some o → ds.length = np) {σ : St} {H : Hp} {Q : VK} (w : TO e Wx (propR Γ f c k ra) σ H Q) :
    TD e Wx (fun s => frz (ra s)) σ H fun v H1 => ∃ a C dx us, v = .ref a ∧ e.ins c = some C ∧ H1 a = some (.ins C dx us) ∧ spG e np (Γ.call f) [v] H1 Q (fun _ _ _ => False) := by
  obtain ⟨m, s, f0, w⟩ := w
  refine ⟨m, s, f0, w.split.imp fun x m1 s1 H1 v1 f1 w1 v hv => ?_⟩
  by_cases q : isCls s1.W x c k = true
  · rw [if_pos q] at w1
    obtain ⟨a, C, dx, us, h1, h2, h3, h4⟩ := f1.isCls q hv
    refine ⟨a, C, dx, us, h1, h2, h3, Run.spgN (s := s1) (w1.split.imp fun d m3 s3 H3 v3 f3 w3 u hu => ?_) f1 (.cons hv .nil) hl⟩
    exact (w3.got (v1.trans v3) f3).at hu
  · rw [if_neg q] at w1; exact w1.elim
theorem guards_in1 {A : Around} (h : A.guards = some []) : A.in1.guards = some [] := by first | exact h | (unfold Around.in1; simp [h])
theorem x_prop (G : Gd e N sc kk Wx X) (F : PropR e X kk c k ps (spG e ps.length (Γ.call f))) (ha : PE X o (TO e Wx ra)) (ho : abOk o = true) (hlen : ∀ ds W o, Γ.call f ds W = some o → ds.length = ps.length) :
    PE X (.Attribute o k pos) (TO e Wx (propR Γ f c k ra)) := by
  obtain ⟨C, p, g, fd, j, hj, hC, kc, kp, F, hb⟩ := F.ex
  refine ⟨fun pins s σ H Q I w => ?_⟩
  refine attr_of (ab_of ho) (thn ((xd ha).run pins s σ H _ I (i_prop hlen w)) fun u s1 ⟨x, H1, I1, rx, a, C', dx, us, ev, hC', ea, q⟩ => ?_)
  subst ev
  obtain rfl : u = Value.ref a := rx
  cases ins_inj hC hC'
  obtain ⟨mA, O, _, _, _, _⟩ := ins_get I1.hok ea
  obtain ⟨od, J, _⟩ := O.look
  obtain ⟨rest, hrec⟩ := kp.rec_
  have hlen1 : ps.length = 1 := (F.len _ _ _ _ q).symm
  have isC : (PySem.W.clsIn X.K C).isSome = true := by
    obtain ⟨cd, z, _⟩ := PySem.W.any_some kc.hd
    rw [z]; rfl
  refine PySem.W.get_bind I1.kIn J (PySem.W.plainGet_of (kc.get k)).1 (PySem.W.findObj_data isC kp.at_ kp.get kp.tak) (PySem.W.plainGet_of (kc.get k)).2 (wpAny_call (PySem.W.prop_get (s := { s1 with toks := s1.toks + 1 }) I1.kIn hrec ?_))
  have It := I1.tok (s1.toks + 1)
  have room1 : Room j X.A.in1 := (G.room.mono hj).in1
  refine codeAny_mono (F.run X.A.in1 X.stack { s1 with toks := s1.toks + 1 } H1 ⟨[.ref a], []⟩ [.ref a] [.ref a] Q (fun _ _ _ => False) room1 (guards_in1 G.gds) It.env0.in1 (hb _ [.ref a] It.kIn (by simpa using hlen1.symm)) (.cons rfl .nil) q) fun r s' back => ?_
  cases r with
  | error er =>
    obtain ⟨_, _, _, _, _, _, _, _, _, _, _, _, z⟩ := back
    exact z.elim
  | ok fl =>
    cases fl with
    | ret u =>
      obtain ⟨v, H', I3, rv, q3⟩ := It.after back
      show wpAny _ _ (handedOut u) _ _ _
      rw [PySem.W.handedOut_of (handed_of rv)]
      exact wpAny_pure ⟨v, H', I3, rv, q3⟩
    | next => exact False.elim back
    | brk => exact False.elim back
    | cont => exact False.elim back


structure MakeR (e : En) (X : Cx) (k : Nat) (c : Nat) (x : Str) (ps : List Str) (sp : Sp) : Prop where
  ex : ∃ (C g : Addr) (fd : FuncData) (j : Nat), j + 1 ≤ k ∧ e.ins c = some C ∧ X.mg x = some (.ref C) ∧ Mk X.K C g ∧ FnG X.prog X.w X.K X.mg X.base j g fd ps sp ∧ Binds X.K fd ps []
def makeR (Γ : Ctx) (f c : Nat) (rl : S → R (List D)) : S → R Sl := fun s => bnd (rl s) fun xs s1 => bnd (Γ.run f (.obj s1.W.length :: xs) (newI c s1)) fun d s2 => gotN s1.W.length d s2
theorem i_make {np : Nat} {C : Addr} (hC : e.ins c = some C) (hl : ∀ ds W o, Γ.call f ds W = some o → ds.length = np) {σ : St} {H : Hp} {Q : VK} (w : TO e Wx (makeR Γ f c rl) σ H Q) :
    TL e Wx rl σ H fun vs H1 => ∀ x dx, H1 x = none → H1 dx = none → dx ≠ x → spG e np (Γ.call f) (.ref x :: vs) (upd (upd H1 dx (.own x)) x (.ins C dx [])) (fun v H2 => v = .non ∧ Q (.ref x) H2) (WE Wx σ) := by
  obtain ⟨m, s, f0, w⟩ := w
  refine ⟨m, s, f0, w.split.imp fun xs m1 s1 H1 v1 f1 w1 vs hvs x dx hx hdx ne => ?_⟩
  have f2 : Fm e σ (upd H1 dx (.own x)) m1 s1 := f1.new hdx
  have hx2 : upd H1 dx (.own x) x = none := by rw [upd_ne (fun z => ne z.symm)]; exact hx
  have nw : ¬ Wr σ m1 s1 x := f2.free hx2
  have f3 := f2.newW (o := .ins C dx []) (wo := .inst c []) nw (fun u z => by rw [hx2] at z; cases z) ⟨C, dx, [], hC, upd_same, .nil⟩
  have v3 : Evo σ m1 s1 H1 σ (m1 ++ [x]) (newI c s1) (upd (upd H1 dx (.own x)) x (.ins C dx [])) := Evo.newW (o := .ins C dx []) (wo := .inst c []) (Evo.new .refl hdx) hx
  have hm : (m1 ++ [x])[s1.W.length]? = some x := by rw [← f1.wl, List.getElem?_append_right (Nat.le_refl _), Nat.sub_self]; rfl
  refine Run.spg (s := newI c s1) (((w1.later v3).split).imp fun d m4 s4 H4 v4 f4 w4 u hu => ?_) f3 (.cons (.obj hm) (DatL.stay (v3.stay f1) hvs)) hl
  unfold gotN at w4
  split at w4
  · rename_i hnn
    cases d <;> first | (cases hnn; done) | skip
    cases hu
    exact ⟨rfl, (w4.got ((v1.trans v3).trans v4) f4).at (.obj (v4.wm _ _ hm))⟩
  · exact w4.elim
theorem guards_under {A : Around} {z : Args} (h : A.guards = some []) : (A.under (.builtin "type.__call__" z)).guards = some [] := by
  show pushGuards (Code.guards (.builtin "type.__call__" z)) A.guards = some []
  rw [h]
  rfl
theorem x_make (G : Gd e N sc kk Wx X) {x : Str} (F : MakeR e X kk c x ps (spG e ps.length (Γ.call f))) (hg : Gl X x) (hdb : (x == ("__debug__" : Str)) = false) (hl : PA X (a :: es) (TL e Wx rl)) (hs : (a :: es).all noStar = true)
    (hlen : ∀ ds W o, Γ.call f ds W = some o → ds.length = ps.length) :
    PE X (.Call (.Name x p) (a :: es) [] pos) (TO e Wx (makeR Γ f c rl)) := by
  obtain ⟨C, g, fd, j, hj, hC, hm, M, F, hb⟩ := F.ex
  rw [List.all_cons, Bool.and_eq_true_iff] at hs
  refine ⟨fun pins s σ H Q I w => ?_⟩
  refine wpAny_Call_Name_kw (ld_glob I hg hm ?_ hdb)
  refine PySem.W.callWith_K (h₀ := X.base) I.ok.mod.kin M.kp (thn (hl.run pos pins s σ H _ I (i_make hC hlen w)) fun us s1 ⟨vs, H1, I1, r, q⟩ => ⟨I1.kIn, ?_⟩) (star_of hs.1) (plain_args hs.2)
  show wpAny _ _ (call (.ref C) us) _ _ _
  have q := q (s1.heap.objs.size + 1) s1.heap.objs.size (I1.hok.fresh (Nat.le_succ _)) (I1.hok.fresh (Nat.le_refl _)) (Nat.ne_of_lt (Nat.lt_succ_self _))
  have J := Inv.made (C := C) I1
  have rr : Vals (V.ref (s1.heap.objs.size + 1) :: vs) (Value.ref (s1.heap.objs.size + 1) :: us) := .cons rfl r
  have n1 : (Value.ref (s1.heap.objs.size + 1) :: us ++ []).length = ps.length := by
    rw [List.append_nil, ← rr.length]; exact F.len _ _ _ _ q
  have bb := hb _ (Value.ref (s1.heap.objs.size + 1) :: us) J.kIn n1
  rw [List.append_nil] at bb
  have room1 : Room (j + 1) X.A := G.room.mono hj
  refine wpAny_call (make_map (f := g) I1.kIn M.makes M.init (beq_iff_eq.mp M.fn) (codeAny_mono (F.run _ X.stack _ _ ⟨Value.ref (s1.heap.objs.size + 1) :: us, []⟩ _ _ _ (WE Wx σ) (room1.make C us []) (guards_under G.gds) (J.env0.make C us []) bb rr q) fun r s' back => ?_))
  cases r with
  | error er => exact passAt G.tk σ pins _ _ er s' J back
  | ok fl =>
    cases fl with
    | ret u =>
      obtain ⟨v, H', I3, rv, ev, q3⟩ := J.after back
      subst ev
      exact ⟨rv, ⟨V.ref (s1.heap.objs.size + 1), H', I3, rfl, q3⟩⟩
    | next => exact False.elim back
    | brk => exact False.elim back
    | cont => exact False.elim back
end
end GP

set_option Elab.async false
set_option linter.all false
set_option maxRecDepth 100000
set_option autoImplicit false
set_option maxHeartbeats 4000000

namespace GX
open PySem PySem.W PySem.Calls PyProof.Rows Builtin Builtin.ObjectAttr

structure Bas (B nw ini : String) (bm : List Value) : Prop where
  facts : ExcBaseFacts B nw ini bm
  obj : bm.contains (.type "object") = true
  pass : ∀ self, refuseLoop self "__setattr__" bm = pure ()
theorem tail_ne {bm : List Value} (h : bm.contains (.type "object") = true) {l : List Value} (e : excTail bm l = true) : l.isEmpty = false := by
  cases l with
  | nil =>
    have := excTail_contains "object" [] e
    rw [h] at this
    cases this
  | cons a r => rfl
section
variable {prog : Program} {w : World} {A : Around} {R : Result → Shared → Prop} {hp : Heap} {g : Array GenState} {d : Drawn} {t : Nat} {os : OsState}
variable {K : Frag} {nam : Str} {tk : Tok} {val : Value} {x C : Addr} {fv : Array Value} {cd : ClassData} {B nw ini : String} {bm : List Value}

theorem first_field (BB : Bas B nw ini bm) (kin : K.In hp) (ox : hp.get? x = some { cls := .ref C, data := .fields fv }) (cl : clsIn K C = some cd) (tl : excTail bm cd.mro = true) (hd : cd.hasDict = true) (nf : findIn K (.ref C) nam = some none)
    (K' : ∀ h' tk' dx, (∀ b o, b ≠ x → hp.get? b = some o → h'.get? b = some o) → hp.objs.size ≤ dx → dx ≠ x → h'.get? x = some { cls := .ref C, dict := some dx, data := .fields fv } → h'.Ns1 dx (fun y => if y = nam then some val else none) → R (.ok (.ret .none)) ⟨h', g, d, tk', os⟩) :
    codeAny (model prog w) A (.call (.builtin "object.__setattr__") ⟨[.ref x, .str nam tk, val], []⟩) R ⟨hp, g, d, t, os⟩ := by
  have at0 : InstAt hp x { cls := .ref C, data := .fields fv } C none := ⟨ox, rfl, rfl, trivial⟩
  have st := F.store_object
  have nonempty := tail_ne BB.obj tl
  have objIn : cd.mro.contains (.type "object") = true := (excTail_contains "object" _ tl).trans BB.obj
  have apart : x ≠ hp.objs.size := Nat.ne_of_lt (Heap.lt_size ox)
  have isO : Looks (model prog w) hp (isInstance (.ref x) (.type "object")) true := at0.type.andThen (looks_mroIn kin (by unfold mroIn; rw [cl, Option.bind_some, if_neg (by rw [nonempty]; decide), objIn]))
  refine codeAny_call_builtin st.slot.plain st.entry (@check_slot (model prog w) _ _ ⟨hp, g, d, t, os⟩ "object.__setattr__" "object" "__setattr__" (.ref x) [.str nam tk, val] [] _ st.kind st.split isO (st.args (.ref x) (.str nam tk) val) ?_)
  have lm : Looks (model prog w) hp (mroOf (.ref C)) cd.mro := (looks_clsIn kin cl).andThen .now
  have lt : Looks (model prog w) hp (storeTaker? none) none := .now
  have lc : Looks (model prog w) hp (classData C) cd := looks_clsIn kin cl
  rw [osa_eq, refuse_eq]
  refine wpAny_bind (wpAny_bind (at0.type.at (wpAny_bind (lm.at ?_))))
  rw [excTail_pass _ (BB.pass _) _ tl]
  refine wpAny_pure (wpAny_bind (at0.type.at (wpAny_bind ((looks_findIn kin nf).at (wpAny_bind (lt.at ?_))))))
  show wpAny _ _ (storeInOwnDict (.ref x) (.ref C) (.str nam tk) nam val false) _ _ _
  obtain ⟨a1, a2, a3, a4, a5, a6, a7, a8, a9, b1, b2⟩ := cd
  dsimp only at hd
  subst hd
  unfold storeInOwnDict ownDictForStores
  repeat (first | with_reducible refine PySem.HandSPX.store_in_new ?_ ?_ | with_reducible refine wpAny_loadPart_at ox ?_ | with_reducible refine lc.at ?_ | wp_step)
  · exact ⟨_, #[], _, (Heap.get?_update_ne _ _ _ _ apart.symm).trans (Heap.get?_push_at rfl rfl), rfl, fun e he => absurd he (by simp), fun _ => rfl⟩
  · intro h' tk' n1 n2
    have ox1 : (hp.push { cls := .type "dict", data := .dict #[] }).get? x = some { cls := .ref C, data := .fields fv } := Heap.get?_push_of_some _ ox
    refine K' h' tk' hp.objs.size (fun b o ne ho => ?_) (Nat.le_refl _) apart.symm ?_ n1
    · exact (n2.2 b (Nat.ne_of_lt (Heap.lt_size ho))).trans ((Heap.get?_update_ne _ _ _ _ ne).trans (Heap.get?_push_of_some _ ho))
    · exact (n2.2 x apart).trans (Heap.get?_update_self _ ox1 rfl)

theorem more_field {dx : Addr} {m0 : Str → Option Value} {nl : List Str} (BB : Bas B nw ini bm) (kin : K.In hp) (ox : hp.get? x = some { cls := .ref C, dict := some dx, data := .fields fv }) (ns : hp.Ns1 dx m0) (wi : Within m0 nl) (few : nl.length ≤ 1000)
    (cl : clsIn K C = some cd) (tl : excTail bm cd.mro = true) (hd : cd.hasDict = true) (nf : findIn K (.ref C) nam = some none)
    (K' : ∀ h' tk', (∀ b o, b ≠ dx → hp.get? b = some o → h'.get? b = some o) → h'.Ns1 dx (fun y => if y = nam then some val else m0 y) → R (.ok (.ret .none)) ⟨h', g, d, tk', os⟩) :
    codeAny (model prog w) A (.call (.builtin "object.__setattr__") ⟨[.ref x, .str nam tk, val], []⟩) R ⟨hp, g, d, t, os⟩ := by
  obtain ⟨oD, c1, c2, oAt, oDat, _⟩ := ns.count wi
  have at0 : InstAt hp x { cls := .ref C, dict := some dx, data := .fields fv } C (some oD) := ⟨ox, rfl, rfl, oAt⟩
  have st := F.store_object
  have nonempty := tail_ne BB.obj tl
  have objIn : cd.mro.contains (.type "object") = true := (excTail_contains "object" _ tl).trans BB.obj
  have isO : Looks (model prog w) hp (isInstance (.ref x) (.type "object")) true := at0.type.andThen (looks_mroIn kin (by unfold mroIn; rw [cl, Option.bind_some, if_neg (by rw [nonempty]; decide), objIn]))
  refine codeAny_call_builtin st.slot.plain st.entry (@check_slot (model prog w) _ _ ⟨hp, g, d, t, os⟩ "object.__setattr__" "object" "__setattr__" (.ref x) [.str nam tk, val] [] _ st.kind st.split isO (st.args (.ref x) (.str nam tk) val) ?_)
  have lm : Looks (model prog w) hp (mroOf (.ref C)) cd.mro := (looks_clsIn kin cl).andThen .now
  have lt : Looks (model prog w) hp (storeTaker? none) none := .now
  have lc : Looks (model prog w) hp (classData C) cd := looks_clsIn kin cl
  rw [osa_eq, refuse_eq]
  refine wpAny_bind (wpAny_bind (at0.type.at (wpAny_bind (lm.at ?_))))
  rw [excTail_pass _ (BB.pass _) _ tl]
  refine wpAny_pure (wpAny_bind (at0.type.at (wpAny_bind ((looks_findIn kin nf).at (wpAny_bind (lt.at ?_))))))
  show wpAny _ _ (storeInOwnDict (.ref x) (.ref C) (.str nam tk) nam val false) _ _ _
  obtain ⟨a1, a2, a3, a4, a5, a6, a7, a8, a9, b1, b2⟩ := cd
  dsimp only at hd
  subst hd
  unfold storeInOwnDict ownDictForStores
  repeat (first | with_reducible refine PySem.OEX.store_in_old ns wi few ?_ | with_reducible refine wpAny_loadPart_at ox ?_ | with_reducible refine lc.at ?_ | wp_step)
  intro h' tk' n1 n2
  exact K' h' tk' (fun b o ne ho => (n2.2 b ne).trans ho) n1
end
end GX

set_option Elab.async false
set_option linter.all false
set_option maxRecDepth 100000
set_option autoImplicit false
set_option maxHeartbeats 4000000

namespace L2
open PySem PySem.Spec PyProof.Rows

structure XCls (K : PySem.W.Frag) (C : Addr) (nw : String) (bm : List Value) : Prop where
  cls : ∃ nm q N bs mro sn sub ab col dd k0 k1 k2 k3 k5, K.lookup C = some (excClassObj nm q C N bs mro true sn sub ab col dd k0 k1 k2 k3 k5 nw) ∧ PySem.W.excTail bm mro = true
  sa : PySem.W.findIn K (.ref C) "__setattr__" = some (some (.builtin "object.__setattr__"))
  exC : PySem.W.subIn K (.ref C) (.type "BaseException") = some true
  tyC : PySem.W.typeIn K (.ref C) = some (.type "type")
  kC : PySem.W.keepIn K (.ref C) = true
section
variable {X : Cx} {pins : List (Addr × Obj)} {σ : St} {H : Hp} {s : Shared} {a C dx : Addr} {f : Str} {y : V} {u : Value} {fs : List (Str × V)} {Q : Unit → Shared → Prop} {E : Value → Shared → Prop} {A : Around} {B nw ini : String} {bm : List Value}
theorem xcls_at (Y : XCls X.K C nw bm) : ∃ cd, PySem.W.clsIn X.K C = some cd ∧ PySem.W.excTail bm cd.mro = true ∧ cd.hasDict = true := by
  obtain ⟨nm, q, N, bs, mro, sn, sub, ab, col, dd, k0, k1, k2, k3, k5, h1, h2⟩ := Y.cls
  refine ⟨{ name := nm, bases := bs, mro := .ref C :: mro, ns := N, qualname := q, hasDict := true, slotNames := sn, subclasses := sub, abstract := ab, collection := col, hasDel := false }, ?_, h2, rfl⟩
  unfold PySem.W.clsIn
  rw [h1] <;> rfl

theorem lay_first (BB : GX.Bas B nw ini bm) (Y : XCls X.K C nw bm) (I : Inv X pins σ H s) (e : H a = some (exo a C none)) (hno : PySem.W.findIn X.K (.ref C) f = some none) (ry : RelV y u)
    (h : ∀ dx s', H dx = none → dx ≠ a → Inv X pins σ (upd (upd H dx (exd dx [(f, y)])) a (exo a C (some dx))) s' → Q () s') : wpAny (model X.prog X.w) A (setAttr (.ref a) f u) Q E s := by
  obtain ⟨cd, c1, c2, c3⟩ := xcls_at Y
  obtain ⟨t1, ho⟩ := exo_at I.hok e
  obtain ⟨hp, g, d, t, os⟩ := s
  have at0 : PySem.W.InstAt hp a { cls := .ref C, dict := none, data := .fields #[.ref t1, .none, .none, .none, .bool false, .none] } C none := ⟨ho, rfl, rfl, trivial⟩
  refine PySem.W.set_plain I.kIn at0 Y.sa ?_
  refine GX.first_field BB I.kIn ho c1 c2 c3 hno fun h' tk' dx k dn dne hx hn => ?_
  have none1 : H dx = none := I.hok.fresh dn
  have new1 : ∀ {b : Addr} {o : Obj}, hp.get? b = some o → b ≠ dx := fun {b o} q => Nat.ne_of_lt (Nat.lt_of_lt_of_le (Heap.lt_size q) dn)
  have free1 : ∀ {b : Addr}, H b = none → b ≠ a := fun {b} n z => by
    subst z
    rw [e] at n; cases n
  have un : Un X.fs [] H (upd (upd H dx (exd dx [(f, y)])) a (exo a C (some dx))) hp h' :=
    { keep := fun b o q n _ _ => k b o (free1 n) q
      slot := fun b o q n _ _ => ⟨o.slots, k b o (free1 n) q⟩
      free := fun b o q n _ => (upd_ne (free1 n)).trans ((upd_ne (new1 q)).trans n)
      there := fun b o q _ => if hb : b = a then ⟨_, hb ▸ hx⟩ else ⟨o, k b o hb q⟩
      tups := fun b xs q => (upd_ne (at_ne e q exo_tup)).trans ((upd_ne (ne_of_none q none1)).trans q)
      frzs := fun b o v q => (upd_ne (at_ne e q exo_frz)).trans ((upd_ne (ne_of_none q none1)).trans q)
      tbls := fun b ps q => ⟨#[], by simp [upd_ne (at_ne e q exo_tbl), upd_ne (ne_of_none q none1), q]⟩ }
  refine h dx _ none1 dne (I.un (t' := tk') un fun b o q => ?_)
  by_cases hb : b = a
  · subst hb
    rw [upd_same] at q; cases q
    exact exo_ok hx
  · rw [upd_ne hb] at q
    by_cases hd : b = dx
    · subst hd
      rw [upd_same] at q; cases q
      exact exd_ok hn (relO_put (fs := []) ry fun g => True.intro)
    · rw [upd_ne hd] at q
      refine (I.hok b o q).stay (fun c v hc z => k c v ?_ z) (fun c hc => (upd_ne (at_ne e hc exo_own)).trans ((upd_ne (ne_of_none hc none1)).trans hc)) fun c xs hc => (upd_ne (at_ne e hc exo_tup)).trans ((upd_ne (ne_of_none hc none1)).trans hc)
      rcases hc with hc | hc
      · rw [hc]; exact hb
      · exact at_ne e hc exo_own

theorem lay_more (BB : GX.Bas B nw ini bm) (Y : XCls X.K C nw bm) (I : Inv X pins σ H s) (e : H a = some (exo a C (some dx))) (ed : H dx = some (exd dx fs)) (hl : fs.length ≤ 900) (hno : PySem.W.findIn X.K (.ref C) f = some none) (ry : RelV y u)
    (h : ∀ s', Inv X pins σ (upd H dx (exd dx ((f, y) :: fs))) s' → Q () s') : wpAny (model X.prog X.w) A (setAttr (.ref a) f u) Q E s := by
  obtain ⟨cd, c1, c2, c3⟩ := xcls_at Y
  obtain ⟨t1, ho⟩ := exo_at I.hok e
  obtain ⟨mA, hns, rel⟩ := exd_at I.hok ed
  have hw := within_of rel
  obtain ⟨hp, g, d, t, os⟩ := s
  obtain ⟨oD, _, _, hoD, _, _⟩ := hns.count hw
  have at0 : PySem.W.InstAt hp a { cls := .ref C, dict := some dx, data := .fields #[.ref t1, .none, .none, .none, .bool false, .none] } C (some oD) := ⟨ho, rfl, rfl, hoD⟩
  refine PySem.W.set_plain I.kIn at0 Y.sa ?_
  refine GX.more_field BB I.kIn ho hns hw (by rw [List.length_map]; omega) c1 c2 c3 hno fun h' tk' k hn => ?_
  have there : ∃ o, h'.get? dx = some o := by
    obtain ⟨o, _, _, z, _⟩ := hn
    exact ⟨o, z⟩
  have J := I.write (t' := tk') (x := dx) (e := dx) (o := exd dx ((f, y) :: fs)) (by rw [ed]; exact True.intro) (.inl rfl) k there (exd_ok hn (relO_put ry rel))
  exact h _ J

theorem base_init {us : List Value} {Q : Value → Shared → Prop} (BB : GX.Bas B nw ini bm) (Y : XCls X.K C nw bm) (I : Inv X pins σ H s) (e : H a = some (exo a C none)) (hl : us.length ≤ sizeLine) (h : ∀ s', Inv X pins σ H s' → Q .none s') :
    wpAny (model X.prog X.w) A (call (.builtin ini) (.ref a :: us)) Q E s := by
  obtain ⟨nm, q, N, bs, mro, sn, sub, ab, col, dd, k0, k1, k2, k3, k5, h1, h2⟩ := Y.cls
  obtain ⟨t1, ho⟩ := exo_at I.hok e
  obtain ⟨hp, g, d, t, os⟩ := s
  refine wpAny_call (PySem.HandSPX.init_base BB.facts (fun Z => PySem.W.excTail_contains Z mro h2) (I.kIn _ _ h1) ho hl fun h' t2 k hx => ?_)
  have J := I.write (t' := t) (x := a) (e := a) (o := exo a C none) (by rw [e]; exact True.intro) (.inl rfl) k ⟨_, hx⟩ (exo_ok hx)
  have same : upd H a (exo a C none) = H := funext fun b => if hb : b = a then by rw [hb, upd_same, e] else upd_ne hb
  rw [same] at J
  exact h _ J
end

def tBaI (K : PySem.W.Frag) (nw : String) (bm : List Value) (ta : TA) : TE := fun σ H Q => ta σ H fun vs H1 => ∃ (a C : Addr) (ws : List V), vs = .ref a :: ws ∧ ws.length ≤ 1000 ∧ XCls K C nw bm ∧ H1 a = some (exo a C none) ∧ Q .non H1

def tXst (K : PySem.W.Frag) (nw : String) (bm : List Value) (f : Str) (to te : TE) : TS := fun D σ H => te σ H fun y H1 => to σ H1 fun x H2 => ∃ a C : Addr, x = .ref a ∧ XCls K C nw bm ∧ PySem.W.findIn K (.ref C) f = some none ∧
  ((H2 a = some (exo a C none) ∧ ∀ dx, H2 dx = none → dx ≠ a → D.nx σ (upd (upd H2 dx (exd dx [(f, y)])) a (exo a C (some dx)))) ∨
    ∃ (dx : Addr) (fs : List (Str × V)), H2 a = some (exo a C (some dx)) ∧ H2 dx = some (exd dx fs) ∧ fs.length ≤ 900 ∧ D.nx σ (upd H2 dx (exd dx ((f, y) :: fs))))
section
variable {X : Cx} {o e : Expr} {es : List Expr} {to te : TE} {ta : TA} {f : Str} {p p' p1 p2 pos : Pos} {B nw ini : String} {bm : List Value} {G : Addr} {g : Str} {mc : Value}
theorem pe_own_init {pl : Sem Bool} (BB : GX.Bas B nw ini bm) (hg : Gl X g) (hm : X.mg g = some (.ref G)) (rd : PySem.W.readsIn X.K G mc = true) (ga : PySem.W.specialIn X.K (.ref G) "__getattribute__" = some (some (.builtin "type.__getattribute__")))
    (at_ : PySem.W.findCls X.K (.ref G) mc "__init__" = some (.val (.builtin ini))) (hh : PySem.W.handedIn (.builtin ini) = true) (ha : PA X (e :: es) ta) (hdb : (g == ("__debug__" : Str)) = false)
    (hc : eval (.Call (.Attribute (.Name g p1) "__init__" p2) (e :: es) [] pos) X.env = (do
      let ov ← eval (.Name g p1) X.env
      standAt p2.atName
      let (f, first) ← holding [ov] (getMethod ov "__init__" pl)
      callWith pos f first (backTo pos (starEach (e :: es) X.env)) (backToKw pos (keywordEach [] X.env))) := by rfl)
    (he : starEach (e :: es) X.env = (false, eval e X.env) :: starEach es X.env) (hpl : (backTo pos (starEach es X.env)).any (·.1) = false) :
    PE X (.Call (.Attribute (.Name g p1) "__init__" p2) (e :: es) [] pos) (tBaI X.K nw bm ta) := by
  refine ⟨fun pins s σ H Q I h => ?_⟩
  refine PySem.W.methodCall_KW (ld_glob I hg hm ?_ hdb) hc
  refine PySem.W.method_cls I.kIn ga (PySem.W.cls_value I.kIn rd at_ hh ?_)
  show wpAny _ _ (callWith pos (Value.builtin ini) [] (backTo pos (starEach (e :: es) X.env)) []) _ _ _
  refine PyProof.Rows.callWith_method1 (thn (ha.run pos pins _ σ H _ (I.tok _) h) fun us s1 ⟨vs, H1, I1, r1, a, C, ws, ev, hl, Y, ea, q⟩ => ?_) he hpl
  subst ev
  cases r1 with
  | @cons _ u0 _ ur ra rw' =>
    obtain rfl : u0 = Value.ref a := ra
    have few : ur.length ≤ sizeLine := by
      rw [← Paired.length rw', sizeLine_eq]
      omega
    exact base_init BB Y I1 ea few fun s' J => ⟨.non, H1, J, rfl, q⟩
theorem ps_xst (BB : GX.Bas B nw ini bm) (ho : PE X o to) (he : PE X e te) (hs : swapsWith e (some (.Attribute o f p')) pos.line X.env = pure false) : PS X (.Assign [.Attribute o f p'] e pos) (tXst X.K nw bm f to te) := by
  refine ⟨fun pins s σ H D I h => ?_⟩
  have second : ∀ v s1, EP X pins σ (fun y H1 => to σ H1 fun x H2 => ∃ a C : Addr, x = .ref a ∧ XCls X.K C nw bm ∧ PySem.W.findIn X.K (.ref C) f = some none ∧
      ((H2 a = some (exo a C none) ∧ ∀ dx, H2 dx = none → dx ≠ a → D.nx σ (upd (upd H2 dx (exd dx [(f, y)])) a (exo a C (some dx)))) ∨ ∃ (dx : Addr) (fs : List (Str × V)), H2 a = some (exo a C (some dx)) ∧ H2 dx = some (exd dx fs) ∧ fs.length ≤ 900 ∧ D.nx σ (upd H2 dx (exd dx ((f, y) :: fs))))) v s1 →
      wpAny (model X.prog X.w) X.A (eval o X.env) (fun u s2 => wpAny (model X.prog X.w) X.A (setAttr u f v) (fun _ s3 => SP X pins D .next s3) X.xe s2) X.xe s1 := by
    rintro v s1 ⟨y, H1, I1, r1, q1⟩
    refine thn (ho.run pins s1 σ H1 _ I1 q1) ?_
    rintro u s2 ⟨x, H2, I2, r2, a, C, ex, Y, hno, q⟩
    subst ex
    obtain rfl : u = Value.ref a := r2
    rcases q with ⟨ea, q⟩ | ⟨dx, fs, ea, ed, hl, q⟩
    · exact lay_first BB Y I2 ea hno r1 fun dx s' n ne J => ⟨σ, _, J, q dx n ne⟩
    · exact lay_more BB Y I2 ea ed hl hno r1 fun s' J => ⟨σ, _, J, q⟩
  exact plainObj_wpAny_Assign_Attribute (thn (he.run pins s σ H _ I h) second) hs
end
end L2

set_option Elab.async false
set_option linter.all false
set_option maxRecDepth 100000
set_option autoImplicit false
set_option maxHeartbeats 4000000

namespace L2
open PySem PySem.Spec PyProof.Rows
section
variable {X : Cx} {e : Expr} {es : List Expr} {ta : TA} {p1 p2 pos : Pos} {B nw ini : String} {bm : List Value} {g : Str}

theorem pe_blt_init {pl : Sem Bool} (BB : GX.Bas B nw ini bm) (hg : Gl X g) (hm : X.mg g = none) (hv : bootBuiltins g = some (.type B)) (hn : g ≠ "__name__") (ty : typeOf (.type B) = pure (.type "type")) (stub : Manifest.isStub B = false)
    (at_ : PySem.W.findCls X.K (.type B) (.type "type") "__init__" = some (.val (.builtin ini))) (hh : PySem.W.handedIn (.builtin ini) = true) (ha : PA X (e :: es) ta) (hdb : (g == ("__debug__" : Str)) = false)
    (hc : eval (.Call (.Attribute (.Name g p1) "__init__" p2) (e :: es) [] pos) X.env = (do
      let ov ← eval (.Name g p1) X.env
      standAt p2.atName
      let (f, first) ← holding [ov] (getMethod ov "__init__" pl)
      callWith pos f first (backTo pos (starEach (e :: es) X.env)) (backToKw pos (keywordEach [] X.env))) := by rfl)
    (he : starEach (e :: es) X.env = (false, eval e X.env) :: starEach es X.env) (hpl : (backTo pos (starEach es X.env)).any (·.1) = false) :
    PE X (.Call (.Attribute (.Name g p1) "__init__" p2) (e :: es) [] pos) (tBaI X.K nw bm ta) := by
  refine ⟨fun pins s σ H Q I h => ?_⟩
  refine PySem.W.methodCall_KW (ld_blt I hg hm hv ?_ hn hdb) hc
  obtain ⟨m, fr⟩ := I.fr
  refine PySem.W.method_type fr I.ok.mod.kin ty stub at_ hh ?_
  show wpAny _ _ (callWith pos (Value.builtin ini) [] (backTo pos (starEach (e :: es) X.env)) []) _ _ _
  refine PyProof.Rows.callWith_method1 (thn (ha.run pos pins _ σ H _ (I.tok _) h) fun us s1 ⟨vs, H1, I1, r1, a, C, ws, ev, hl, Y, ea, q⟩ => ?_) he hpl
  subst ev
  cases r1 with
  | @cons _ u0 _ ur ra rw' =>
    obtain rfl : u0 = Value.ref a := ra
    have few : ur.length ≤ sizeLine := by
      rw [← Paired.length rw', sizeLine_eq]
      omega
    exact base_init BB Y I1 ea few fun s' J => ⟨.non, H1, J, rfl, q⟩
end

def iSp (C : Addr) (fs : List Str) : Sp := fun vs H Q _ => ∃ (a : Addr) (args : List V), vs = .ref a :: args ∧ args.length = fs.length ∧ H a = some (exo a C none) ∧ ∀ dx, H dx = none → dx ≠ a → Q .non (upd (upd H dx (exd dx (fs.zip args).reverse)) a (exo a C (some dx)))
theorem iSp_len {C : Addr} {fs : List Str} {n : Nat} (hn : fs.length = n) {vs : List V} {H : Hp} {Q : VK} {E : XK} (h : iSp C fs vs H Q E) : vs.length = n + 1 := by
  obtain ⟨a, args, rfl, hl, _⟩ := h
  rw [List.length_cons, hl, hn]
section
variable {CX : CXT} {P : Program} {w : World} {K : PySem.W.Frag} {mg : Str → Option Value} {base : Heap} {k : Nat} {fa C : Addr} {name qual z f1 f2 y1 y2 g : Str} {params : Arguments} {scope : Scope} {dV kV doc pm cdv ct oc : Value} {an od : Option Addr}
  {osl : Array (Option Value)} {N : List Str} {q1 q2 q3 q4 q5 q6 q7 q8 q9 q10 q11 q12 : Pos} {j j2 : Nat} {B nw ini : String} {bm : List Value} {e0 : Expr}

theorem fn_init1 (BB : GX.Bas B nw ini bm) (Y : XCls K C nw bm) (lk : K.lookup fa = some ⟨oc, od, .func (PySem.W.fnOf name qual params [.Expr e0 q1, .Assign [.Attribute (.Name "self" q2) f1 q3] (.Name y1 q4) q5] scope dV kV doc pm an cdv ct), osl⟩) (hcd : PySem.W.codeIn K cdv qual = true)
    (S : FnScope N ["self", y1] scope) (n0 : N[0]? = some ("self" : Str)) (n1 : N[1]? = some y1) (d1 : (y1 == ("__debug__" : Str)) = false) (d2 : (y1 == ("__classdict__" : Str)) = false) (no1 : PySem.W.findIn K (.ref C) f1 = some none)
    (hi : ∀ A outer s H E, PE (cxOf CX P w K mg base N qual scope fa cdv A outer s H E) e0 (tBaI K nw bm (tCons (tVar 0) (tCons (tC (.str z)) tNil)))) (he0 : ∀ env : Env, swapsWith e0 none q1.line env = pure false)
    (hs1 : ∀ env : Env, swapsWith (.Name y1 q4) (some (.Attribute (.Name "self" q2) f1 q3)) q5.line env = pure false) :
    FnOk P w K mg base CX (k + 1) fa (PySem.W.fnOf name qual params [.Expr e0 q1, .Assign [.Attribute (.Name "self" q2) f1 q3] (.Name y1 q4) q5] scope dV kV doc pm an cdv ct) ["self", y1] (iSp C [f1]) := by
  refine fn_of lk hcd S (fun vs H Q E h => iSp_len (fs := [f1]) rfl h) fun A outer s H vs Q E hr h => ?_
  obtain ⟨a, args, rfl, hl, ea, hq⟩ := h
  obtain ⟨x, rfl⟩ : ∃ x, args = [x] := by
    cases args with
    | nil => cases hl
    | cons x t => cases t with
      | nil => exact ⟨x, rfl⟩
      | cons _ _ => cases hl
  have vis : ∀ y ∈ (["self", y1] : List Str), Vis scope y := fun y hy => (S.par y hy).elim (fun z => .inl z) fun z => .inr (.inl z)
  refine ⟨_, pss_cons (ps_expr (hi A outer s H E) (he0 _)) (pss_one (ps_xst BB (pe_var (i := 0) n0 (vis _ (List.Mem.head _))) (pe_var (i := 1) n1 (vis _ (List.Mem.tail _ (List.Mem.head _))) d1 d2) ?_)), ?_⟩
  · exact hs1 _
  · refine ⟨.ref a, rfl, ?_⟩
    exact ⟨a, C, [.str z], rfl, by simp, Y, ea, x, rfl, .ref a, rfl, a, C, rfl, Y, no1, .inl ⟨ea, fun dx n ne => hq dx n ne⟩⟩

theorem fn_init2 (BB : GX.Bas B nw ini bm) (Y : XCls K C nw bm)
    (lk : K.lookup fa = some ⟨oc, od, .func (PySem.W.fnOf name qual params [.Expr e0 q1, .Assign [.Attribute (.Name "self" q2) f1 q3] (.Name y1 q4) q5, .Assign [.Attribute (.Name "self" q6) f2 q7] (.Name y2 q8) q9] scope dV kV doc pm an cdv ct), osl⟩) (hcd : PySem.W.codeIn K cdv qual = true)
    (S : FnScope N ["self", y1, y2] scope) (n0 : N[0]? = some ("self" : Str)) (n1 : N[1]? = some y1) (n2 : N[2]? = some y2) (d1 : (y1 == ("__debug__" : Str)) = false) (d2 : (y1 == ("__classdict__" : Str)) = false) (d3 : (y2 == ("__debug__" : Str)) = false) (d4 : (y2 == ("__classdict__" : Str)) = false)
    (no1 : PySem.W.findIn K (.ref C) f1 = some none) (no2 : PySem.W.findIn K (.ref C) f2 = some none)
    (hi : ∀ A outer s H E, PE (cxOf CX P w K mg base N qual scope fa cdv A outer s H E) e0 (tBaI K nw bm (tCons (tVar 0) (tCons (tC (.str z)) tNil)))) (he0 : ∀ env : Env, swapsWith e0 none q1.line env = pure false)
    (hs1 : ∀ env : Env, swapsWith (.Name y1 q4) (some (.Attribute (.Name "self" q2) f1 q3)) q5.line env = pure false) (hs2 : ∀ env : Env, swapsWith (.Name y2 q8) (some (.Attribute (.Name "self" q6) f2 q7)) q9.line env = pure false) :
    FnOk P w K mg base CX (k + 1) fa (PySem.W.fnOf name qual params [.Expr e0 q1, .Assign [.Attribute (.Name "self" q2) f1 q3] (.Name y1 q4) q5, .Assign [.Attribute (.Name "self" q6) f2 q7] (.Name y2 q8) q9] scope dV kV doc pm an cdv ct) ["self", y1, y2] (iSp C [f1, f2]) := by
  refine fn_of lk hcd S (fun vs H Q E h => iSp_len (fs := [f1, f2]) rfl h) fun A outer s H vs Q E hr h => ?_
  obtain ⟨a, args, rfl, hl, ea, hq⟩ := h
  obtain ⟨x, x2, rfl⟩ : ∃ x x2, args = [x, x2] := by
    cases args with
    | nil => cases hl
    | cons x t => cases t with
      | nil => cases hl
      | cons x2 t => cases t with
        | nil => exact ⟨x, x2, rfl⟩
        | cons _ _ => cases hl
  have vis : ∀ y ∈ (["self", y1, y2] : List Str), Vis scope y := fun y hy => (S.par y hy).elim (fun z => .inl z) fun z => .inr (.inl z)
  have vs0 := vis _ (List.Mem.head _)
  have vs1 := vis _ (List.Mem.tail _ (List.Mem.head _))
  have vs2 := vis _ (List.Mem.tail _ (List.Mem.tail _ (List.Mem.head _)))
  refine ⟨_, pss_cons (ps_expr (hi A outer s H E) (he0 _)) (pss_cons (ps_xst BB (pe_var (i := 0) n0 vs0) (pe_var (i := 1) n1 vs1 d1 d2) (hs1 _)) (pss_one (ps_xst BB (pe_var (i := 0) n0 vs0) (pe_var (i := 2) n2 vs2 d3 d4) (hs2 _)))), ?_⟩
  refine ⟨.ref a, rfl, ?_⟩
  refine ⟨a, C, [.str z], rfl, by simp, Y, ea, x, rfl, .ref a, rfl, a, C, rfl, Y, no1, .inl ⟨ea, fun dx n ne => ?_⟩⟩
  refine ⟨x2, rfl, .ref a, rfl, a, C, rfl, Y, no2, .inr ⟨dx, [(f1, x)], upd_same, ?_, by simp, ?_⟩⟩
  · rw [upd_ne ne, upd_same]
  · have key : upd (upd (upd H dx (exd dx [(f1, x)])) a (exo a C (some dx))) dx (exd dx [(f2, x2), (f1, x)]) = upd (upd H dx (exd dx [(f2, x2), (f1, x)])) a (exo a C (some dx)) := by
      funext b
      by_cases h1 : b = dx
      · subst h1
        rw [upd_same, upd_ne ne, upd_same]
      · rw [upd_ne h1]
        by_cases h2 : b = a
        · subst h2
          rw [upd_same, upd_same]
        · rw [upd_ne h2, upd_ne h2, upd_ne h1, upd_ne h1]
    show Q .non (upd (upd (upd H dx (exd dx [(f1, x)])) a (exo a C (some dx))) dx (exd dx [(f2, x2), (f1, x)]))
    rw [key]
    exact hq dx n ne
end
end L2

set_option Elab.async false
set_option linter.all false
set_option maxRecDepth 100000
set_option autoImplicit false
set_option maxHeartbeats 4000000

namespace L2
open PySem PySem.Spec PyProof.Rows

def tMkX (C : Addr) (fs : List Str) (ta : TA) : St → Hp → XK → Prop := fun σ H Q => ta σ H fun vs H1 => vs.length = fs.length ∧ vs.length ≤ 1000 ∧ ∀ d, H1 d = none → Q (.ref C) (some d) (upd H1 d (.xd (fs.zip vs).reverse))
section
variable {X : Cx} {e : Expr} {es : List Expr} {ta : TA} {p pos : Pos} {B nw ini : String} {bm : List Value} {C fI : Addr} {x : Str} {CX : CXT} {k : Nat} {fd : FuncData} {ps fs : List Str}
theorem dropped {H : Hp} {a d : Addr} {o u : HO} {w : HO} (ha : H a = none) (hd : d ≠ a) : upd (del (upd (upd H d o) a u) a) d w = upd H d w := by
  funext b
  by_cases h1 : b = d
  · subst h1
    rw [upd_same, upd_same]
  · rw [upd_ne h1, upd_ne h1]
    by_cases h2 : b = a
    · subst h2
      rw [del_same, ha]
    · rw [del_ne h2, upd_ne h2, upd_ne h1]
theorem pmk_x (BB : GX.Bas B nw ini bm) (Y : XCls X.K C nw bm) (iC : PySem.W.findIn X.K (.ref C) "__init__" = some (some (.ref fI))) (tI : PySem.W.typeIn X.K (.ref fI) = some (.type "function"))
    (F1 : FnOk X.prog X.w X.K X.mg X.base CX k fI fd ps (iSp C fs)) (hr : Room (k + 1) X.A) (hb : Binds X.K fd ps []) (hx : Passes CX X (fun _ _ _ => False)) (hg : Gl X x) (hm : X.mg x = some (.ref C)) (hf : fs ≠ []) (ha : PA X (e :: es) ta)
    (hdb : (x == ("__debug__" : Str)) = false) (he : starEach (e :: es) X.env = (false, eval e X.env) :: starEach es X.env) (hpl : (backTo pos (starEach es X.env)).any (·.1) = false) :
    PMk X (.Call (.Name x p) (e :: es) [] pos) (tMkX C fs ta) := by
  intro pins s σ H Q I h
  obtain ⟨nm, q, N, bs, mro, sn, sub, ab, col, dd, k0, k1, k2, k3, k5, hC, hT⟩ := Y.cls
  refine wpAny_Call_Name_kw (ld_glob I hg hm ?_ hdb)
  refine PySem.W.callWith_K (h₀ := X.base) I.ok.mod.kin Y.kC (thn (ha.run pos pins s σ H _ I h) fun us s1 hu => ?_) he hpl
  obtain ⟨vs, H1, I1, r1, hlen, hz, hq⟩ := hu
  refine ⟨I1.kIn, ?_⟩
  show wpAny _ _ (call (.ref C) us) _ _ _
  obtain ⟨hp, g, dr, tk, os⟩ := s1
  have big : hp.objs.size ≤ hp.objs.size + 1 := Nat.le_succ _
  have free : H1 (hp.objs.size + 1) = none := I1.hok.fresh big
  have stays : ∀ b o, hp.get? b = some o → ((hp.push (PySem.W.kdv_tup us)).push (PySem.HandSPX.excO C hp.objs.size)).get? b = some o := fun b o z => Heap.get?_push_of_some _ (Heap.get?_push_of_some _ z)
  have laid : ((hp.push (PySem.W.kdv_tup us)).push (PySem.HandSPX.excO C hp.objs.size)).get? (hp.objs.size + 1) = some (PySem.HandSPX.excO C hp.objs.size) := by heap_get
  have I2 : Inv X pins σ (upd H1 (hp.objs.size + 1) (exo (hp.objs.size + 1) C none)) ⟨(hp.push (PySem.W.kdv_tup us)).push (PySem.HandSPX.excO C hp.objs.size), g, dr, tk, os⟩ :=
    I1.laid (t' := tk) stays big (exo_ok laid)
  have r2 : Vals (V.ref (hp.objs.size + 1) :: vs) (Value.ref (hp.objs.size + 1) :: us) := .cons rfl r1
  have sp : iSp C fs (V.ref (hp.objs.size + 1) :: vs) (upd H1 (hp.objs.size + 1) (exo (hp.objs.size + 1) C none)) (fun v H2 => v = .non ∧ ∃ (d : Addr) (gs : List (Str × V)), H2 (hp.objs.size + 1) = some (exo (hp.objs.size + 1) C (some d)) ∧ H2 d = some (exd d gs) ∧ H1 d = none ∧ Q (.ref C) (some d) (upd (del H2 (hp.objs.size + 1)) d (.xd gs))) (fun _ _ _ => False) := by
    refine ⟨_, vs, rfl, hlen, upd_same, fun d hd hne => ⟨rfl, d, (fs.zip vs).reverse, upd_same, ?_, ?_, ?_⟩⟩
    · rw [upd_ne hne, upd_same]
    · rw [upd_ne hne] at hd; exact hd
    · have nd : H1 d = none := by rw [upd_ne hne] at hd; exact hd
      have same : upd (del (upd (upd (upd H1 (hp.objs.size + 1) (exo (hp.objs.size + 1) C none)) d (exd d (fs.zip vs).reverse)) (hp.objs.size + 1) (exo (hp.objs.size + 1) C (some d))) (hp.objs.size + 1)) d (.xd (fs.zip vs).reverse) = upd H1 d (.xd (fs.zip vs).reverse) := by
        funext b
        by_cases h1 : b = d
        · subst h1; rw [upd_same, upd_same]
        · rw [upd_ne h1, upd_ne h1]
          by_cases h2 : b = hp.objs.size + 1
          · subst h2; rw [del_same, free]
          · rw [del_ne h2, upd_ne h2, upd_ne h1, upd_ne h2]
      rw [same]
      exact hq d nd
  have hl : (Value.ref (hp.objs.size + 1) :: us).length = ps.length := by
    have z := F1.len _ _ _ _ sp
    rw [← z]
    exact r2.length.symm
  have few : us.length ≤ sizeLine := by
    rw [← Paired.length r1, sizeLine_eq]
    omega
  have bnd := hb _ (Value.ref (hp.objs.size + 1) :: us) I2.kIn (by rw [List.append_nil]; exact hl)
  rw [List.append_nil] at bnd
  refine wpAny_call (PySem.HandSPX.call_own BB.facts (fun Z => PySem.W.excTail_contains Z mro hT) (I1.kIn _ _ hC) (PySem.W.looks_findIn I1.kIn iC) (fun self => PySem.W.bind_fn I1.kIn self tI) few ?_)
  refine codeAny_mono (F1.run _ X.stack _ _ ⟨Value.ref (hp.objs.size + 1) :: us, []⟩ _ _ _ (fun _ _ _ => False) (hr.make C us []) (I2.env0.make C us []) bnd r2 sp) fun r s' back => ?_
  cases r with
  | error er => exact hx pins σ _ _ er s' I2 back
  | ok fl =>
    cases fl with
    | ret u =>
      obtain ⟨v, H2, os2, bare2, un2, hok2, rv, ev, d, gs, ea, ed, hd1, q2⟩ := back
      subst ev
      obtain ⟨h2, g2, d2, t2, os'⟩ := s'
      exact ⟨rv, mk_end (raises_own Y.exC Y.tyC) I1 big stays un2 hok2 os2 bare2 ea ed hd1 q2⟩
    | next => exact False.elim back
    | brk => exact False.elim back
    | cont => exact False.elim back
end
end L2

set_option Elab.async false
set_option linter.all false
set_option maxRecDepth 100000
set_option autoImplicit false
set_option maxHeartbeats 4000000

namespace GP
open PySem PySem.Spec L2 PyProof.Rows
theorem datl_rev {e : En} {m : List Addr} {H : Hp} {vs : List V} {ds : List D} (h : DatL e m H vs ds) : DatL e m H vs.reverse ds.reverse := by
  induction ds generalizing vs with
  | nil => cases h; exact .nil
  | cons d ds ih =>
    cases h with
    | cons a b =>
      rw [List.reverse_cons, List.reverse_cons]
      exact (ih b).append (.cons a .nil)
theorem zip_keys {fs : List Str} {vs : List V} (h : vs.length = fs.length) : ((fs.zip vs).reverse.map fun p => p.1) = fs.reverse ∧ ((fs.zip vs).reverse.map fun p => p.2) = vs.reverse := by
  rw [List.map_reverse, List.map_reverse]
  constructor
  · rw [show ((fs.zip vs).map fun p => p.1) = fs from List.map_fst_zip (by omega)]
  · rw [show ((fs.zip vs).map fun p => p.2) = vs from List.map_snd_zip (by omega)]
section
variable {e : En} {N : List Str} {sc : Scope} {kk : Nat} {Wx : WX} {X : Cx} {ex : Expr} {es : List Expr} {pos : Pos} {rl : S → R (List D)} {c n : Nat} {C : Addr} {fs : List Str} {mk : Expr}

def raR (c n : Nat) (rl : S → R (List D)) : S → R Fl := fun s => bnd (rl s) fun ds s1 => if ds.length = n then some (.exc (.exo c ds.reverse), s1) else none
theorem z_raise (G : Gd e N sc kk Wx X) (hc : e.cls c = some C) (hf : e.fld c = fs.reverse) (hn : fs.length = n) (hb : n ≤ 1000) (hm : PMk X mk (tMkX C fs (TL e Wx rl))) : PS X (.Raise (some mk) none pos) (TSt e Wx (raR c n rl)) := by
  refine PS.imp (ps_raise G.calm G.tk hm) fun Z σ H w => ?_
  obtain ⟨m, s, f, w⟩ := w
  refine ⟨m, s, f, w.split.imp fun ds m1 s1 H1 v1 f1 w1 vs hv => ?_⟩
  by_cases hl : ds.length = n
  · rw [if_pos hl] at w1
    have lv : vs.length = fs.length := by rw [hv.length, hl, hn]
    refine ⟨lv, by rw [lv, hn]; exact hb, fun d hd => ?_⟩
    obtain ⟨k1, k2⟩ := zip_keys lv
    refine w1 σ m1 _ _ _ (v1.new (by
      cases q : H d with
      | none => rfl
      | some o =>
        obtain ⟨o', z⟩ := v1.there d o q
        rw [hd] at z; cases z)) (f1.new hd) ⟨C, d, _, hc, rfl, rfl, upd_same, by rw [k1, hf], ?_⟩
    rw [k2]
    exact DatL.stay (Stay.new hd) (datl_rev hv)
  · rw [if_neg hl] at w1
    exact w1.elim
end
end GP

set_option Elab.async false
set_option linter.all false
set_option maxRecDepth 100000
set_option autoImplicit false
set_option maxHeartbeats 4000000

namespace L2
open PySem PySem.Spec PyProof.Rows

def someOf (K : PySem.W.Frag) (cls : Value) (cs : List Value) : Option Bool := PySem.W.exmAny K cls cs
section
variable {M : Model} {K : PySem.W.Frag} {A : Around}
theorem loopY {st : Shared} {E : Value → Shared → Prop} {Q : PUnit → Shared → Prop} {g : Value → PUnit → Sem (ForInStep PUnit)} : ∀ {cs : List Value}, (∀ c ∈ cs, ∀ Q' : ForInStep PUnit → Shared → Prop, Q' (.yield ⟨⟩) st → wpAny M A (g c ⟨⟩) Q' E st) → Q ⟨⟩ st → wpAny M A (forIn cs PUnit.unit g) Q E st
  | [], _, q => by rw [List.forIn_nil]; exact wpAny_pure q
  | c :: cs, h, q => by
    rw [List.forIn_cons]
    exact wpAny_bind (h c List.mem_cons_self _ (loopY (fun z hz => h z (List.mem_cons_of_mem _ hz)) q))
theorem loopT {st : Shared} {E : Value → Shared → Prop} {Q : Option Bool × Unit → Shared → Prop} {g : Value → Option Bool × Unit → Sem (ForInStep (Option Bool × Unit))} {bs : Value → Bool} : ∀ {cs : List Value},
    (∀ c ∈ cs, ∀ Q' : ForInStep (Option Bool × Unit) → Shared → Prop, Q' (if bs c then .done (some true, ()) else .yield (none, ())) st → wpAny M A (g c (none, ())) Q' E st) → Q (if cs.any bs then (some true, ()) else (none, ())) st → wpAny M A (forIn cs (none, ()) g) Q E st
  | [], _, q => by rw [List.forIn_nil]; exact wpAny_pure q
  | c :: cs, h, q => by
    rw [List.forIn_cons]
    refine wpAny_bind (h c List.mem_cons_self _ ?_)
    cases z : bs c with
    | true => rw [List.any_cons, z] at q; exact wpAny_pure q
    | false => rw [List.any_cons, z] at q; exact loopT (fun z hz => h z (List.mem_cons_of_mem _ hz)) q
theorem all_one {cls : Value} : ∀ {cs : List Value} {b : Bool}, PySem.W.exmAny K cls cs = some b → b = cs.any (fun c => (PySem.W.exmOne K cls c).getD false) ∧ ∀ c ∈ cs, ∃ d, PySem.W.exmOne K cls c = some d
  | [], b, h => ⟨(Option.some.inj h).symm, fun c hc => nomatch hc⟩
  | z :: cs, b, h => by
    obtain ⟨b1, d1, h1, h2, rfl⟩ := PySem.W.exmAny_cons h
    obtain ⟨i1, i2⟩ := all_one h2
    refine ⟨by rw [List.any_cons, h1, i1]; rfl, fun c hc => ?_⟩
    rcases List.mem_cons.mp hc with rfl | hc
    · exact ⟨_, h1⟩
    · exact i2 c hc
theorem all_exc {h : Heap} {cls : Value} (kin : K.In h) : ∀ {cs : List Value} {b : Bool}, PySem.W.exmAny K cls cs = some b → ∀ c ∈ cs, PySem.W.Looks M h (isExcClass c) true
  | [], _, _, c, hc => nomatch hc
  | z :: cs, b, h, c, hc => by
    obtain ⟨b1, d1, h1, h2, _⟩ := PySem.W.exmAny_cons h
    rcases List.mem_cons.mp hc with rfl | hc
    · exact (PySem.W.exm_cls kin h1).1
    · exact all_exc kin h2 c hc
theorem exm_seq {cls : Value} {cs : List Value} {tp a : Addr} {b : Bool} {h : Heap} (kin : K.In h) (LT : PySem.W.Looks M h (typeOf (.ref a)) cls) (hp : h.get? tp = some { cls := .type "tuple", data := .seq cs.toArray }) (hx : PySem.W.exmAny K cls cs = some b) :
    PySem.W.Looks M h (excMatches (.ref a) (.ref tp)) b := by
  intro A Q E s k₀ q
  obtain ⟨hh, g, d, tk, os⟩ := s
  have k : ∀ b o, h.get? b = some o → hh.get? b = some o := k₀
  have LT0 : PySem.W.Looks M h (isInstance (.ref tp) (.type "tuple")) true := ((PySem.W.Looks.ld hp).andThen .now).andThen (PySem.W.Looks.of_pure isSubtype_tuple_tuple)
  have hp' := k _ _ hp
  unfold excMatches
  refine wpAny_bind ((LT0.keeps k).at ?_)
  dsimp only
  rw [if_pos rfl]
  first
    | refine wpAny_bind (wpAny_seqItems hp' rfl ?_)
    | refine wpAny_bind (wpAny_bind (wpAny_seqItems hp' rfl (wpAny_pure ?_)))
  dsimp only [Option.getD_some, Option.getD]
  obtain ⟨e1, e2⟩ := all_one hx
  refine wpAny_bind (wpAny_pure (wpAny_bind (loopY (fun c hc Q' q' => ?_) ?_)))
  · obtain ⟨d, hd⟩ := e2 c hc
    refine wpAny_bind (((PySem.W.exm_cls kin hd).1.keeps k).here ?_)
    exact wpAny_pure q'
  · refine wpAny_bind ((LT.keeps k).at (wpAny_bind (loopT (bs := fun c => (PySem.W.exmOne K cls c).getD false) (fun c hc Q' q' => ?_) ?_)))
    · obtain ⟨d, hd⟩ := e2 c hc
      refine wpAny_bind (((PySem.W.exm_cls kin hd).2.keeps k).here ?_)
      rw [hd] at q'
      cases d <;> exact wpAny_pure q'
    · rw [← e1]
      cases b <;> exact wpAny_pure q
end

def TstR (X : Cx) (t : Expr) (tk : Value → Option Bool) : Prop :=
  ∀ (a : Addr) (oe : Obj) (pn pins : List (Addr × Obj)) (σ : St) (H : Hp) (s : Shared) (cls : Value) (b : Bool) (Q : Bool → Shared → Prop) (E : Value → Shared → Prop), Inv (X.suite a ((a, oe) :: pn)) pins σ H s → X.K.In s.heap →
    PySem.W.Looks (model X.prog X.w) s.heap (typeOf (.ref a)) cls → tk cls = some b → (∀ h', (∀ q o, s.heap.get? q = some o → h'.get? q = some o) → Q b { s with heap := h' }) →
    wpAny (model X.prog X.w) (X.A.mark (some (.ref a))) (eval t X.env) (fun c s1 => wpAny (model X.prog X.w) (X.A.mark (some (.ref a))) (excMatches (.ref a) c) Q E s1) E s
section
variable {X : Cx} {np tpos : Pos} {x : Str} {c : Value} {kn : Nat}
theorem tst_ld {a : Addr} {oe : Obj} {pn pins : List (Addr × Obj)} {σ : St} {H : Hp} {s : Shared} {Q : Value → Shared → Prop} {E : Value → Shared → Prop} (hc : Names X x c) (I : Inv (X.suite a ((a, oe) :: pn)) pins σ H s) (q : Q c s) :
    wpAny (model X.prog X.w) (X.A.mark (some (.ref a))) (eval (.Name x np) X.env) Q E s := by
  obtain ⟨h1, h2, h3 | ⟨h3, h4, h5⟩⟩ := hc
  · exact ld_glob (X := X.suite a ((a, oe) :: pn)) I h1 h3 q h2
  · exact ld_blt (X := X.suite a ((a, oe) :: pn)) I h1 h3 h4 q h5 h2
theorem tst_name (hc : Names X x c) : TstR X (.Name x np) (fun cls => PySem.W.exmOne X.K cls c) := fun a oe pn pins σ H s cls b Q E I kin LT ht q =>
  tst_ld hc I ((PySem.W.exm_one kin LT ht).here (q s.heap fun _ _ z => z))
inductive NamesL (X : Cx) : List Expr → List Value → Prop
  | nil : NamesL X [] []
  | cons {x : Str} {p : Pos} {c : Value} {es : List Expr} {cs : List Value} : Names X x c → NamesL X es cs → NamesL X (.Name x p :: es) (c :: cs)
theorem NamesL.items {a : Addr} {oe : Obj} {pn pins : List (Addr × Obj)} {σ : St} {H : Hp} {s : Shared} {E : Value → Shared → Prop} {pos : Pos} (I : Inv (X.suite a ((a, oe) :: pn)) pins σ H s) {es : List Expr} {cs : List Value} (h : NamesL X es cs) :
    ∀ {Q : List Value → Shared → Prop}, Q cs s → wpAny (model X.prog X.w) (X.A.mark (some (.ref a))) (spliced (backTo pos (starEach es X.env))) Q E s := by
  induction h with
  | nil => exact fun q => wpAny_items_nil q
  | cons hc _ ih => exact fun q => wpAny_items_cons (tst_ld hc I (ih q))
theorem tst_tup {es : List Expr} {cs : List Value} (h : NamesL X es cs) (hl : cs.length ≤ 1000) : TstR X (.Tuple es kn tpos) (fun cls => PySem.W.exmAny X.K cls cs) := fun a oe pn pins σ H s cls b Q E I kin LT ht q => by
  refine wpAny_Tuple (h.items I ⟨by rw [sizeLine_eq]; omega, ?_⟩)
  have kp : ∀ q o, s.heap.get? q = some o → (s.heap.push { cls := .type "tuple", data := .seq cs.toArray }).get? q = some o := fun _ _ z => Heap.get?_push_of_some _ z
  exact (exm_seq (kin.keeps kp) (LT.keeps kp) (Heap.get?_push_size s.heap rfl) ht).here (q _ kp)
end

def wOne (tk : Value → Option Bool) (ts : TS) (Wout : WX) (D : Ends) : WX := fun cls d σ H => ∃ b, tk cls = some b ∧ (b = true → ts D σ H) ∧ (b = false → Wout cls d σ H)
theorem flyKeep {B h h' : Heap} {l : List Env} {a : Addr} {Z : Obj → Prop} (k : ∀ b o, h.get? b = some o → h'.get? b = some o) (x : HandSPX.FlyingZ B l a Z h) : HandSPX.FlyingZ B l a Z h' := by
  obtain ⟨x1, x2, x3, oe, vs, T, oT, ts, y1, y2, y3, y4, y5, y6, y7, y8, y9⟩ := x
  exact ⟨fun b o z => k _ _ (x1 b o z), x2, x3.of_keeps fun b o z _ => ⟨o, k _ _ z, rfl⟩, oe, vs, T, oT, ts, k _ _ y1, y2, y3, y4, y5, y6, k _ _ y7, y8, y9⟩
section
variable {X : Cx} {t : Expr} {tk : Value → Option Bool} {body suite : List Stmt} {b₀ : Stmt} {pos pos' : Pos} {tb : WX → TS} {ts : TS} {Wout : WX}

theorem ps_try_t (hs : X.stack = X.env :: X.outer) (hf : X.env.frame = some X.env.locals) (tko : Takes X Wout) (ht : TstR X t tk)
    (hb : ∀ (W : WX) (pn : List (Addr × Obj)) (xe : Value → Shared → Prop), Takes (X.tr pn xe) W → PassesOwn (model X.prog X.w) X.A X.env xe → PSs (X.tr pn xe) body (tb W))
    (hsu : ∀ (a : Addr) (oe : Obj) (pn : List (Addr × Obj)), PSs (X.suite a ((a, oe) :: pn)) (b₀ :: suite) ts) :
    PS X (.Try body [.ExceptHandler (some t) none (b₀ :: suite) pos'] [] [] pos) (fun D σ H => tb (wOne tk ts Wout D) D σ H) := by
  refine ⟨fun pins s σ H D I hw => ?_⟩
  have good := I.ok
  have framesX : X.A.frames = some (X.env :: X.outer) := by rw [good.frames, hs]
  refine wpAny_Try_except ?_
  refine wpAny_mono ((hb (wOne tk ts Wout D) (X.pn ++ pins) (fun e s₁ => wpAny (model X.prog X.w) X.A (noteFrame e X.env) (fun _ s₂ => wpAny (model X.prog X.w) X.A (setFlight e none) (fun _ s₃ =>
    wpAny (model X.prog X.w) X.A (handleBy e X.env [.ExceptHandler (some t) none (b₀ :: suite) pos']) (SP X pins D) X.xe s₃) X.xe s₂) X.xe s₁) (fun u s' air => ?_) PassesOwn.looking).run [] s σ H D (I.toTry _) hw) (fun fl s1 ends => ?_) (fun e s1 z => z)
  · obtain ⟨a, B, sI, pins', σ', H', cls, d, rfl, J', nb, up, sky, na, os, ag, w⟩ := air
    have J : Inv X pins σ' H' sI := J'.ofTry good
    have sky2 : Sky B (X.env :: X.outer) a (Zc cls d) X.env.locals s'.heap := by rw [← hs]; exact sky
    show wpAny (model X.prog X.w) X.A (noteFrame (.ref a) X.env) _ _ _
    refine Sky.land Zc.steady framesX hf sky2 fun g1 fly1 up1 => ?_
    obtain ⟨oe1, vs1, he1, hz1, hd1⟩ := fly1.there
    have off : a ∉ frs (X.env :: X.outer) := fun hm => by
      obtain ⟨_, o', e', hnf⟩ := fly1.2.2.1.mem hm
      rw [he1] at e'; cases e'
      exact hnf _ hd1
    have offL : a ≠ X.env.locals := fun z => off (List.mem_filterMap.mpr ⟨X.env, List.mem_cons_self, by rw [hf, z]⟩)
    have offF : a ∉ X.fs := fun hm => by
      obtain ⟨v, hv, q⟩ := List.mem_filterMap.mp hm
      exact off (List.mem_filterMap.mpr ⟨v, List.mem_cons_of_mem _ hv, q⟩)
    have J1 : Inv X pins σ' H' { s' with heap := g1 } := J.landed nb fly1.1 (up.trans up1) os ag
    have S1 := J1.suite he1 hd1 na offL offF
    have LT : PySem.W.Looks (model X.prog X.w) g1 (typeOf (.ref a)) cls := fun A Q E s k q => wpAny_typeOf_ref (k _ _ he1) (by rw [hz1.1]; exact q)
    obtain ⟨b, hb1, yes, no⟩ := w
    refine wpAny_handleBy_cons (codeAny_handlers_test ?_) (by intro q; cases q)
    refine ht a oe1 (X.pn ++ pins) _ σ' H' { s' with heap := g1 } cls b _ _ S1 J1.kIn LT hb1 fun g2 kp => ?_
    have fly2 := flyKeep kp fly1
    have up2 : sI.heap.UpToSlots g2 := (up.trans up1).trans (.of_keeps kp)
    cases b with
    | true =>
      refine codeAny_handlers_suite ?_
      refine HandSPX.lands_againZ fly2 fun g3 fly3 up3 => ?_
      have J3 : Inv X pins σ' H' { s' with heap := g3 } := J.landed nb fly3.1 (up2.trans up3) os ag
      obtain ⟨oe3, vs3, he3, hz3, hd3⟩ := fly3.there
      refine wpAny_mono ((hsu a oe3 (X.pn ++ pins)).run [] _ _ H' _ (J3.suite he3 hd3 na offL offF) (yes rfl)) (fun fl s6 ends => ?_) (fun _ _ z => False.elim z)
      cases fl with
      | next =>
        obtain ⟨_, _, S6, q6⟩ := ends
        exact ⟨_, _, S6.unsuite good, q6⟩
      | brk =>
        obtain ⟨_, _, S6, q6⟩ := ends
        exact ⟨_, _, S6.unsuite good, q6⟩
      | cont =>
        obtain ⟨_, _, S6, q6⟩ := ends
        exact ⟨_, _, S6.unsuite good, q6⟩
      | ret u =>
        obtain ⟨_, _, _, S6, r6, q6⟩ := ends
        exact ⟨_, _, _, S6.unsuite good, r6, q6⟩
    | false =>
      show wpAny (model X.prog X.w) X.A (handleBy (.ref a) X.env []) _ _ _
      refine wpAny_handleBy_nil ?_
      obtain ⟨_, _, _, oe, vs, T, oT, tvs, he, hz, hd, h1, _⟩ := id fly2
      unfold PySem.passOn
      refine wpAny_bind (wpAny_field he hd h1 ?_)
      rw [if_neg (show ¬ ((Value.ref T == Value.none) = true) from by simp)]
      have again : wpAny (model X.prog X.w) X.A (setFlight (.ref a) X.env.frame) (fun _ s4 => wpAny (model X.prog X.w) X.A (throw (.ref a) : Sem Flow) (SP X pins D) X.xe s4) X.xe { s' with heap := g2 } := by
        rw [hf]
        refine HandSPX.setFlight_upZ fly2 fun g4 fly4 up4 => wpAny_throw (tko _ _ ?_)
        exact ⟨a, B, sI, pins, σ', H', cls, d, rfl, J, nb, up2.trans up4, .inr (.inr (by rw [hs]; exact fly4)), na, os, ag, no rfl⟩
      first
        | exact wpAny_bind (wpAny_pure (wpAny_bind again))
        | exact wpAny_bind again
  · cases fl with
    | next =>
      obtain ⟨_, _, J', q⟩ := ends
      exact wpAny_execs_nil ⟨_, _, J'.ofTry good, q⟩
    | brk =>
      obtain ⟨_, _, J', q⟩ := ends
      exact ⟨_, _, J'.ofTry good, q⟩
    | cont =>
      obtain ⟨_, _, J', q⟩ := ends
      exact ⟨_, _, J'.ofTry good, q⟩
    | ret u =>
      obtain ⟨_, _, _, J', r, q⟩ := ends
      exact ⟨_, _, _, J'.ofTry good, r, q⟩
end
end L2

set_option Elab.async false
set_option linter.all false
set_option maxRecDepth 100000
set_option autoImplicit false
set_option maxHeartbeats 4000000

namespace GP
open PySem PySem.Spec L2 PyProof.Rows
def tryR (rb : S → R Fl) (tk : List Nat) (rg : S → R Sl) : S → R Fl := fun s => match rb s with
  | some (.exc (.exo c fs), s1) => if tk.contains c then bnd (frz (rg s1)) fun d s2 => okv (.rt d) s2 else some (.exc (.exo c fs), s1)
  | some (.exc _, _) => none
  | y => y
section
variable {e : En} {N : List Str} {sc : Scope} {kk : Nat} {Wx : WX} {X : Cx} {Γ : Ctx} {pos pos' rp : Pos} {rb : S → R Fl} {rg : S → R Sl} {body : List Stmt} {t gx : Expr} {tk : List Nat} {tt : Value → Option Bool}
theorem RunZ.wx {Wy : WX} {σ : St} {m : List Addr} {s : S} {H : Hp} {r : R Fl} {Z : Ends} (h : RunZ e Wx σ m s H r Z) (n : ∀ x s', r ≠ some (.exc x, s')) : RunZ e Wy σ m s H r Z := by
  match r, h with
  | none, h => exact h
  | some (.exc x, s'), h => exact absurd rfl (n x s')
  | some (.val .nx, _), h => exact h
  | some (.val .ct, _), h => exact h
  | some (.val (.rt d), _), h => exact h
theorem z_tryg (hs : X.stack = X.env :: X.outer) (hf : X.env.frame = some X.env.locals) (tko : Takes X Wx) (ht : TstR X t tt) (hm : ∀ c C, e.cls c = some C → tt (.ref C) = some (tk.contains c))
    (hb : ∀ (W : WX) (pn : List (Addr × Obj)) (xe : Value → Shared → Prop), Takes (X.tr pn xe) W → PassesOwn (model X.prog X.w) X.A X.env xe → PSs (X.tr pn xe) body (TSt e W rb))
    (hg : ∀ (a : Addr) (oe : Obj) (pn : List (Addr × Obj)), PE (X.suite a ((a, oe) :: pn)) gx (TO e (fun _ _ _ _ => False) rg)) (hn : ∀ s x s', rg s ≠ some (.exc x, s')) :
    PS X (.Try body [.ExceptHandler (some t) none [.Return (some gx) rp] pos'] [] [] pos) (TSt e Wx (tryR rb tk rg)) := by
  refine PS.imp (ps_try_t (ts := TSt e (fun _ _ _ _ => False) fun s => bnd (frz (rg s)) fun d s1 => okv (.rt d) s1) hs hf tko ht hb fun a oe pn => pss_one (z_ret (hg a oe pn))) fun Z σ H ⟨m, s, f, w⟩ => ⟨m, s, f, ?_⟩
  have w : RunZ e Wx σ m s H (match rb s with
    | some (.exc (.exo c fs), s1) => if tk.contains c then bnd (frz (rg s1)) fun d s2 => okv (.rt d) s2 else some (.exc (.exo c fs), s1)
    | some (.exc _, _) => none
    | y => y) Z := w
  match q : rb s, w with
  | none, w => exact w
  | some (.val .nx, _), w => exact w
  | some (.val .ct, _), w => exact w
  | some (.val (.rt d), _), w => exact w
  | some (.exc x, s1), w =>
    intro σ' m' H' cls dx v f' xr
    obtain ⟨c, fs, rfl⟩ : ∃ c fs, x = .exo c fs := by
      cases x <;> first | exact ⟨_, _, rfl⟩ | exact xr.elim
    obtain ⟨C, d, us, hC, rfl, _⟩ := id xr
    have w : RunZ e Wx σ m s H (if tk.contains c then bnd (frz (rg s1)) fun d s2 => okv (.rt d) s2 else some (.exc (.exo c fs), s1)) Z := w
    refine ⟨tk.contains c, hm c C hC, fun y => ?_, fun y => ?_⟩
    · rw [if_pos y] at w
      refine ⟨m', s1, f', (RunZ.from w v).wx fun z s' h => ?_⟩
      unfold frz at h
      match g : rg s1, h with
      | none, h => cases h
      | some (.exc z, s2), h => exact hn _ _ _ g
      | some (.val sl, s2), h =>
        rw [bnd_val] at h
        cases zz : sl.fz with
        | none => rw [zz] at h; cases h
        | some d => rw [zz] at h; cases h
    · rw [if_neg (by rw [y]; decide)] at w
      exact w σ' m' H' _ _ v f' xr

structure RaisR (e : En) (X : Cx) (c n : Nat) (x : Str) : Prop where
  ex : ∃ (B nw ini : String) (bm : List Value) (C fI : Addr) (fd : FuncData) (ps fs : List Str), GX.Bas B nw ini bm ∧ XCls X.K C nw bm ∧ PySem.W.findIn X.K (.ref C) "__init__" = some (some (.ref fI)) ∧ PySem.W.typeIn X.K (.ref fI) = some (.type "function") ∧
    FnOk X.prog X.w X.K X.mg X.base (L2.CX X.prog X.w) 1 fI fd ps (iSp C fs) ∧ Binds X.K fd ps [] ∧ X.mg x = some (.ref C) ∧ fs ≠ [] ∧ e.cls c = some C ∧ e.fld c = fs.reverse ∧ fs.length = n ∧ n ≤ 1000
theorem z_rais (G : Gd e N sc kk Wx X) {c n : Nat} {x : Str} {a : Expr} {es : List Expr} {rl : S → R (List D)} {p : Pos} (F : RaisR e X c n x) (hk : 2 ≤ kk) (hg : Gl X x) (hdb : (x == ("__debug__" : Str)) = false) (hs : (a :: es).all noStar = true) (hl : PA X (a :: es) (TL e Wx rl)) :
    PS X (.Raise (some (.Call (.Name x p) (a :: es) [] pos')) none pos) (TSt e Wx (raR c n rl)) := by
  obtain ⟨B, nw, ini, bm, C, fI, fd, ps, fs, h1, h2, h3, h4, h5, h6, h7, h8, h9, h10, h11, h12⟩ := F.ex
  rw [List.all_cons, Bool.and_eq_true_iff] at hs
  refine z_raise G h9 h10 h11 h12 (pmk_x h1 h2 h3 h4 h5 (G.room.mono hk) h6 (fun pins σ H s er s' I z => ?_) hg h7 h8 hl hdb (star_of hs.1) (plain_args hs.2))
  obtain ⟨_, _, _, _, _, _, _, _, _, _, _, _, zz⟩ := z
  exact zz.elim
end
end GP

set_option Elab.async false
set_option linter.all false
set_option maxRecDepth 100000
set_option autoImplicit false
set_option maxHeartbeats 1000000

namespace GP
open PySem PySem.Spec L2


structure Cl where
  fl : List Str := []
  pr : List (Nat × Nat × Str × List Str) := []
  mt : List (Nat × Nat × Str × List Str × List D) := []
  ma : List (Nat × Nat × Str × List Str) := []
  xm : List (Nat × Nat × Str) := []
  xn : List (Str × List Nat) := []
def sameD : D → D → Bool
  | .non, .non => true
  | .bl a, .bl b => decide (a = b)
  | .int a, .int b => decide (a = b)
  | .str a, .str b => decide (a = b)
  | _, _ => false
def samesD : List D → List D → Bool
  | [], [] => true
  | a :: l, b :: r => sameD a b && samesD l r
  | _, _ => false
structure Ck where
  N : List Str
  fn : Nat → Option (Str × List Str)
  gn : Nat → Option Str
  bl : List Str
  cl : Cl
def prC (C : Ck) (f c : Nat) (k : Str) : Bool := C.cl.pr.any fun r => decide (r.1 = f) && decide (r.2.1 = c) && decide (r.2.2.1 = k)
def mtC (C : Ck) (f c : Nat) (k : Str) (ds : List D) : Bool := C.cl.mt.any fun r => decide (r.1 = f) && decide (r.2.1 = c) && decide (r.2.2.1 = k) && samesD r.2.2.2.2 ds
def mkC (C : Ck) (f c : Nat) (x : Str) : Bool := C.cl.ma.any fun r => decide (r.1 = f) && decide (r.2.1 = c) && decide (r.2.2.1 = x)
def nmC (N : List Str) (sc : Scope) (i : Nat) (x : Str) : Bool :=
  decide (N[i]? = some x) && (match sc.names.lookup x with | some .local => true | some .cell => true | some .free => true | _ => false) && !(x == ("__debug__" : Str)) && !(x == ("__classdict__" : Str))
def glC (sc : Scope) (x : Str) : Bool := decide (sc.names.lookup x = some .globalImplicit) && !(x == ("__debug__" : Str))
def bnC (C : Ck) (sc : Scope) (x : Str) : Bool := glC sc x && decide (x ∈ C.bl)
def tgC (N : List Str) (sc : Scope) (fa : Str → Bool) (i : Nat) (x : Str) : Bool :=
  decide (N[i]? = some x) && (decide (sc.names.lookup x = some .local) || (fa x && decide (sc.names.lookup x = some .cell)))
def tgsC (N : List Str) (sc : Scope) (fa : Str → Bool) : List Nat → List Expr → Bool
  | [], [] => true
  | i :: l, .Name x _ :: es => tgC N sc fa i x && tgsC N sc fa l es
  | _, _ => false
def cgC (N : List Str) (sc : Scope) (fa : Str → Bool) : CG → Expr → Bool
  | .nm i, .Name x _ => tgC N sc fa i x
  | .tp l, .Tuple es _ _ => tgsC N sc fa l es
  | _, _ => false
def conC (d : D) (ex : Expr) : Bool := match d, ex with
  | .non, .Constant .none _ _ => true
  | .bl b, .Constant (.bool c) _ _ => decide (b = c)
  | .int i, .Constant (.int j) _ _ => decide (i = j)
  | .str z, .Constant (.str y) _ _ => decide (z = y)
  | _, _ => false
def intC (k : Int) (ex : Expr) : Bool := match ex with
  | .Constant (.int j) _ _ => decide (k = j)
  | .UnaryOp .USub (.Constant (.int j) _ _) _ => decide (k = -j)
  | _ => false
def opBC (op : Bop) (o : Operator) : Bool := decide (o = opB op)
def opCC (op : Cop) (o : CmpOp) : Bool := decide (o = opC op)
def tyOk (t : Ty) (T : Str) : Bool := match t with
  | .int => T == ("int" : Str) | .bool => T == ("bool" : Str) | .str => T == ("str" : Str) | .tuple => T == ("tuple" : Str) | .list => T == ("list" : Str) | .cls _ => false
def keysC : List Str → List (Option Expr) → Bool
  | [], [] => true
  | k :: ks, some (.Constant (.str x) _ _) :: es => decide (k = x) && keysC ks es
  | _, _ => false

mutual
def chkE (C : Ck) (sc : Scope) : CE → Expr → Bool
  | .var i, ex => match ex with | .Name x _ => nmC C.N sc i x | _ => false
  | .con d, ex => conC d ex
  | .glob g, ex => match ex with | .Name x _ => glC sc x && decide (C.gn g = some x) | _ => false
  | .bin op a b, ex => match ex with | .BinOp l o r _ => opBC op o && chkE C sc a l && chkE C sc b r | _ => false
  | .neg a, ex => match ex with | .UnaryOp .USub x _ => chkE C sc a x | _ => false
  | .notv a, ex => match ex with | .UnaryOp .Not x _ => chkE C sc a x | _ => false
  | .andv a b, ex => match ex with
    | .BoolOp .And [x, y] _ => chkE C sc a x && chkE C sc b y
    | .BoolOp .And (x :: y :: z :: r) p => chkE C sc a x && chkE C sc b (.BoolOp .And (y :: z :: r) p)
    | _ => false
  | .orv a b, ex => match ex with
    | .BoolOp .Or [x, y] _ => chkE C sc a x && chkE C sc b y
    | .BoolOp .Or (x :: y :: z :: r) p => chkE C sc a x && chkE C sc b (.BoolOp .Or (y :: z :: r) p)
    | _ => false
  | .cmp op a b, ex => match ex with | .Compare l [o] [r] _ => opCC op o && !(behindInMarks (opC op) r) && chkE C sc a l && chkE C sc b r | _ => false
  | .isN a, ex => match ex with | .Compare l [.Is] [.Constant .none _ _] _ => chkE C sc a l | _ => false
  | .isnN a, ex => match ex with | .Compare l [.IsNot] [.Constant .none _ _] _ => chkE C sc a l | _ => false
  | .chain o p a b c, ex => match ex with | .Compare l [o', p'] [m, r] _ => opCC o o' && opCC p p' && !(lastMarks [opC o, opC p] [m, r]) && chkE C sc a l && chkE C sc b m && chkE C sc c r | _ => false
  | .ite t a b, ex => match ex with | .IfExp t' x y _ => chkT C sc t t' && chkE C sc a x && chkE C sc b y | _ => false
  | .tup es, ex => match ex with | .Tuple l _ _ => l.all noStar && chkL C sc es l | _ => false
  | .lst es, ex => match ex with | .List l _ => l.all noStar && chkL C sc es l | _ => false
  | .dnew, ex => match ex with | .Dict [] [] _ => true | _ => false
  | .knew, ex => match ex with | .Dict [] [] _ => true | _ => false
  | .rlist a b, ex => match ex with | .Call (.Name x _) [.Call (.Name y _) [l, r] [] _] [] _ => decide (x = ("list" : Str)) && decide (y = ("range" : Str)) && bnC C sc x && bnC C sc y && noStar l && noStar r && chkE C sc a l && chkE C sc b r | _ => false
  | .rtup a, ex => match ex with | .Call (.Name x _) [.Call (.Name y _) [l] [] _] [] _ => decide (x = ("tuple" : Str)) && decide (y = ("range" : Str)) && bnC C sc x && bnC C sc y && noStar l && chkE C sc a l | _ => false
  | .dint k a, ex => match ex with | .Dict [some (.Constant (.int j) _ _)] [l] _ => decide (k = j) && chkE C sc a l | _ => false
  | .bisin i n a, ex => match ex with
    | .Compare l [.In] [.Name x p] _ => nmC C.N sc i x && !n && !(behindInMarks .In (.Name x p)) && chkE C sc a l
    | .Compare l [.NotIn] [.Name x p] _ => nmC C.N sc i x && n && !(behindInMarks .NotIn (.Name x p)) && chkE C sc a l
    | _ => false
  | .klist i, ex => match ex with | .Call (.Name x _) [.Name y _] [] _ => decide (x = ("list" : Str)) && bnC C sc x && nmC C.N sc i y | _ => false
  | .wd ks es, ex => match ex with | .Dict keys vals _ => keysC ks keys && decide ks.Nodup && decide (0 < keys.length ∧ keys.length ≤ 15) && decide (ks.length = es.length) && chkL C sc es vals | _ => false
  | .idx a i, ex => match ex with | .Subscript x y _ => noSl y && chkE C sc a x && chkE C sc i y | _ => false
  | .bidx i k, ex => match ex with | .Subscript (.Name x _) y _ => nmC C.N sc i x && intC k y | _ => false
  | .bemp i n, ex => match ex with
    | .Compare (.Name x _) [.Eq] [.List [] _] _ => nmC C.N sc i x && !n
    | .Compare (.Name x _) [.NotEq] [.List [] _] _ => nmC C.N sc i x && n
    | _ => false
  | .slc a lo hi, ex => match ex with | .Subscript x (.Slice l h none _) _ => chkE C sc a x && chkO C sc lo l && chkO C sc hi h | _ => false
  | .call f es, ex => match ex with | .Call (.Name x _) (y :: l) [] _ => glC sc x && (match C.fn f with | some (z, _) => decide (z = x) | none => false) && (y :: l).all noStar && chkL C sc es (y :: l) | _ => false
  | .callk f es es2 ix, ex => match ex with
    | .Call (.Name x _) l kws _ => glC sc x && (match C.fn f with | some (z, ps) => decide (z = x) && kwOk ps l.length (kwNames kws) && decide (ix = kwIx ps l.length (kwNames kws)) | none => false) && l.all noStar && (kws.all fun k => k.arg.isSome) && chkL C sc es l && chkK C sc es2 kws
    | _ => false
  | .blt b es, ex => if b = .sset then (match ex with | .Call (.Name x _) [.Call (.Name y _) [z] [] _] [] _ => decide (x = ("sorted" : Str)) && decide (y = ("set" : Str)) && bnC C sc x && bnC C sc y && noStar z && chkL C sc es [z] | _ => false) else match ex with | .Call (.Name x _) (y :: l) [] _ => decide (x = b.nm) && b.ok && bnC C sc x && (y :: l).all noStar && chkL C sc es (y :: l) | _ => false
  | .isi a t, ex => match ex with | .Call (.Name x _) [y, .Name T _] [] _ => decide (x = ("isinstance" : Str)) && bnC C sc x && tyOk t T && bnC C sc T && noStar y && chkE C sc a y | _ => false
  | .mth m a b, ex => match ex with
    | .Call (.Attribute x n ap) [y] [] p => (match m with | .split => decide (n = ("split" : Str)) | .join => decide (n = ("join" : Str)) | .index => decide (n = ("index" : Str)) | .get => false) && noStar y && abOk x && (ap.endLine == p.line) && chkE C sc a x && chkE C sc b y
    | _ => false
  | .comp elt tg it cond own, ex => match ex with
    | .ListComp e' [⟨tge, ite, ifs, as⟩] scope _ => decide (as = 0) && chkI C sc it tge ite && notSet ite && blkC C.N sc scope (ownP C.N own) && cgC C.N (relS scope sc) (fun x => scope.names.lookup x == some .cell) tg tge && (tg.ix.all fun i => decide (i ∈ own)) && chkC C (relS scope sc) cond ifs && chkE C (relS scope sc) elt e'
    | _ => false
  | .tups a es, ex => match ex with | .Tuple (.Starred x _ :: l) _ _ => l.all noStar && chkE C sc a x && chkL C sc es l | _ => false
  | .rev a, ex => match ex with | .Subscript x (.Slice none none (some (.UnaryOp .USub (.Constant (.int i) _ _) _)) _) _ => decide (i = 1) && chkE C sc a x | _ => false
  | .bget i k d, ex => match ex with
    | .Call (.Attribute (.Name x _) n ap) [y, z] [] p => decide (n = ("get" : Str)) && nmC C.N sc i x && noStar y && noStar z && (ap.endLine == p.line) && chkE C sc k y && chkE C sc d z
    | _ => false
  | .fld a k, ex => match ex with | .Attribute x n _ => decide (n = k) && decide (k ∈ C.cl.fl) && abOk x && chkE C sc a x | _ => false
  | .prop f c k a, ex => match ex with | .Attribute x n _ => decide (n = k) && prC C f c k && abOk x && chkE C sc a x | _ => false
  | .meth f c k a es ds, ex => match ex with | .Call (.Attribute x n ap) l [] p => decide (n = k) && mtC C f c k ds && l.all noStar && decide (l.length < 20) && abOk x && (ap.endLine == p.line) && chkE C sc a x && chkL C sc es l | _ => false
  | .make f c es, ex => match ex with | .Call (.Name x _) (y :: l) [] _ => glC sc x && mkC C f c x && (y :: l).all noStar && chkL C sc es (y :: l) | _ => false
def chkL (C : Ck) (sc : Scope) : List CE → List Expr → Bool
  | [], es => match es with | [] => true | _ => false
  | c :: cs, es => match es with | e :: es => chkE C sc c e && chkL C sc cs es | [] => false
def chkK (C : Ck) (sc : Scope) : List CE → List Keyword → Bool
  | [], es => match es with | [] => true | _ => false
  | c :: cs, es => match es with | e :: es => chkE C sc c e.value && chkK C sc cs es | [] => false
def chkO (C : Ck) (sc : Scope) : Option CE → Option Expr → Bool
  | none, e => match e with | none => true | some _ => false
  | some c, e => match e with | some e => chkE C sc c e | none => false
def chkC (C : Ck) (sc : Scope) : Option CT → List Expr → Bool
  | none, e => match e with | [] => true | _ => false
  | some c, e => match e with | [e] => chkT C sc c e | _ => false
def chkT (C : Ck) (sc : Scope) : CT → Expr → Bool
  | .val e, ex => (plainT ex || (match ex with | .Compare .. => true | _ => false)) && chkE C sc e ex
  | .not t, ex => match ex with | .UnaryOp .Not x _ => chkT C sc t x | _ => false
  | .and a b, ex => match ex with
    | .BoolOp .And [x, y] _ => chkT C sc a x && chkT C sc b y
    | .BoolOp .And (x :: y :: z :: r) p => chkT C sc a x && chkT C sc b (.BoolOp .And (y :: z :: r) p)
    | _ => false
  | .or a b, ex => match ex with
    | .BoolOp .Or [x, y] _ => chkT C sc a x && chkT C sc b y
    | .BoolOp .Or (x :: y :: z :: r) p => chkT C sc a x && chkT C sc b (.BoolOp .Or (y :: z :: r) p)
    | _ => false
def chkI (C : Ck) (sc : Scope) : CI → Expr → Expr → Bool
  | .seq e, _, ex => chkE C sc e ex
  | .rng1 a, _, ex => match ex with | .Call (.Name x _) [y] [] _ => decide (x = ("range" : Str)) && bnC C sc x && noStar y && chkE C sc a y | _ => false
  | .rng2 a b, _, ex => match ex with | .Call (.Name x _) [y, z] [] _ => decide (x = ("range" : Str)) && bnC C sc x && noStar y && noStar z && chkE C sc a y && chkE C sc b z | _ => false
  | .rng3 a b k, _, ex => match ex with | .Call (.Name x _) [y, z, c] [] _ => decide (x = ("range" : Str)) && bnC C sc x && noStar y && noStar z && noStar c && intC k c && chkE C sc a y && chkE C sc b z | _ => false
  | .enm e, tg, ex => match tg, ex with | .Tuple _ _ _, .Call (.Name x _) [y] [] _ => decide (x = ("enumerate" : Str)) && bnC C sc x && noStar y && chkE C sc e y | _, _ => false
  | .zip a b, tg, ex => match tg, ex with | .Tuple _ _ _, .Call (.Name x _) [y, z] [] _ => decide (x = ("zip" : Str)) && bnC C sc x && noStar y && noStar z && chkE C sc a y && chkE C sc b z | _, _ => false
  | .zip3 a b c, tg, ex => match tg, ex with | .Tuple _ _ _, .Call (.Name x _) [y, z, w] [] _ => decide (x = ("zip" : Str)) && bnC C sc x && noStar y && noStar z && noStar w && chkE C sc a y && chkE C sc b z && chkE C sc c w | _, _ => false
  | .items e, tg, ex => match tg, ex with | .Tuple _ _ _, .Call (.Attribute y n ap) [] [] p => decide (n = ("items" : Str)) && abOk y && (ap.endLine == p.line) && chkE C sc e y | _, _ => false
end
end GP

set_option Elab.async false
set_option linter.all false
set_option maxRecDepth 100000
set_option autoImplicit false
set_option maxHeartbeats 4000000

namespace GP
open PySem PySem.Spec L2

theorem sameD_of {a b : D} (h : sameD a b = true) : a = b := by
  unfold sameD at h
  split at h <;> first | rfl | (have := of_decide_eq_true h; subst this; rfl) | cases h
theorem samesD_of : ∀ {a b : List D}, samesD a b = true → a = b
  | [], [], _ => rfl
  | x :: a, y :: b, h => by
    unfold samesD at h
    rw [Bool.and_eq_true_iff] at h
    rw [sameD_of h.1, samesD_of h.2]
  | [], _ :: _, h => by cases h
  | _ :: _, [], h => by cases h
structure Gb (e : En) (kk : Nat) (Γ : Ctx) (C : Ck) (X : Cx) : Prop where
  fns : ∀ f x ps, C.fn f = some (x, ps) → Def1 X kk x ps (spG e ps.length (Γ.call f)) ∧ ∀ ds W o, Γ.call f ds W = some o → ds.length = ps.length
  gcs : ∀ g x, C.gn g = some x → ∃ (u : Value) (v : V) (d : D), X.mg x = some u ∧ RelV v u ∧ Γ.gc g = some d ∧ ∀ m H, Dat e m H v d
  bls : ∀ x ∈ C.bl, X.mg x = none
  flds : ∀ k ∈ C.cl.fl, ∀ c D, e.ins c = some D → Cls e.K D ∧ NoAttr e.K D k
  prs : ∀ r ∈ C.cl.pr, PropR e X kk r.2.1 r.2.2.1 r.2.2.2 (spG e r.2.2.2.length (Γ.call r.1)) ∧ ∀ ds W o, Γ.call r.1 ds W = some o → ds.length = r.2.2.2.length
  mts : ∀ r ∈ C.cl.mt, MethR e X kk r.2.1 r.2.2.1 r.2.2.2.1 r.2.2.2.2 (spG e r.2.2.2.1.length (Γ.call r.1)) ∧ ∀ ds W o, Γ.call r.1 ds W = some o → ds.length = r.2.2.2.1.length
  mks : ∀ r ∈ C.cl.ma, MakeR e X kk r.2.1 r.2.2.1 r.2.2.2 (spG e r.2.2.2.length (Γ.call r.1)) ∧ ∀ ds W o, Γ.call r.1 ds W = some o → ds.length = r.2.2.2.length
  xms : ∀ r ∈ C.cl.xm, RaisR e X r.1 r.2.1 r.2.2
  xns : ∀ r ∈ C.cl.xn, ∃ v, X.mg r.1 = some v ∧ ∀ i D, e.cls i = some D → PySem.W.exmOne e.K (.ref D) v = some (r.2.contains i)
def isCmp : Expr → Bool
  | .Compare .. => true
  | _ => false
def isLc : Expr → Bool
  | .ListComp .. => true
  | _ => false
structure OkE (X : Cx) (e : En) (Wx : WX) (Γ : Ctx) (c : CE) (ex : Expr) : Prop where
  pe : PE X ex (TO e Wx (evO Γ c))
  pt : isCmp ex = true → PT X ex (TB e Wx fun s => bnd (frz (evO Γ c s)) fun d s1 => lft (blO d) s1)
  lc : isLc ex = true → ∀ (x : Str) (i : Nat) (px p : Pos), Tg1 X x i → X.env.scope.names.lookup x = some .local → swapsWith ex (some (.Name x px)) p.line X.env = pure true → PS X (.Assign [.Name x px] ex p) (TSt e Wx fun s => bnd (evO Γ c s) fun x s1 => okv .nx (s1.put i x))
def isB : Expr → Bool
  | .BoolOp .. => true
  | _ => false
structure OkT (X : Cx) (e : En) (Wx : WX) (Γ : Ctx) (c : CT) (ex : Expr) : Prop where
  pt : PT X ex (TB e Wx (evT Γ c))
  pw : isB ex = true → PW X ex (TB e Wx (evT Γ c))
section
variable {e : En} {kk : Nat} {Γ : Ctx} {C : Ck} {X : Cx} {Wx : WX} {sc : Scope} {c : CE} {ex : Expr} {N : List Str}
theorem OkE.of (h : PE X ex (TO e Wx (evO Γ c))) (n : isCmp ex = false) (n2 : isLc ex = false) : OkE X e Wx Γ c ex := ⟨h, fun z => (by rw [n] at z; cases z), fun z => (by rw [n2] at z; cases z)⟩
theorem OkT.of {c : CT} (h : PT X ex (TB e Wx (evT Γ c))) (n : isB ex = false) : OkT X e Wx Γ c ex := ⟨h, fun z => by rw [n] at z; cases z⟩
theorem Gb.blk (g : Gb e kk Γ C X) (s : Shared) (H : Hp) (scope : Scope) (cl : List (Str × Addr)) (A : Addr) (fp : List Addr) : Gb e kk Γ C (X.blk s H scope (compEnvC scope cl A X.env) fp) :=
  ⟨fun f x ps h => ⟨⟨(g.fns f x ps h).1.ex⟩, (g.fns f x ps h).2⟩, g.gcs, g.bls, g.flds, fun r h => ⟨⟨(g.prs r h).1.ex⟩, (g.prs r h).2⟩, fun r h => ⟨⟨(g.mts r h).1.ex⟩, (g.mts r h).2⟩, fun r h => ⟨⟨(g.mks r h).1.ex⟩, (g.mks r h).2⟩, fun r h => ⟨(g.xms r h).ex⟩, g.xns⟩
theorem Gb.tr (g : Gb e kk Γ C X) (pn : List (Addr × Obj)) (xe : Value → Shared → Prop) : Gb e kk Γ C (X.tr pn xe) :=
  ⟨fun f x ps h => ⟨⟨(g.fns f x ps h).1.ex⟩, (g.fns f x ps h).2⟩, g.gcs, g.bls, g.flds, fun r h => ⟨⟨(g.prs r h).1.ex⟩, (g.prs r h).2⟩, fun r h => ⟨⟨(g.mts r h).1.ex⟩, (g.mts r h).2⟩, fun r h => ⟨⟨(g.mks r h).1.ex⟩, (g.mks r h).2⟩, fun r h => ⟨(g.xms r h).ex⟩, g.xns⟩
theorem prC_of {f c : Nat} {k : Str} (g : Gb e kk Γ C X) (h : prC C f c k = true) : ∃ ps, PropR e X kk c k ps (spG e ps.length (Γ.call f)) ∧ ∀ ds W o, Γ.call f ds W = some o → ds.length = ps.length := by
  obtain ⟨⟨a, b, d, ps⟩, hr, q⟩ := List.any_eq_true.mp h
  simp only [Bool.and_eq_true, decide_eq_true_eq] at q
  obtain ⟨⟨rfl, rfl⟩, rfl⟩ := q
  exact ⟨ps, g.prs _ hr⟩
theorem mkC_of {f c : Nat} {k : Str} (g : Gb e kk Γ C X) (h : mkC C f c k = true) : ∃ ps, MakeR e X kk c k ps (spG e ps.length (Γ.call f)) ∧ ∀ ds W o, Γ.call f ds W = some o → ds.length = ps.length := by
  obtain ⟨⟨a, b, d, ps⟩, hr, q⟩ := List.any_eq_true.mp h
  simp only [Bool.and_eq_true, decide_eq_true_eq] at q
  obtain ⟨⟨rfl, rfl⟩, rfl⟩ := q
  exact ⟨ps, g.mks _ hr⟩
theorem mtC_of {f c : Nat} {k : Str} {ds : List D} (g : Gb e kk Γ C X) (h : mtC C f c k ds = true) : ∃ ps, MethR e X kk c k ps ds (spG e ps.length (Γ.call f)) ∧ ∀ ds W o, Γ.call f ds W = some o → ds.length = ps.length := by
  obtain ⟨⟨a, b, d, ps, es⟩, hr, q⟩ := List.any_eq_true.mp h
  simp only [Bool.and_eq_true, decide_eq_true_eq] at q
  obtain ⟨⟨⟨rfl, rfl⟩, rfl⟩, z⟩ := q
  cases samesD_of z
  exact ⟨ps, g.mts _ hr⟩
theorem nm_of {i : Nat} {x : Str} (h : nmC N sc i x = true) : N[i]? = some x ∧ Vis sc x ∧ (x == ("__debug__" : Str)) = false ∧ (x == ("__classdict__" : Str)) = false := by
  unfold nmC at h
  simp only [Bool.and_eq_true, decide_eq_true_eq, Bool.not_eq_true'] at h
  obtain ⟨⟨⟨h1, h2⟩, h3⟩, h4⟩ := h
  refine ⟨h1, ?_, h3, h4⟩
  split at h2
  · rename_i q; exact .inl q
  · rename_i q; exact .inr (.inl q)
  · rename_i q; exact .inr (.inr q)
  · cases h2
theorem gl_of {x : Str} (hs : X.env.scope = sc) (h : glC sc x = true) : Gl X x ∧ (x == ("__debug__" : Str)) = false := by
  unfold glC at h
  simp only [Bool.and_eq_true, decide_eq_true_eq, Bool.not_eq_true'] at h
  exact ⟨by unfold Gl Env.kindOf; rw [hs]; exact h.1, h.2⟩
theorem bn_of {x : Str} (hs : X.env.scope = sc) (g : Gb e kk Γ C X) (h : bnC C sc x = true) : Bn X x := by
  unfold bnC at h
  simp only [Bool.and_eq_true, decide_eq_true_eq] at h
  exact ⟨(gl_of hs h.1).1, g.bls x h.2⟩
theorem tg_of {fa : Str → Bool} {i : Nat} {x : Str} (hs : X.env.scope = sc) (hN : X.N = N) (hf : ∀ y, fa y = true → X.fn y = true) (h : tgC N sc fa i x = true) : Tg1 X x i := by
  unfold tgC at h
  simp only [Bool.and_eq_true, decide_eq_true_eq, Bool.or_eq_true] at h
  obtain ⟨h1, h2⟩ := h
  refine ⟨by rw [hN]; exact h1, ?_, ?_⟩
  · rw [hs]
    rcases h2 with h2 | h2
    · exact .inl h2
    · exact .inr h2.2
  · rcases h2 with h2 | h2
    · right; rw [hs]; exact h2
    · exact .inl (hf x h2.1)
theorem tgs_of {fa : Str → Bool} (hs : X.env.scope = sc) (hN : X.N = N) (hf : ∀ y, fa y = true → X.fn y = true) : ∀ {l : List Nat} {es : List Expr}, tgsC N sc fa l es = true → Tgs X es l
  | [], [], _ => .nil
  | i :: l, ex :: es, h => by
    cases ex <;> first | (cases h; done) | skip
    unfold tgsC at h
    rw [Bool.and_eq_true_iff] at h
    have t := tg_of hs hN hf h.1
    exact .cons t.at_ t.loc t.fn (tgs_of hs hN hf h.2)
  | [], _ :: _, h => by cases h
  | _ :: _, [], h => by cases h
theorem cg_of {fa : Str → Bool} (hs : X.env.scope = sc) (hN : X.N = N) (hc : X.calm = true) (nd : X.N.Nodup) (hf : ∀ y, fa y = true → X.fn y = true) {tg : CG} (h : cgC N sc fa tg ex = true) : PG X ex (TGt X.K tg) := by
  cases tg with
  | nm i =>
    cases ex <;> first | (cases h; done) | skip
    have t := tg_of hs hN hf (show tgC N sc fa i _ = true from h)
    exact pg_name nd t.at_ t.loc t.fn
  | tp l =>
    cases ex <;> first | (cases h; done) | skip
    exact pg_un hc nd (tgs_of hs hN hf (show tgsC N sc fa l _ = true from h))
theorem con_of {d : D} (h : conC d ex = true) : ∃ v, PE X ex (tC v) ∧ ∀ m H, Dat e m H v d := by
  unfold conC at h
  split at h
  · exact ⟨_, pe_non, fun _ _ => .non⟩
  · have := of_decide_eq_true h; subst this; exact ⟨_, pe_bl, fun _ _ => .bl _⟩
  · have := of_decide_eq_true h; subst this; exact ⟨_, pe_int, fun _ _ => .int _⟩
  · have := of_decide_eq_true h; subst this; exact ⟨_, pe_str, fun _ _ => .str _⟩
  · cases h
theorem int_of {k : Int} (h : intC k ex = true) : PE X ex (tC (.int k)) := by
  unfold intC at h
  split at h
  · have := of_decide_eq_true h; subst this; exact pe_int
  · rename_i j _ _ _
    have := of_decide_eq_true h; subst this
    exact PE.imp (pe_un un_neg (pe_int (i := j))) fun σ H Q w => ⟨j, rfl, w⟩
  · cases h
theorem opB_of {op : Bop} {o : Operator} (h : opBC op o = true) : o = opB op := of_decide_eq_true h
theorem opC_of {op : Cop} {o : CmpOp} (h : opCC op o = true) : o = opC op := of_decide_eq_true h
theorem ty_of {t : Ty} {T : Str} (h : tyOk t T = true) : ∃ n, t.nm = some n ∧ bootBuiltins T = some (.type n) ∧ T ≠ "__name__" ∧ (T == ("__debug__" : Str)) = false := by
  cases t <;> first | (cases h; done) | skip
  all_goals
    have h := eq_of_beq h
    subst h
    exact ⟨_, rfl, rfl, by decide, by decide⟩

abbrev OkL (X : Cx) (e : En) (Wx : WX) (Γ : Ctx) (cs : List CE) (es : List Expr) : Prop := All2 (fun c ex => PE X ex (TO e Wx (evO Γ c))) cs es
theorem OkL.pa : ∀ {cs : List CE} {es : List Expr}, OkL X e Wx Γ cs es → es.all noStar = true → PA X es (TL e Wx (evL Γ cs))
  | _, _, .nil, _ => xl_nil
  | _, _, .cons h t, hs => by
    rw [List.all_cons, Bool.and_eq_true_iff] at hs
    exact xl_cons h (OkL.pa t hs.2) hs.1
theorem OkL.pas : ∀ {cs : List CE} {es : List Expr}, OkL X e Wx Γ cs es → es.all noStar = true → PA X es (TLs e Wx (evOs Γ cs))
  | _, _, .nil, _ => xs_nil
  | _, _, .cons h t, hs => by
    rw [List.all_cons, Bool.and_eq_true_iff] at hs
    exact xs_cons h (OkL.pas t hs.2) hs.1
theorem evL_len : ∀ (cs : List CE) (s : S) (ds : List D) (s' : S), evL Γ cs s = some (.val ds, s') → ds.length = cs.length
  | [], s, ds, s', h => by cases h; rfl
  | c :: cs, s, ds, s', h => by
    unfold evL at h
    obtain ⟨d, s1, _, h⟩ := bnd_some h
    obtain ⟨ds', s2, h1, h⟩ := bnd_some h
    cases h
    rw [List.length_cons, List.length_cons, evL_len cs _ _ _ h1]
theorem evOs_len : ∀ (cs : List CE) (s : S) (ds : List Sl) (s' : S), evOs Γ cs s = some (.val ds, s') → ds.length = cs.length
  | [], s, ds, s', h => by cases h; rfl
  | c :: cs, s, ds, s', h => by
    unfold evOs at h
    obtain ⟨d, s1, _, h⟩ := bnd_some h
    obtain ⟨ds', s2, h1, h⟩ := bnd_some h
    cases h
    rw [List.length_cons, List.length_cons, evOs_len cs _ _ _ h1]
abbrev OkK (X : Cx) (e : En) (Wx : WX) (Γ : Ctx) (cs : List CE) (ks : List Keyword) : Prop := All2 (fun c k => PE X k.value (TO e Wx (evO Γ c))) cs ks
theorem OkK.pk : ∀ {cs : List CE} {ks : List Keyword}, OkK X e Wx Γ cs ks → PK X ks (TL e Wx (evL Γ cs))
  | _, _, .nil => xk_nil
  | _, k :: _, .cons h t => by
    obtain ⟨nm, v, p⟩ := k
    exact xk_cons h (OkK.pk t)
theorem seqR_of : ∀ (cs : List CE) (s : S), seqR (cs.map fun c => evO Γ c) s = evL Γ cs s
  | [], s => rfl
  | c :: cs, s => by
    show (bnd (frz (evO Γ c s)) fun d s1 => bnd (seqR (cs.map fun c => evO Γ c) s1) fun ds s2 => okv (d :: ds) s2) = evL Γ (c :: cs) s
    unfold evL
    congr 1; funext d s1; rw [seqR_of cs s1]
theorem wd_of : ∀ {ks : List Str} {keys : List (Option Expr)} {cs : List CE} {vals : List Expr}, keysC ks keys = true → keys.length = vals.length → OkL X e Wx Γ cs vals → WdP X e Wx keys vals ks (cs.map fun c => evO Γ c)
  | [], [], _, _, _, _, .nil => .nil
  | k :: ks, some ex :: keys, _, _, h, hl, .cons q t => by
    unfold keysC at h
    split at h
    · rename_i heq; cases heq
    · rename_i k2 ks2 x j p es h1 h2
      cases h1; cases h2
      rw [Bool.and_eq_true_iff] at h
      have := of_decide_eq_true h.1
      subst this
      exact .cons q (wd_of h.2 (by simpa using hl) t)
    · cases h
  | [], _ :: _, _, _, h, _, _ => by simp [keysC] at h
  | _ :: _, [], _, _, h, _, _ => by simp [keysC] at h
  | _ :: _, none :: _, _, _, h, _, _ => by simp [keysC] at h
  | _, [], _, _ :: _, _, hl, _ => by simp at hl
  | _, _ :: _, _, [], _, hl, _ => by simp at hl
theorem keys_len : ∀ {ks : List Str} {keys : List (Option Expr)}, keysC ks keys = true → ks.length = keys.length
  | [], [], _ => rfl
  | k :: ks, o :: keys, h => by
    unfold keysC at h
    split at h
    · rename_i heq; cases heq
    · rename_i h1 h2; cases h1; cases h2
      rw [Bool.and_eq_true_iff] at h
      rw [List.length_cons, List.length_cons, keys_len h.2]
    · cases h
  | [], _ :: _, h => by simp [keysC] at h
  | _ :: _, [], h => by simp [keysC] at h
end
end GP

set_option Elab.async false
set_option linter.all false
set_option maxRecDepth 100000
set_option autoImplicit false
set_option maxHeartbeats 4000000

namespace GP
open PySem PySem.Spec L2

section
variable {e : En} {kk : Nat} {Γ : Ctx} {C : Ck}
theorem kwLen : ∀ {kws : List Keyword}, (kws.all fun k => k.arg.isSome) = true → (kwNames kws).length = kws.length
  | [], _ => rfl
  | ⟨nm, v, p⟩ :: kws, h => by
    rw [List.all_cons, Bool.and_eq_true_iff] at h
    cases nm with
    | none => cases h.1
    | some nm => show (nm :: kwNames kws).length = _; rw [List.length_cons, List.length_cons, kwLen h.2]
theorem OkT.ofW {X : Cx} {Wx : WX} {c : CT} {ex : Expr} (h : PW X ex (TB e Wx (evT Γ c))) : OkT X e Wx Γ c ex := ⟨h.pt, fun _ => h⟩
mutual
theorem sndE : ∀ (c : CE) {sc : Scope} {X : Cx} {Wx : WX} {ex : Expr}, chkE C sc c ex = true → Gd e C.N sc kk Wx X → Gb e kk Γ C X → OkE X e Wx Γ c ex
  | .var i, sc, X, Wx, ex, h, G, B => by
    unfold chkE at h
    split at h
    · obtain ⟨h1, h2, h3, h4⟩ := nm_of h
      exact .of (x_var G h1 (by rw [G.hsc]; exact h2) h3 h4) rfl rfl
    · cases h
  | .con d, sc, X, Wx, ex, h, G, B => by
    unfold chkE at h
    obtain ⟨v, h1, h2⟩ := con_of (X := X) h
    refine .of (x_con h1 h2) ?_ ?_
    · cases ex <;> first | rfl | (unfold conC at h; split at h <;> first | (cases h; done) | (rename_i q; cases q))
    · cases ex <;> first | rfl | (unfold conC at h; split at h <;> first | (cases h; done) | (rename_i q; cases q))
  | .glob g, sc, X, Wx, ex, h, G, B => by
    unfold chkE at h
    split at h
    · simp only [Bool.and_eq_true, Bool.not_eq_true', decide_eq_true_eq, Bool.or_eq_true] at h
      obtain ⟨h1, h2⟩ := gl_of G.hsc h.1
      obtain ⟨u, v, d, h3, h4, h5, h6⟩ := B.gcs g _ h.2
      exact .of (x_glob (pe_glob h1 h3 h4 h2) h5 h6) rfl rfl
    · cases h
  | .bin op a b, sc, X, Wx, ex, h, G, B => by
    unfold chkE at h
    split at h
    · simp only [Bool.and_eq_true, Bool.not_eq_true', decide_eq_true_eq, Bool.or_eq_true] at h
      obtain ⟨⟨h1, h2⟩, h3⟩ := h
      cases opB_of h1
      exact .of (x_bin G (sndE a h2 G B).pe (sndE b h3 G B).pe) rfl rfl
    · cases h
  | .neg a, sc, X, Wx, ex, h, G, B => by
    unfold chkE at h
    split at h
    · exact .of (x_neg (sndE a h G B).pe) rfl rfl
    · cases h
  | .notv a, sc, X, Wx, ex, h, G, B => by
    unfold chkE at h
    split at h
    · exact .of (x_not (sndE a h G B).pe) rfl rfl
    · cases h
  | .andv a b, sc, X, Wx, ex, h, G, B => by
    unfold chkE at h
    split at h
    · simp only [Bool.and_eq_true, Bool.not_eq_true', decide_eq_true_eq, Bool.or_eq_true] at h
      exact .of (x_and (sndE a h.1 G B).pe (pe_one (sndE b h.2 G B).pe)) rfl rfl
    · simp only [Bool.and_eq_true, Bool.not_eq_true', decide_eq_true_eq, Bool.or_eq_true] at h
      exact .of (x_and (sndE a h.1 G B).pe (sndE b h.2 G B).pe) rfl rfl
    · cases h
  | .orv a b, sc, X, Wx, ex, h, G, B => by
    unfold chkE at h
    split at h
    · simp only [Bool.and_eq_true, Bool.not_eq_true', decide_eq_true_eq, Bool.or_eq_true] at h
      exact .of (x_or (sndE a h.1 G B).pe (pe_one (sndE b h.2 G B).pe)) rfl rfl
    · simp only [Bool.and_eq_true, Bool.not_eq_true', decide_eq_true_eq, Bool.or_eq_true] at h
      exact .of (x_or (sndE a h.1 G B).pe (sndE b h.2 G B).pe) rfl rfl
    · cases h
  | .cmp op a b, sc, X, Wx, ex, h, G, B => by
    unfold chkE at h
    split at h
    · simp only [Bool.and_eq_true, Bool.not_eq_true', decide_eq_true_eq, Bool.or_eq_true] at h
      obtain ⟨⟨⟨h1, h2⟩, h3⟩, h4⟩ := h
      cases opC_of h1
      have ha := (sndE a h3 G B).pe
      have hb := (sndE b h4 G B).pe
      exact ⟨x_cmp G ha hb h2, fun _ => xt_cmp G ha hb h2, fun z => by cases z⟩
    · cases h
  | .isN a, sc, X, Wx, ex, h, G, B => by
    unfold chkE at h
    split at h
    · have ha := (sndE a h G B).pe
      exact ⟨x_isN ha, fun _ => xt_isN ha, fun z => by cases z⟩
    · cases h
  | .isnN a, sc, X, Wx, ex, h, G, B => by
    unfold chkE at h
    split at h
    · have ha := (sndE a h G B).pe
      exact ⟨x_isnN ha, fun _ => xt_isnN ha, fun z => by cases z⟩
    · cases h
  | .chain o p a b c, sc, X, Wx, ex, h, G, B => by
    unfold chkE at h
    split at h
    · simp only [Bool.and_eq_true, Bool.not_eq_true', decide_eq_true_eq, Bool.or_eq_true] at h
      obtain ⟨⟨⟨⟨⟨h1, h2⟩, h3⟩, h4⟩, h5⟩, h6⟩ := h
      cases opC_of h1
      cases opC_of h2
      have ha := (sndE a h4 G B).pe
      have hb := (sndE b h5 G B).pe
      have hc := (sndE c h6 G B).pe
      exact ⟨x_chain G ha hb hc h3, fun _ => xt_chain G ha hb hc h3, fun z => by cases z⟩
    · cases h
  | .ite t a b, sc, X, Wx, ex, h, G, B => by
    unfold chkE at h
    split at h
    · simp only [Bool.and_eq_true, Bool.not_eq_true', decide_eq_true_eq, Bool.or_eq_true] at h
      obtain ⟨⟨h1, h2⟩, h3⟩ := h
      exact .of (x_ite (sndT t h1 G B).pt (sndE a h2 G B).pe (sndE b h3 G B).pe) rfl rfl
    · cases h
  | .tup es, sc, X, Wx, ex, h, G, B => by
    unfold chkE at h
    split at h
    · simp only [Bool.and_eq_true, Bool.not_eq_true', decide_eq_true_eq, Bool.or_eq_true] at h
      exact .of (x_tup ((sndL es h.2 G B).pa h.1)) rfl rfl
    · cases h
  | .lst es, sc, X, Wx, ex, h, G, B => by
    unfold chkE at h
    split at h
    · simp only [Bool.and_eq_true, Bool.not_eq_true', decide_eq_true_eq, Bool.or_eq_true] at h
      exact .of (x_lst ((sndL es h.2 G B).pa h.1)) rfl rfl
    · cases h
  | .dnew, sc, X, Wx, ex, h, G, B => by
    unfold chkE at h
    split at h
    · exact .of x_dnew rfl rfl
    · cases h
  | .knew, sc, X, Wx, ex, h, G, B => by
    unfold chkE at h
    split at h
    · exact .of x_knew rfl rfl
    · cases h
  | .rlist a b, sc, X, Wx, ex, h, G, B => by
    unfold chkE at h
    split at h
    · simp only [Bool.and_eq_true, decide_eq_true_eq] at h
      obtain ⟨⟨⟨⟨⟨⟨⟨h1, h2⟩, h3⟩, h4⟩, h5⟩, h6⟩, h7⟩, h8⟩ := h
      subst h1 h2
      exact .of (x_rlist G (bn_of G.hsc B h3) (bn_of G.hsc B h4) (sndE a h7 G B).pe (sndE b h8 G B).pe h5 h6) rfl rfl
    · cases h
  | .rtup a, sc, X, Wx, ex, h, G, B => by
    unfold chkE at h
    split at h
    · simp only [Bool.and_eq_true, decide_eq_true_eq] at h
      obtain ⟨⟨⟨⟨⟨h1, h2⟩, h3⟩, h4⟩, h5⟩, h6⟩ := h
      subst h1 h2
      exact .of (x_rtup G (bn_of G.hsc B h3) (bn_of G.hsc B h4) (sndE a h6 G B).pe h5) rfl rfl
    · cases h
  | .dint k a, sc, X, Wx, ex, h, G, B => by
    unfold chkE at h
    split at h
    · simp only [Bool.and_eq_true, decide_eq_true_eq] at h
      obtain ⟨h1, h2⟩ := h
      subst h1
      exact .of (x_dint (sndE a h2 G B).pe) rfl rfl
    · cases h
  | .bisin i n a, sc, X, Wx, ex, h, G, B => by
    unfold chkE at h
    split at h
    · rw [Bool.and_eq_true_iff, Bool.and_eq_true_iff, Bool.and_eq_true_iff] at h
      obtain ⟨⟨⟨h0, hn⟩, hm⟩, h5⟩ := h
      obtain ⟨h1, h2, h3, h4⟩ := nm_of h0
      cases n with
      | true => cases hn
      | false =>
        have ha := (sndE a h5 G B).pe
        exact ⟨x_bisin (neg := false) G ha h1 (by rw [G.hsc]; exact h2) h3 h4 (by simpa using hm), fun _ => xt_bisin (neg := false) G ha h1 (by rw [G.hsc]; exact h2) h3 h4 (by simpa using hm), fun z => by cases z⟩
    · rw [Bool.and_eq_true_iff, Bool.and_eq_true_iff, Bool.and_eq_true_iff] at h
      obtain ⟨⟨⟨h0, hn⟩, hm⟩, h5⟩ := h
      obtain ⟨h1, h2, h3, h4⟩ := nm_of h0
      cases n with
      | false => cases hn
      | true =>
        have ha := (sndE a h5 G B).pe
        exact ⟨x_bisin (neg := true) G ha h1 (by rw [G.hsc]; exact h2) h3 h4 (by simpa using hm), fun _ => xt_bisin (neg := true) G ha h1 (by rw [G.hsc]; exact h2) h3 h4 (by simpa using hm), fun z => by cases z⟩
    · cases h
  | .klist i, sc, X, Wx, ex, h, G, B => by
    unfold chkE at h
    split at h
    · simp only [Bool.and_eq_true, decide_eq_true_eq] at h
      obtain ⟨⟨h1, h2⟩, h3⟩ := h
      subst h1
      obtain ⟨n1, n2, n3, n4⟩ := nm_of h3
      exact .of (x_klist G ⟨by rw [G.hN]; exact n1, by rw [G.hsc]; exact n2, n3, n4⟩ (bn_of G.hsc B h2)) rfl rfl
    · cases h
  | .wd ks es, sc, X, Wx, ex, h, G, B => by
    unfold chkE at h
    split at h
    · rename_i keys vals p
      simp only [Bool.and_eq_true, Bool.not_eq_true', decide_eq_true_eq, Bool.or_eq_true] at h
      obtain ⟨⟨⟨⟨h1, h2⟩, h3, h4⟩, h6⟩, h5⟩ := h
      have hl := sndL es h5 G B
      have w := wd_of h1 (by rw [← keys_len h1, h6, hl.length]) hl
      have := x_wd (pos := p) w h2 (by intro z; subst z; exact absurd h3 (by decide)) h4
      rw [show (fun s => bnd (seqR (es.map fun c => evO Γ c) s) fun ds s1 => newDict ks ds s1) = evO Γ (.wd ks es) by funext s; rw [seqR_of]; unfold evO; rfl] at this
      exact .of this rfl rfl
    · cases h
  | .idx a i, sc, X, Wx, ex, h, G, B => by
    unfold chkE at h
    split at h
    · simp only [Bool.and_eq_true, Bool.not_eq_true', decide_eq_true_eq, Bool.or_eq_true] at h
      exact .of (x_idx G (sndE a h.1.2 G B).pe (sndE i h.2 G B).pe h.1.1) rfl rfl
    · cases h
  | .bidx i k, sc, X, Wx, ex, h, G, B => by
    unfold chkE at h
    split at h
    · simp only [Bool.and_eq_true, Bool.not_eq_true', decide_eq_true_eq, Bool.or_eq_true] at h
      obtain ⟨h1, h2, h3, h4⟩ := nm_of h.1
      exact .of (x_bidx G h1 (by rw [G.hsc]; exact h2) h3 h4 (int_of h.2) (by have := h.2; unfold intC at this; split at this <;> first | rfl | cases this)) rfl rfl
    · cases h
  | .bemp i n, sc, X, Wx, ex, h, G, B => by
    unfold chkE at h
    split at h
    · simp only [Bool.and_eq_true, Bool.not_eq_true', decide_eq_true_eq, Bool.or_eq_true] at h
      obtain ⟨h1, h2, h3, h4⟩ := nm_of h.1
      cases h.2
      exact ⟨x_bemp (neg := false) G h1 (by rw [G.hsc]; exact h2) h3 h4, fun _ => xt_bemp (neg := false) G h1 (by rw [G.hsc]; exact h2) h3 h4, fun z => by cases z⟩
    · simp only [Bool.and_eq_true, Bool.not_eq_true', decide_eq_true_eq, Bool.or_eq_true] at h
      obtain ⟨h1, h2, h3, h4⟩ := nm_of h.1
      cases h.2
      exact ⟨x_bemp (neg := true) G h1 (by rw [G.hsc]; exact h2) h3 h4, fun _ => xt_bemp (neg := true) G h1 (by rw [G.hsc]; exact h2) h3 h4, fun z => by cases z⟩
    · cases h
  | .slc a lo hi, sc, X, Wx, ex, h, G, B => by
    unfold chkE at h
    split at h
    · simp only [Bool.and_eq_true, Bool.not_eq_true', decide_eq_true_eq, Bool.or_eq_true] at h
      obtain ⟨⟨h1, h2⟩, h3⟩ := h
      exact .of (x_slc G (sndE a h1 G B).pe (sndO lo h2 G B) (sndO hi h3 G B)) rfl rfl
    · cases h
  | .call f es, sc, X, Wx, ex, h, G, B => by
    unfold chkE at h
    split at h
    · rename_i x p y l p2
      rw [Bool.and_eq_true_iff, Bool.and_eq_true_iff, Bool.and_eq_true_iff] at h
      obtain ⟨⟨⟨h1, h2⟩, h3⟩, h4⟩ := h
      split at h2
      · rename_i z ps hf
        have := of_decide_eq_true h2
        subst this
        obtain ⟨F, hl⟩ := B.fns f _ _ hf
        obtain ⟨g1, g2⟩ := gl_of G.hsc h1
        exact .of (x_call G F g1 g2 ((sndL es h4 G B).pa h3) h3 hl) rfl rfl
      · cases h2
    · cases h
  | .callk f es es2 ix, sc, X, Wx, ex, h, G, B => by
    unfold chkE at h
    split at h
    · rename_i x p l kws p2
      rw [Bool.and_eq_true_iff, Bool.and_eq_true_iff, Bool.and_eq_true_iff, Bool.and_eq_true_iff, Bool.and_eq_true_iff] at h
      obtain ⟨⟨⟨⟨⟨h1, h2⟩, h3⟩, h4⟩, h5⟩, h6⟩ := h
      split at h2
      · rename_i z ps hf
        simp only [Bool.and_eq_true, Bool.not_eq_true', decide_eq_true_eq, Bool.or_eq_true] at h2
        obtain ⟨⟨e1, h7⟩, e2⟩ := h2
        subst e1
        subst e2
        obtain ⟨F, hl⟩ := B.fns f _ _ hf
        obtain ⟨g1, g2⟩ := gl_of G.hsc h1
        have q1 := sndL es h5 G B
        have q2 := sndK es2 h6 G B
        refine .of (x_callk G F g1 g2 (q1.pa h3) q2.pk h3 h4 h7 hl (fun z => ?_) (fun s ds s' q => ?_) (fun s ds s' q => ?_)) rfl rfl
        · subst z; cases q1; rfl
        · rw [evL_len _ _ _ _ q, q1.length]
        · rw [evL_len _ _ _ _ q, q2.length, kwLen h4]
      · cases h2
    · cases h
  | .blt b es, sc, X, Wx, ex, h, G, B => by
    unfold chkE at h
    split at h
    · rename_i hb
      subst hb
      split at h
      · simp only [Bool.and_eq_true, decide_eq_true_eq] at h
        obtain ⟨⟨⟨⟨⟨h1, h2⟩, h3⟩, h4⟩, h5⟩, h6⟩ := h
        subst h1 h2
        exact .of (x_sset G (bn_of G.hsc B h3) (bn_of G.hsc B h4) ((sndL es h6 G B).pa (by rw [List.all_cons, h5]; rfl)) h5) rfl rfl
      · cases h
    split at h
    · simp only [Bool.and_eq_true, Bool.not_eq_true', decide_eq_true_eq, Bool.or_eq_true] at h
      obtain ⟨⟨⟨⟨h1, h2⟩, h3⟩, h4⟩, h5⟩ := h
      subst h1
      exact .of (x_blt G h2 (bn_of G.hsc B h3) ((sndL es h5 G B).pa h4) h4) rfl rfl
    · cases h
  | .isi a t, sc, X, Wx, ex, h, G, B => by
    unfold chkE at h
    split at h
    · simp only [Bool.and_eq_true, Bool.not_eq_true', decide_eq_true_eq, Bool.or_eq_true] at h
      obtain ⟨⟨⟨⟨⟨h1, h2⟩, h3⟩, h4⟩, h5⟩, h6⟩ := h
      subst h1
      obtain ⟨n, t1, t2, t3, t4⟩ := ty_of h3
      exact .of (x_isi G t1 t2 t3 t4 (bn_of G.hsc B h2) (bn_of G.hsc B h4) (sndE a h6 G B).pe h5) rfl rfl
    · cases h
  | .mth m a b, sc, X, Wx, ex, h, G, B => by
    unfold chkE at h
    split at h
    · rw [Bool.and_eq_true_iff, Bool.and_eq_true_iff, Bool.and_eq_true_iff, Bool.and_eq_true_iff, Bool.and_eq_true_iff] at h
      obtain ⟨⟨⟨⟨⟨h1, h2⟩, h3⟩, h4⟩, h5⟩, h6⟩ := h
      have ha := (sndE a h5 G B).pe
      have hb := (sndE b h6 G B).pe
      cases m with
      | split => have := of_decide_eq_true h1; subst this; exact .of (x_split ha hb h2 h3 h4) rfl rfl
      | join => have := of_decide_eq_true h1; subst this; exact .of (x_join G ha hb h2 h3 h4) rfl rfl
      | index => have := of_decide_eq_true h1; subst this; exact .of (x_index G ha hb h2 h3 h4) rfl rfl
      | get => cases h1
    · cases h
  | .comp elt tg it cond own, sc, X, Wx, ex, h, G, B => by
    unfold chkE at h
    split at h
    · simp only [Bool.and_eq_true, Bool.not_eq_true', decide_eq_true_eq, Bool.or_eq_true] at h
      obtain ⟨⟨⟨⟨⟨⟨⟨h1, h2⟩, h3⟩, h4⟩, h5⟩, h6⟩, h7⟩, h8⟩ := h
      subst h1
      have hi := sndI it h2 G B
      have hop : ∀ i ∈ tg.ix, i ∈ own := fun i hi => by
        have := List.all_eq_true.mp h6 i hi
        exact of_decide_eq_true this
      have hg := fun s H A cl fp => cg_of (fa := fun x => _ == some NameKind.cell) (G.blk s H _ A cl fp).hsc (G.blk s H _ A cl fp).hN (G.blk s H _ A cl fp).calm (G.blk s H _ A cl fp).ndX (fun _ z => z) h5
      have ht := fun s H A cl fp => sndC cond h7 (G.blk s H _ A cl fp) (B.blk s H _ cl A fp)
      have he := fun s H A cl fp => (sndE elt h8 (G.blk s H _ A cl fp) (B.blk s H _ cl A fp)).pe
      exact ⟨x_comp G hi h4 hg ht he h3 hop, fun z => (by cases z), fun _ x i px p t hx hsw => z_setc G t hx hsw hi h4 hg ht he h3 hop⟩
    · cases h
  | .tups a es, sc, X, Wx, ex, h, G, B => by
    unfold chkE at h
    split at h
    · rw [Bool.and_eq_true_iff, Bool.and_eq_true_iff] at h
      obtain ⟨⟨h1, h2⟩, h3⟩ := h
      exact .of (x_tups G (sndE a h2 G B).pe ((sndL es h3 G B).pa h1)) rfl rfl
    · cases h
  | .rev a, sc, X, Wx, ex, h, G, B => by
    unfold chkE at h
    split at h
    · simp only [Bool.and_eq_true, decide_eq_true_eq] at h
      obtain ⟨h1, h2⟩ := h
      subst h1
      exact .of (x_rev G (sndE a h2 G B).pe) rfl rfl
    · cases h
  | .bget i k d, sc, X, Wx, ex, h, G, B => by
    unfold chkE at h
    split at h
    · rw [Bool.and_eq_true_iff, Bool.and_eq_true_iff, Bool.and_eq_true_iff, Bool.and_eq_true_iff, Bool.and_eq_true_iff, Bool.and_eq_true_iff] at h
      obtain ⟨⟨⟨⟨⟨⟨h0, h1⟩, h2⟩, h3⟩, h4⟩, h5⟩, h6⟩ := h
      have := of_decide_eq_true h0
      subst this
      obtain ⟨n1, n2, n3, n4⟩ := nm_of h1
      exact .of (x_bget G n1 (by rw [G.hsc]; exact n2) n3 n4 (sndE k h5 G B).pe (sndE d h6 G B).pe h2 h3 h4) rfl rfl
    · cases h
  | .fld a k, sc, X, Wx, ex, h, G, B => by
    unfold chkE at h
    split at h
    · simp only [Bool.and_eq_true, decide_eq_true_eq] at h
      obtain ⟨⟨⟨rfl, h2⟩, h3⟩, h4⟩ := h
      exact .of (x_fld G (B.flds _ h2) (sndE a h4 G B).pe h3) rfl rfl
    · cases h
  | .prop f c k a, sc, X, Wx, ex, h, G, B => by
    unfold chkE at h
    split at h
    · simp only [Bool.and_eq_true, decide_eq_true_eq] at h
      obtain ⟨⟨⟨rfl, h2⟩, h3⟩, h4⟩ := h
      obtain ⟨ps, F, hl⟩ := prC_of B h2
      exact .of (x_prop G F (sndE a h4 G B).pe h3 hl) rfl rfl
    · cases h
  | .meth f c k a es ds, sc, X, Wx, ex, h, G, B => by
    unfold chkE at h
    split at h
    · simp only [Bool.and_eq_true, decide_eq_true_eq] at h
      obtain ⟨⟨⟨⟨⟨⟨⟨rfl, h2⟩, h3⟩, h4⟩, h5⟩, h6⟩, h7⟩, h8⟩ := h
      obtain ⟨ps, F, hl⟩ := mtC_of B h2
      have q := sndL es h8 G B
      refine .of (x_meth G F (sndE a h7 G B).pe (q.pa h3) h3 h4 h5 h6 hl fun z => ?_) rfl rfl
      subst z
      have := q.length
      cases es with
      | nil => rfl
      | cons _ _ => cases this
    · cases h
  | .make f c es, sc, X, Wx, ex, h, G, B => by
    unfold chkE at h
    split at h
    · simp only [Bool.and_eq_true] at h
      obtain ⟨⟨⟨h1, h2⟩, h3⟩, h4⟩ := h
      obtain ⟨g1, g2⟩ := gl_of G.hsc h1
      obtain ⟨ps, F, hl⟩ := mkC_of B h2
      exact .of (x_make G F g1 g2 ((sndL es h4 G B).pa (by simp only [List.all_cons, Bool.and_eq_true] at h3 ⊢; exact h3)) (by simp only [List.all_cons, Bool.and_eq_true] at h3 ⊢; exact h3) hl) rfl rfl
    · cases h
theorem sndL : ∀ (cs : List CE) {sc : Scope} {X : Cx} {Wx : WX} {es : List Expr}, chkL C sc cs es = true → Gd e C.N sc kk Wx X → Gb e kk Γ C X → OkL X e Wx Γ cs es
  | [], sc, X, Wx, es, h, G, B => by
    unfold chkL at h
    split at h
    · exact .nil
    · cases h
  | c :: cs, sc, X, Wx, es, h, G, B => by
    unfold chkL at h
    split at h
    · simp only [Bool.and_eq_true, Bool.not_eq_true', decide_eq_true_eq, Bool.or_eq_true] at h
      exact .cons (sndE c h.1 G B).pe (sndL cs h.2 G B)
    · cases h
theorem sndK : ∀ (cs : List CE) {sc : Scope} {X : Cx} {Wx : WX} {es : List Keyword}, chkK C sc cs es = true → Gd e C.N sc kk Wx X → Gb e kk Γ C X → OkK X e Wx Γ cs es
  | [], sc, X, Wx, es, h, G, B => by
    unfold chkK at h
    split at h
    · exact .nil
    · cases h
  | c :: cs, sc, X, Wx, es, h, G, B => by
    unfold chkK at h
    split at h
    · simp only [Bool.and_eq_true, Bool.not_eq_true', decide_eq_true_eq, Bool.or_eq_true] at h
      exact .cons (sndE c h.1 G B).pe (sndK cs h.2 G B)
    · cases h
theorem sndO : ∀ (c : Option CE) {sc : Scope} {X : Cx} {Wx : WX} {ex : Option Expr}, chkO C sc c ex = true → Gd e C.N sc kk Wx X → Gb e kk Γ C X → PO X ex (GP.TP e Wx (evP Γ c))
  | none, sc, X, Wx, ex, h, G, B => by
    unfold chkO at h
    split at h
    · exact xp_none
    · cases h
  | some c, sc, X, Wx, ex, h, G, B => by
    unfold chkO at h
    split at h
    · exact xp_some (sndE c h G B).pe
    · cases h
theorem sndC : ∀ (c : Option CT) {sc : Scope} {X : Cx} {Wx : WX} {es : List Expr}, chkC C sc c es = true → Gd e C.N sc kk Wx X → Gb e kk Γ C X → PTs X es (TB e Wx (evC Γ c))
  | none, sc, X, Wx, es, h, G, B => by
    unfold chkC at h
    split at h
    · exact ts_nil
    · cases h
  | some c, sc, X, Wx, es, h, G, B => by
    unfold chkC at h
    split at h
    · exact pts_one (sndT c h G B).pt
    · cases h
theorem sndT : ∀ (c : CT) {sc : Scope} {X : Cx} {Wx : WX} {ex : Expr}, chkT C sc c ex = true → Gd e C.N sc kk Wx X → Gb e kk Γ C X → OkT X e Wx Γ c ex
  | .val c, sc, X, Wx, ex, h, G, B => by
    unfold chkT at h
    rw [Bool.and_eq_true_iff, Bool.or_eq_true] at h
    have q := sndE c h.2 G B
    rcases h.1 with h1 | h1
    · exact .of (xt_val q.pe h1) (by cases ex <;> first | rfl | cases h1)
    · have h2 : isCmp ex = true := by cases ex <;> first | rfl | cases h1
      exact .of (q.pt h2) (by cases ex <;> first | rfl | cases h1)
  | .not t, sc, X, Wx, ex, h, G, B => by
    unfold chkT at h
    split at h
    · exact .of (xt_not (sndT t h G B).pt) rfl
    · cases h
  | .and a b, sc, X, Wx, ex, h, G, B => by
    unfold chkT at h
    split at h
    · simp only [Bool.and_eq_true, Bool.not_eq_true', decide_eq_true_eq, Bool.or_eq_true] at h
      exact .ofW (xw_and (sndT a h.1 G B).pt (pw_and1 (sndT b h.2 G B).pt))
    · simp only [Bool.and_eq_true, Bool.not_eq_true', decide_eq_true_eq, Bool.or_eq_true] at h
      exact .ofW (xw_and (sndT a h.1 G B).pt ((sndT b h.2 G B).pw rfl))
    · cases h
  | .or a b, sc, X, Wx, ex, h, G, B => by
    unfold chkT at h
    split at h
    · simp only [Bool.and_eq_true, Bool.not_eq_true', decide_eq_true_eq, Bool.or_eq_true] at h
      exact .ofW (xw_or (sndT a h.1 G B).pt (pw_or1 (sndT b h.2 G B).pt))
    · simp only [Bool.and_eq_true, Bool.not_eq_true', decide_eq_true_eq, Bool.or_eq_true] at h
      exact .ofW (xw_or (sndT a h.1 G B).pt ((sndT b h.2 G B).pw rfl))
    · cases h
theorem sndI : ∀ (c : CI) {sc : Scope} {X : Cx} {Wx : WX} {tge ex : Expr}, chkI C sc c tge ex = true → Gd e C.N sc kk Wx X → Gb e kk Γ C X → PI X tge ex (TIt e Wx (evI Γ c))
  | .seq c, sc, X, Wx, tge, ex, h, G, B => by
    unfold chkI at h
    exact xi_seq G (sndE c h G B).pe
  | .rng1 a, sc, X, Wx, tge, ex, h, G, B => by
    unfold chkI at h
    split at h
    · simp only [Bool.and_eq_true, Bool.not_eq_true', decide_eq_true_eq, Bool.or_eq_true] at h
      obtain ⟨⟨⟨h1, h2⟩, h3⟩, h4⟩ := h
      subst h1
      obtain ⟨b1, b2⟩ := bn_of G.hsc B h2
      exact xi_rng1 b1 b2 (sndE a h4 G B).pe h3
    · cases h
  | .rng2 a b, sc, X, Wx, tge, ex, h, G, B => by
    unfold chkI at h
    split at h
    · simp only [Bool.and_eq_true, Bool.not_eq_true', decide_eq_true_eq, Bool.or_eq_true] at h
      obtain ⟨⟨⟨⟨⟨h1, h2⟩, h3⟩, h4⟩, h5⟩, h6⟩ := h
      subst h1
      obtain ⟨b1, b2⟩ := bn_of G.hsc B h2
      exact xi_rng2 b1 b2 (sndE a h5 G B).pe (sndE b h6 G B).pe h3 h4
    · cases h
  | .rng3 a b k, sc, X, Wx, tge, ex, h, G, B => by
    unfold chkI at h
    split at h
    · simp only [Bool.and_eq_true, Bool.not_eq_true', decide_eq_true_eq, Bool.or_eq_true] at h
      obtain ⟨⟨⟨⟨⟨⟨⟨h1, h2⟩, h3⟩, h4⟩, h5⟩, h6⟩, h7⟩, h8⟩ := h
      subst h1
      obtain ⟨b1, b2⟩ := bn_of G.hsc B h2
      exact xi_rng3 b1 b2 (sndE a h7 G B).pe (sndE b h8 G B).pe (int_of h6) h3 h4 h5
    · cases h
  | .enm c, sc, X, Wx, tge, ex, h, G, B => by
    unfold chkI at h
    split at h
    · simp only [Bool.and_eq_true, Bool.not_eq_true', decide_eq_true_eq, Bool.or_eq_true] at h
      obtain ⟨⟨⟨h1, h2⟩, h3⟩, h4⟩ := h
      subst h1
      obtain ⟨b1, b2⟩ := bn_of G.hsc B h2
      exact xi_enm G b1 b2 (sndE c h4 G B).pe h3
    · cases h
  | .zip a b, sc, X, Wx, tge, ex, h, G, B => by
    unfold chkI at h
    split at h
    · simp only [Bool.and_eq_true, Bool.not_eq_true', decide_eq_true_eq, Bool.or_eq_true] at h
      obtain ⟨⟨⟨⟨⟨h1, h2⟩, h3⟩, h4⟩, h5⟩, h6⟩ := h
      subst h1
      obtain ⟨b1, b2⟩ := bn_of G.hsc B h2
      exact xi_zip G b1 b2 (sndE a h5 G B).pe (sndE b h6 G B).pe h3 h4
    · cases h
  | .zip3 a b c, sc, X, Wx, tge, ex, h, G, B => by
    unfold chkI at h
    split at h
    · simp only [Bool.and_eq_true, Bool.not_eq_true', decide_eq_true_eq, Bool.or_eq_true] at h
      obtain ⟨⟨⟨⟨⟨⟨⟨h1, h2⟩, h3⟩, h4⟩, h5⟩, h6⟩, h7⟩, h8⟩ := h
      subst h1
      obtain ⟨b1, b2⟩ := bn_of G.hsc B h2
      exact xi_zip3 G b1 b2 (sndE a h6 G B).pe (sndE b h7 G B).pe (sndE c h8 G B).pe h3 h4 h5
    · cases h
  | .items c, sc, X, Wx, tge, ex, h, G, B => by
    unfold chkI at h
    split at h
    · simp only [Bool.and_eq_true, Bool.not_eq_true', decide_eq_true_eq, Bool.or_eq_true] at h
      obtain ⟨⟨⟨h1, h2⟩, h3⟩, h4⟩ := h
      subst h1
      exact xi_items (sndE c h4 G B).pe h2 h3
    · cases h
end
end
end GP

set_option Elab.async false
set_option linter.all false
set_option maxRecDepth 100000
set_option autoImplicit false
set_option maxHeartbeats 4000000

namespace GP
open PySem PySem.Spec L2

def notComp : Expr → Bool
  | .ListComp .. => false
  | .SetComp .. => false
  | .DictComp .. => false
  | _ => true
def parC (sc : Scope) (ts vs : List Expr) : Bool := match swP sc ts vs with
  | some none => true
  | some (some ns) => (match ts, vs with
    | [.Name x _, .Name y _], [_, _] => decide (ns = [x, y]) && decide (sc.names.lookup x = some .local) && decide (sc.names.lookup y = some .local) && decide (x ≠ y)
    | [.Name x _, .Name y _, .Name z _], [_, _, _] => decide (ns = [x, y, z]) && decide (sc.names.lookup x = some .local) && decide (sc.names.lookup y = some .local) && decide (sc.names.lookup z = some .local) && decide (x ≠ y) && decide (x ≠ z) && decide (y ≠ z)
    | _, _ => false)
  | none => false

def namesC (C : Ck) (sc : Scope) : List Expr → Option (List Nat)
  | [] => some []
  | .Name x _ :: es => if glC sc x then (match C.cl.xn.lookup x, namesC C sc es with | some l, some r => some (l ++ r) | _, _ => none) else none
  | _ => none
def tstC (C : Ck) (sc : Scope) (tk : List Nat) : Expr → Bool
  | .Name x _ => glC sc x && decide (C.cl.xn.lookup x = some tk)
  | .Tuple es _ _ => decide (namesC C sc es = some tk) && decide (es.length ≤ 100)
  | _ => false
mutual
def chkS (C : Ck) (sc : Scope) (fa : Bool) : CS → Stmt → Bool
  | .set i c, st => match st with
    | .Assign [.Name x p] a _ => tgC C.N sc (fun _ => fa) i x && (match swB sc a x p with | some false => true | some true => isLc a && decide (sc.names.lookup x = some .local) | none => false) && chkE C sc c a
    | _ => false
  | .unp l c, st => match st with
    | .Assign [.Tuple ts _ _] a _ => tgsC C.N sc (fun _ => fa) l ts && notTup a && chkE C sc c a
    | _ => false
  | .par l cs, st => match st with
    | .Assign [.Tuple ts _ _] (.Tuple vs _ _) _ => tgsC C.N sc (fun _ => fa) l ts && parC sc ts vs && vs.all noStar && decide (vs.length ≤ 8) && chkL C sc cs vs
    | _ => false
  | .pars i j k a b, st => match st with
    | .Assign [.Tuple [.Name x px, .Subscript (.Name y py) (.Constant (.str k') cj pk) ps] _ _] (.Tuple [u, v] _ _) _ =>
      tgC C.N sc (fun _ => fa) i x && nmC C.N sc j y && decide (k = k') && noStar u && noStar v && decide (swP sc [.Name x px, .Subscript (.Name y py) (.Constant (.str k') cj pk) ps] [u, v] = some none) && chkE C sc a u && chkE C sc b v
    | _ => false
  | .sub i k c, st => match st with
    | .Assign [.Subscript (.Name x _) b _] a _ => nmC C.N sc i x && noSl b && chkE C sc k b && chkE C sc c a
    | _ => false
  | .aug i op c, st => match st with
    | .AugAssign (.Name x _) .Add a _ => (match op with | .add => true | _ => false) && tgC C.N sc (fun _ => fa) i x && chkE C sc c a
    | _ => false
  | .app i c, st => match st with
    | .Expr (.Call (.Attribute (.Name x _) n ap) [a] [] p) _ => decide (n = ("append" : Str)) && nmC C.N sc i x && noStar a && (ap.endLine == p.line) && chkE C sc c a
    | _ => false
  | .ext i c, st => match st with
    | .Expr (.Call (.Attribute (.Name x _) n ap) [a] [] p) _ => decide (n = ("extend" : Str)) && nmC C.N sc i x && noStar a && (ap.endLine == p.line) && chkE C sc c a
    | _ => false
  | .expr c, st => match st with | .Expr a _ => notComp a && chkE C sc c a | _ => false
  | .ret c, st => match st with | .Return (some a) _ => chkE C sc c a | _ => false
  | .retN, st => match st with | .Return none _ => true | _ => false
  | .ite t a b, st => match st with | .If t' as bs _ => chkT C sc t t' && chkSs C sc fa a as && chkSs C sc fa b bs | _ => false
  | .for_ tg it body, st => match st with | .For tge ite sts [] _ => chkI C sc it tge ite && notSet ite && cgC C.N sc (fun _ => fa) tg tge && chkSs C sc fa body sts | _ => false
  | .whl t body, st => match st with | .While t' sts [] _ => chkT C sc t t' && chkSs C sc fa body sts | _ => false
  | .cont, st => match st with | .Continue _ => true | _ => false
  | .pass, st => match st with | .Pass _ => true | _ => false
  | .raise _, _ => true
  | .rais c n es, st => match st with
    | .Raise (some (.Call (.Name x _) (y :: l) [] _)) none _ => glC sc x && decide ((c, n, x) ∈ C.cl.xm) && (y :: l).all noStar && chkL C sc es (y :: l)
    | _ => false
  | .fst o k c, st => match st with
    | .Assign [.Attribute x n _] a _ => decide (n = k) && decide (k ∈ C.cl.fl) && chkE C sc o x && chkE C sc c a
    | _ => false
  | .tryg body tk g, st => match st with
    | .Try sts [.ExceptHandler (some t) none [.Return (some (.Name y _)) _] _] [] [] _ => (match g with | .glob i => glC sc y && decide (C.gn i = some y) | _ => false) && tstC C sc tk t && chkSs C sc fa body sts
    | _ => false
def chkSs (C : Ck) (sc : Scope) (fa : Bool) : List CS → List Stmt → Bool
  | [], sts => match sts with | [] => true | _ => false
  | c :: cs, sts => match sts with | st :: sts => chkS C sc fa c st && chkSs C sc fa cs sts | [] => false
end

section
variable {e : En} {kk : Nat} {Γ : Ctx} {C : Ck} {sc : Scope} {fa : Bool} {X : Cx} {Wx : WX}

structure GS (e : En) (kk : Nat) (Γ : Ctx) (C : Ck) (sc : Scope) (fa : Bool) (Wx : WX) (X : Cx) : Prop where
  g : Gd e C.N sc kk Wx X
  b : Gb e kk Γ C X
  f : ∀ y, fa = true → X.fn y = true
  k : sc.kind = .function
  hs : X.stack = X.env :: X.outer
  hf : X.env.frame = some X.env.locals
  hk : 2 ≤ kk
theorem GS.tr (G : GS e kk Γ C sc fa Wx X) {W : WX} (pn : List (Addr × Obj)) (xe : Value → Shared → Prop) (tk : Takes (X.tr pn xe) W) (po : PassesOwn (model X.prog X.w) X.A X.env xe) : GS e kk Γ C sc fa W (X.tr pn xe) :=
  ⟨⟨G.g.hK, G.g.room, G.g.gds, G.g.calm, G.g.hN, G.g.nd, G.g.hsc, po, tk⟩, G.b.tr pn xe, G.f, G.k, G.hs, G.hf, G.hk⟩
theorem lk_mem {α : Type} {l : List (Str × α)} {k : Str} {v : α} (h : l.lookup k = some v) : (k, v) ∈ l := by
  induction l with
  | nil => cases h
  | cons a l ih =>
    rw [List.lookup_cons] at h
    by_cases q : k = a.1
    · rw [beq_iff_eq.mpr q] at h; cases h; rw [q]; exact List.mem_cons_self
    · rw [beq_eq_false_iff_ne.mpr q] at h; exact List.mem_cons_of_mem _ (ih h)
theorem namesC_of (G : GS e kk Γ C sc fa Wx X) : ∀ {es : List Expr} {tk : List Nat}, namesC C sc es = some tk → ∃ cs, NamesL X es cs ∧ cs.length = es.length ∧ ∀ i D, e.cls i = some D → PySem.W.exmAny X.K (.ref D) cs = some (tk.contains i)
  | [], tk, h => by cases h; exact ⟨[], .nil, rfl, fun i D _ => rfl⟩
  | ex :: es, tk, h => by
    unfold namesC at h
    split at h
    · rename_i q; cases q
    · rename_i x p es' q
      cases q
      split at h
      · rename_i hg
        split at h
        · rename_i l r h1 h2
          cases h
          obtain ⟨cs, i1, i2, i3⟩ := namesC_of G h2
          obtain ⟨v, k1, k2⟩ := G.b.xns _ (lk_mem h1)
          obtain ⟨g1, g2⟩ := gl_of G.g.hsc hg
          refine ⟨v :: cs, .cons ⟨g1, g2, .inl k1⟩ i1, by rw [List.length_cons, List.length_cons, i2], fun i D hD => ?_⟩
          have z1 := k2 i D hD
          have z2 := i3 i D hD
          rw [← G.g.hK] at z1
          unfold PySem.W.exmAny
          rw [z1, z2]
          show some (l.contains i || r.contains i) = some ((l ++ r).contains i)
          congr 1
          simp [List.contains_eq_any_beq, List.any_append]
        · cases h
      · cases h
    · cases h
theorem tstC_of (G : GS e kk Γ C sc fa Wx X) {t : Expr} {tk : List Nat} (h : tstC C sc tk t = true) : ∃ tt, TstR X t tt ∧ ∀ c D, e.cls c = some D → tt (.ref D) = some (tk.contains c) := by
  unfold tstC at h
  split at h
  · simp only [Bool.and_eq_true, decide_eq_true_eq] at h
    obtain ⟨v, k1, k2⟩ := G.b.xns _ (lk_mem h.2)
    obtain ⟨g1, g2⟩ := gl_of G.g.hsc h.1
    exact ⟨_, tst_name ⟨g1, g2, .inl k1⟩, fun c D hD => by rw [G.g.hK]; exact k2 c D hD⟩
  · simp only [Bool.and_eq_true, decide_eq_true_eq] at h
    obtain ⟨cs, i1, i2, i3⟩ := namesC_of G h.1
    exact ⟨_, tst_tup i1 (by rw [i2]; exact Nat.le_trans h.2 (by decide)), i3⟩
  · cases h
theorem GS.kX (G : GS e kk Γ C sc fa Wx X) : X.env.scope.kind = .function := by rw [G.g.hsc]; exact G.k
theorem nameR_of (G : GS e kk Γ C sc fa Wx X) {i : Nat} {x : Str} (h : nmC C.N sc i x = true) : nameR X x i := by
  obtain ⟨h1, h2, h3, h4⟩ := nm_of h
  exact ⟨by rw [G.g.hN]; exact h1, by rw [G.g.hsc]; exact h2, h3, h4⟩
theorem GS.tg (G : GS e kk Γ C sc fa Wx X) {i : Nat} {x : Str} (h : tgC C.N sc (fun _ => fa) i x = true) : Tg1 X x i := tg_of G.g.hsc G.g.hN G.f h
theorem z_par (G : GS e kk Γ C sc fa Wx X) {l : List Nat} {cs : List CE} {ts vs : List Expr} {kt k2 : Nat} {pt pt2 pos : Pos} (h1 : tgsC C.N sc (fun _ => fa) l ts = true) (h2 : parC sc ts vs = true) (h3 : vs.all noStar = true) (h4 : vs.length ≤ 8) (hl : OkL X e Wx Γ cs vs) :
    PS X (.Assign [.Tuple ts kt pt] (.Tuple vs k2 pt2) pos) (TSt e Wx (parR (evOs Γ cs) l)) := by
  have t := tgs_of G.g.hsc G.g.hN G.f h1
  have ha := hl.pas h3
  have hsc := G.g.hsc
  unfold parC at h2
  split at h2
  · rename_i hw
    refine z_parT G.g G.kX t ha (Nat.le_trans h4 (by decide)) (by rw [hsc]; exact hw) fun s ds s' q => ?_
    rw [evOs_len _ _ _ _ q, hl.length]
  · rename_i ns hw
    split at h2
    · simp only [Bool.and_eq_true, decide_eq_true_eq] at h2
      obtain ⟨⟨⟨e1, e2⟩, e3⟩, e4⟩ := h2
      subst e1
      cases l with
      | nil => cases h1
      | cons i l => cases l with
        | nil => simp [tgsC] at h1
        | cons j l => cases l with
          | cons _ _ => simp [tgsC] at h1
          | nil =>
            simp only [tgsC, Bool.and_eq_true] at h1
            exact z_par2 G.g (G.tg h1.1) (G.tg h1.2.1) G.kX ha (by rw [hsc]; exact e2) (by rw [hsc]; exact e3) e4 (by rw [hsc]; exact hw)
    · simp only [Bool.and_eq_true, decide_eq_true_eq] at h2
      obtain ⟨⟨⟨⟨⟨⟨e1, e2⟩, e3⟩, e4⟩, e5⟩, e6⟩, e7⟩ := h2
      subst e1
      cases l with
      | nil => cases h1
      | cons i l => cases l with
        | nil => simp [tgsC] at h1
        | cons j l => cases l with
          | nil => simp [tgsC] at h1
          | cons n l => cases l with
            | cons _ _ => simp [tgsC] at h1
            | nil =>
              simp only [tgsC, Bool.and_eq_true] at h1
              exact z_par3 G.g (G.tg h1.1) (G.tg h1.2.1) (G.tg h1.2.2.1) G.kX ha (by rw [hsc]; exact e2) (by rw [hsc]; exact e3) (by rw [hsc]; exact e4) e5 e6 e7 (by rw [hsc]; exact hw)
    · cases h2
  · cases h2
theorem aug_eq {i : Nat} {c : CE} : evS Γ (.aug i .add c) = fun s => match s.ρ[i]? with
    | some (.val (.int v)) => bnd (frz (evO Γ c s)) fun d s1 => (match d with
      | .int b => okv .nx (s1.put i (.val (.int (v + b))))
      | _ => none)
    | _ => none := by
  funext s
  unfold evS
  cases s.ρ[i]? with
  | none => rfl
  | some sl => cases sl with
    | val d => cases d with
      | int v =>
        show bnd _ _ = bnd _ _
        congr 1
        funext d s1
        cases d <;> rfl
      | _ => rfl
    | _ => rfl
mutual
theorem sndS : ∀ (c : CS) {sc : Scope} {fa : Bool} {X : Cx} {Wx : WX} {st : Stmt}, chkS C sc fa c st = true → GS e kk Γ C sc fa Wx X → PS X st (TSt e Wx (evS Γ c))
  | .set i c, sc, fa, X, Wx, st, h, G => by
    unfold chkS at h
    split at h
    · rw [Bool.and_eq_true_iff, Bool.and_eq_true_iff] at h
      obtain ⟨⟨h1, h2⟩, h3⟩ := h
      have q := sndE c h3 G.g G.b
      have t := G.tg h1
      split at h2
      · rename_i hs
        exact z_set G.g t q.pe (swB_of G.kX (by rw [G.g.hsc]; exact hs))
      · rename_i hs
        rw [Bool.and_eq_true_iff] at h2
        exact q.lc h2.1 _ _ _ _ t (by rw [G.g.hsc]; exact of_decide_eq_true h2.2) (swB_of G.kX (by rw [G.g.hsc]; exact hs))
      · cases h2
    · cases h
  | .unp l c, sc, fa, X, Wx, st, h, G => by
    unfold chkS at h
    split at h
    · rw [Bool.and_eq_true_iff, Bool.and_eq_true_iff] at h
      obtain ⟨⟨h1, h2⟩, h3⟩ := h
      exact z_unp G.g (tgs_of G.g.hsc G.g.hN G.f h1) (sndE c h3 G.g G.b).pe h2
    · cases h
  | .par l cs, sc, fa, X, Wx, st, h, G => by
    unfold chkS at h
    split at h
    · rw [Bool.and_eq_true_iff, Bool.and_eq_true_iff, Bool.and_eq_true_iff, Bool.and_eq_true_iff] at h
      obtain ⟨⟨⟨⟨h1, h2⟩, h3⟩, h4⟩, h5⟩ := h
      exact z_par G h1 h2 h3 (of_decide_eq_true h4) (sndL cs h5 G.g G.b)
    · cases h
  | .pars i j k a b, sc, fa, X, Wx, st, h, G => by
    unfold chkS at h
    split at h
    · rw [Bool.and_eq_true_iff, Bool.and_eq_true_iff, Bool.and_eq_true_iff, Bool.and_eq_true_iff, Bool.and_eq_true_iff, Bool.and_eq_true_iff, Bool.and_eq_true_iff] at h
      obtain ⟨⟨⟨⟨⟨⟨⟨h1, h2⟩, h3⟩, h4⟩, h5⟩, h6⟩, h7⟩, h8⟩ := h
      have := of_decide_eq_true h3
      subst this
      exact z_pars G.g G.kX (G.tg h1) (nameR_of G h2) (sndE a h7 G.g G.b).pe (sndE b h8 G.g G.b).pe h4 h5 (by rw [G.g.hsc]; exact of_decide_eq_true h6)
    · cases h
  | .sub i k c, sc, fa, X, Wx, st, h, G => by
    unfold chkS at h
    split at h
    · rw [Bool.and_eq_true_iff, Bool.and_eq_true_iff, Bool.and_eq_true_iff] at h
      obtain ⟨⟨⟨h1, h2⟩, h3⟩, h4⟩ := h
      exact z_sub G.g (nameR_of G h1) (sndE k h3 G.g G.b).pe (sndE c h4 G.g G.b).pe h2
    · cases h
  | .aug i op c, sc, fa, X, Wx, st, h, G => by
    unfold chkS at h
    split at h
    · rw [Bool.and_eq_true_iff, Bool.and_eq_true_iff] at h
      obtain ⟨⟨h1, h2⟩, h3⟩ := h
      cases op <;> first | (cases h1; done) | skip
      rw [aug_eq]
      exact z_aug G.g (G.tg h2) (sndE c h3 G.g G.b).pe
    · cases h
  | .app i c, sc, fa, X, Wx, st, h, G => by
    unfold chkS at h
    split at h
    · rw [Bool.and_eq_true_iff, Bool.and_eq_true_iff, Bool.and_eq_true_iff, Bool.and_eq_true_iff] at h
      obtain ⟨⟨⟨⟨h1, h2⟩, h3⟩, h4⟩, h5⟩ := h
      have := of_decide_eq_true h1
      subst this
      exact z_app G.g (nameR_of G h2) (sndE c h5 G.g G.b).pe h3 h4
    · cases h
  | .ext i c, sc, fa, X, Wx, st, h, G => by
    unfold chkS at h
    split at h
    · rw [Bool.and_eq_true_iff, Bool.and_eq_true_iff, Bool.and_eq_true_iff, Bool.and_eq_true_iff] at h
      obtain ⟨⟨⟨⟨h1, h2⟩, h3⟩, h4⟩, h5⟩ := h
      have := of_decide_eq_true h1
      subst this
      exact z_ext G.g (nameR_of G h2) (sndE c h5 G.g G.b).pe h3 h4
    · cases h
  | .expr c, sc, fa, X, Wx, st, h, G => by
    unfold chkS at h
    split at h
    · rw [Bool.and_eq_true_iff] at h
      exact z_expr (sndE c h.2 G.g G.b).pe (by have := h.1; revert this; rename_i a _; cases a <;> intro h1 <;> first | rfl | cases h1)
    · cases h
  | .ret c, sc, fa, X, Wx, st, h, G => by
    unfold chkS at h
    split at h
    · exact z_ret (sndE c h G.g G.b).pe
    · cases h
  | .retN, sc, fa, X, Wx, st, h, G => by
    unfold chkS at h
    split at h
    · exact z_retN
    · cases h
  | .ite t a b, sc, fa, X, Wx, st, h, G => by
    unfold chkS at h
    split at h
    · rw [Bool.and_eq_true_iff, Bool.and_eq_true_iff] at h
      obtain ⟨⟨h1, h2⟩, h3⟩ := h
      exact z_if (sndT t h1 G.g G.b).pt (sndSs a h2 G) (sndSs b h3 G)
    · cases h
  | .for_ tg it body, sc, fa, X, Wx, st, h, G => by
    unfold chkS at h
    split at h
    · rw [Bool.and_eq_true_iff, Bool.and_eq_true_iff, Bool.and_eq_true_iff] at h
      obtain ⟨⟨⟨h1, h2⟩, h3⟩, h4⟩ := h
      exact z_for G.g (sndI it h1 G.g G.b) (cg_of G.g.hsc G.g.hN G.g.calm G.g.ndX G.f h3) (sndSs body h4 G) h2
    · cases h
  | .whl t body, sc, fa, X, Wx, st, h, G => by
    unfold chkS at h
    split at h
    · rw [Bool.and_eq_true_iff] at h
      exact z_while G.g (sndT t h.1 G.g G.b).pt (sndSs body h.2 G)
    · cases h
  | .cont, sc, fa, X, Wx, st, h, G => by
    unfold chkS at h
    split at h
    · exact z_cont
    · cases h
  | .pass, sc, fa, X, Wx, st, h, G => by
    unfold chkS at h
    split at h
    · exact z_pass
    · cases h
  | .rais c n es, sc, fa, X, Wx, st, h, G => by
    unfold chkS at h
    split at h
    · rename_i x p y l p2 p3
      rw [Bool.and_eq_true_iff, Bool.and_eq_true_iff, Bool.and_eq_true_iff] at h
      obtain ⟨⟨⟨h1, h2⟩, h3⟩, h4⟩ := h
      obtain ⟨g1, g2⟩ := gl_of G.g.hsc h1
      exact z_rais G.g (G.b.xms _ (of_decide_eq_true h2)) G.hk g1 g2 h3 ((sndL es h4 G.g G.b).pa h3)
    · cases h
  | .fst o k c, sc, fa, X, Wx, st, h, G => by
    unfold chkS at h
    split at h
    · rw [Bool.and_eq_true_iff, Bool.and_eq_true_iff, Bool.and_eq_true_iff] at h
      obtain ⟨⟨⟨h1, h2⟩, h3⟩, h4⟩ := h
      cases of_decide_eq_true h1
      exact z_fst G.g (G.b.flds _ (of_decide_eq_true h2)) (sndE c h4 G.g G.b).pe (sndE o h3 G.g G.b).pe
    · cases h
  | .tryg body tk g, sc, fa, X, Wx, st, h, G => by
    unfold chkS at h
    split at h
    · rw [Bool.and_eq_true_iff, Bool.and_eq_true_iff] at h
      obtain ⟨⟨h1, h2⟩, h3⟩ := h
      obtain ⟨tt, t1, t2⟩ := tstC_of G h2
      split at h1
      · rename_i i
        rw [Bool.and_eq_true_iff] at h1
        obtain ⟨g1, g2⟩ := gl_of G.g.hsc h1.1
        obtain ⟨u, v, d, q3, q4, q5, q6⟩ := G.b.gcs i _ (of_decide_eq_true h1.2)
        have hu : X.A.units + 10 < cLine := by have := G.g.hu; omega
        have key : evS Γ (.tryg body tk (.glob i)) = tryR (evSs Γ body) tk (evO Γ (.glob i)) := by
          funext s
          unfold evS tryR
          rfl
        rw [key]
        exact z_tryg G.hs G.hf G.g.tk t1 t2 (fun W pn xe tkW po => sndSs body h3 (G.tr pn xe tkW po)) (fun a oe pn => x_glob (pe_glob g1 q3 q4 g2) q5 q6) fun s x s' z => by
          unfold evO at z
          rw [q5] at z
          cases z
      · cases h1
    · cases h
  | .raise _, sc, fa, X, Wx, st, h, G => PS.imp ps_never fun Z σ H ⟨m, s, f, w⟩ => w
theorem sndSs : ∀ (cs : List CS) {sc : Scope} {fa : Bool} {X : Cx} {Wx : WX} {sts : List Stmt}, chkSs C sc fa cs sts = true → GS e kk Γ C sc fa Wx X → PSs X sts (TSt e Wx (evSs Γ cs))
  | [], sc, fa, X, Wx, sts, h, G => by
    unfold chkSs at h
    split at h
    · exact z_nil
    · cases h
  | c :: cs, sc, fa, X, Wx, sts, h, G => by
    unfold chkSs at h
    split at h
    · rw [Bool.and_eq_true_iff] at h
      exact z_cons (sndS c h.1 G) (sndSs cs h.2 G)
    · cases h
end
end
end GP

set_option Elab.async false
set_option linter.all false
set_option maxRecDepth 100000
set_option autoImplicit false
set_option maxHeartbeats 4000000

namespace GP
open PySem PySem.Spec L2


structure FE where
  name : Str
  ps : List Str
  N : List Str
  fn : Fn
  q : Option Str := none
def FE.top (r : FE) : Bool := r.q.isNone
def ckOf (tab : List (Nat × FE)) (gn : Nat → Option Str) (bl : List Str) (cl : Cl) (N : List Str) : Ck := ⟨N, fun f => match tab.lookup f with | some r => if r.top then some (r.name, r.ps) else none | none => none, gn, bl, cl⟩
def argsC (a : Arguments) (ps : List Str) : Bool := a.posonlyargs.isEmpty && decide (a.args.map (fun x => x.arg) = ps) && a.vararg.isNone && a.kwonlyargs.isEmpty && a.kwarg.isNone && decide ps.Nodup
def fnC (tab : List (Nat × FE)) (gn : Nat → Option Str) (bl : List Str) (cl : Cl) (r : FE) (st : Stmt) : Bool :=
  argsC (C8.fnArgs st) r.ps && C8.scC r.N r.ps (C8.fnScope st) && decide (r.fn.np = r.ps.length) && decide (r.fn.ns = r.N.length) && chkSs (ckOf tab gn bl cl r.N) (C8.fnScope st) true r.fn.body (C8.fnBody st)

section
variable {P : Program} {w : World} {mg : Str → Option Value} {base : Heap} {e : En} {k : Nat}
theorem start_fm {m : List Addr} {H : Hp} {N : List Str} {vs : List V} {ds : List D} {W : List WO} {n : Nat} (hl : vs.length ≤ N.length) (hn : n = N.length - vs.length) (hd : DatL e m H vs ds) (f : Fm e [] H m (worldS W)) : Fm e (L2.start N vs) H m ⟨ds.map .val ++ List.replicate n .emp, W⟩ ∧ ∀ i a, ¬ OwnAt (L2.start N vs) ⟨ds.map .val ++ List.replicate n .emp, W⟩ i a := by
  have no : ∀ i a, ¬ OwnAt (L2.start N vs) ⟨ds.map .val ++ List.replicate n .emp, W⟩ i a := by
    rintro i a ⟨_, sl, hs, ho⟩
    have hs : (ds.map Sl.val ++ List.replicate n Sl.emp)[i]? = some sl := hs
    by_cases hi : i < ds.length
    · rw [List.getElem?_append_left (by simpa using hi), List.getElem?_map] at hs
      cases q : ds[i]? <;> rw [q] at hs <;> cases hs
      cases ho
    · rw [List.getElem?_append_right (by simpa using hi), List.getElem?_replicate] at hs
      split at hs <;> cases hs
      cases ho
  refine ⟨⟨?_, fun i sl hs => ?_, f.wl, f.wok, f.wn, fun i j a h => (no i a h).elim, fun i a h => (no i a h).elim⟩, no⟩
  · unfold L2.start
    show _ = (ds.map Sl.val ++ List.replicate n Sl.emp).length
    simp only [List.length_append, List.length_map, List.length_replicate, hd.length, hn]
  · have hs : (ds.map Sl.val ++ List.replicate n Sl.emp)[i]? = some sl := hs
    by_cases hi : i < ds.length
    · rw [List.getElem?_append_left (by simpa using hi), List.getElem?_map] at hs
      cases q : ds[i]? <;> rw [q] at hs <;> cases hs
      obtain ⟨v, hv, hd'⟩ := hd.get q
      refine ⟨v, ?_, hd'⟩
      unfold L2.start
      rw [List.getElem?_append_left (by simpa [hd.length] using hi), List.getElem?_map, hv]; rfl
    · rw [List.getElem?_append_right (by simpa using hi), List.getElem?_replicate] at hs
      split at hs <;> cases hs
      trivial

theorem Evo.down {σ σ' : St} {m m' : List Addr} {s s' : S} {H H' : Hp} (no : ∀ i a, ¬ OwnAt σ s i a) (v : Evo σ m s H σ' m' s' H') : Evo [] m (worldS s.W) H [] m' (worldS s'.W) H' :=
  ⟨fun b o h n => v.keep b o h fun x => n (by rcases x with x | ⟨i, x⟩; exact .inl x; exact (no i b x).elim), fun b x => (v.grow b (.inl (wr_nil x))).imp (fun y => by rcases y with y | ⟨i, y⟩; exact .inl y; exact (no i b y).elim) id, v.wm, v.there⟩

structure DefR (K : PySem.W.Frag) (tab : List (Nat × FE)) (gn : Nat → Option Str) (bl : List Str) (cl : Cl) (r : FE) (fa : Addr) (fd : FuncData) : Prop where
  ex : ∃ (st : Stmt) (qual : Str), C8.Fun K r.name qual st fa fd ∧ fnC tab gn bl cl r st = true
theorem DefR.simple {K : PySem.W.Frag} {tab : List (Nat × FE)} {gn : Nat → Option Str} {bl : List Str} {cl : Cl} {r : FE} {fa : Addr} {fd : FuncData} (d : DefR K tab gn bl cl r fa fd) (df : fd.defaults = .none) : Simple fd r.ps := by
  obtain ⟨st, qual, hd, hc⟩ := d.ex
  obtain ⟨oc, od, dV, kV, doc, pm, an, cdv, ct, osl, rfl, lk, hcd⟩ := hd.ex
  unfold fnC at hc
  simp only [Bool.and_eq_true] at hc
  obtain ⟨⟨⟨⟨h1, _⟩, _⟩, _⟩, _⟩ := hc
  unfold argsC at h1
  simp only [Bool.and_eq_true, decide_eq_true_eq, List.isEmpty_iff, Option.isNone_iff_eq_none] at h1
  obtain ⟨⟨⟨⟨⟨a1, a2⟩, a3⟩, a4⟩, a5⟩, a6⟩ := h1
  exact ⟨a1, a2, a3, a4, a5, df, a6⟩

structure XmR (K : PySem.W.Frag) (mg : Str → Option Value) (e : En) (c n : Nat) (x : Str) : Prop where
  ex : ∃ (B nw ini : String) (bm : List Value) (C fI : Addr) (fd : FuncData) (ps fs : List Str), GX.Bas B nw ini bm ∧ XCls K C nw bm ∧ PySem.W.findIn K (.ref C) "__init__" = some (some (.ref fI)) ∧ PySem.W.typeIn K (.ref fI) = some (.type "function") ∧
    (∀ (P : Program) (w : World) (base : Heap), FnOk P w K mg base (L2.CX P w) 1 fI fd ps (iSp C fs)) ∧ Binds K fd ps [] ∧ mg x = some (.ref C) ∧ fs ≠ [] ∧ e.cls c = some C ∧ e.fld c = fs.reverse ∧ fs.length = n ∧ n ≤ 1000
structure Env1 (K : PySem.W.Frag) (mg : Str → Option Value) (e : En) (tab : List (Nat × FE)) (gn : Nat → Option Str) (gc : Nat → Option D) (bl : List Str) (cl : Cl) : Prop where
  hK : e.K = K
  defs : ∀ (f : Nat) (r : FE), tab.lookup f = some r → r.top = true → ∃ fa fd, DefR K tab gn bl cl r fa fd ∧ fd.defaults = .none ∧ mg r.name = some (.ref fa) ∧ PySem.W.keepIn K (.ref fa) = true
  gcs : ∀ g x, gn g = some x → ∃ (u : Value) (v : V) (d : D), mg x = some u ∧ RelV v u ∧ gc g = some d ∧ ∀ m H, Dat e m H v d
  bls : ∀ x ∈ bl, mg x = none
  flds : ∀ k ∈ cl.fl, ∀ c D, e.ins c = some D → Cls e.K D ∧ NoAttr e.K D k
  prs : ∀ r ∈ cl.pr, ∃ (row : FE) (C p g : Addr) (fd : FuncData), tab.lookup r.1 = some row ∧ row.ps = r.2.2.2 ∧ e.ins r.2.1 = some C ∧ Cls K C ∧ PropOf K C r.2.2.1 p g ∧ DefR K tab gn bl cl row g fd ∧ fd.defaults = .none
  mts : ∀ r ∈ cl.mt, ∃ (row : FE) (C g : Addr) (fd : FuncData) (dv : List V) (du : List Value), tab.lookup r.1 = some row ∧ row.ps = r.2.2.2.1 ∧ e.ins r.2.1 = some C ∧ Cls K C ∧ Meth K C r.2.2.1 g ∧ DefR K tab gn bl cl row g fd ∧ Binds K fd row.ps du ∧ Vals dv du ∧ ∀ m H, DatL e m H dv r.2.2.2.2
  mas : ∀ r ∈ cl.ma, ∃ (row : FE) (C g : Addr) (fd : FuncData), tab.lookup r.1 = some row ∧ row.ps = r.2.2.2 ∧ e.ins r.2.1 = some C ∧ mg r.2.2.1 = some (.ref C) ∧ Mk K C g ∧ DefR K tab gn bl cl row g fd ∧ fd.defaults = .none
  xms : ∀ r ∈ cl.xm, XmR K mg e r.1 r.2.1 r.2.2
  xns : ∀ r ∈ cl.xn, ∃ v, mg r.1 = some v ∧ ∀ i D, e.cls i = some D → PySem.W.exmOne K (.ref D) v = some (r.2.contains i)
theorem callK_len {T : Nat → Option Fn} {gc : Nat → Option D} {F : Fn} {f : Nat} (hT : T f = some F) : ∀ (k : Nat) (ds : List D) (W : List WO) (o : Out D × List WO), callK T gc k f ds W = some o → ds.length = F.np
  | 0, ds, W, o, h => by cases h
  | k + 1, ds, W, o, h => by
    unfold callK at h
    rw [hT] at h
    dsimp only at h
    split at h
    · assumption
    · cases h
def tabT (tab : List (Nat × FE)) : Nat → Option Fn := fun f => (tab.lookup f).map fun r => r.fn
theorem simple_binds {K : PySem.W.Frag} {fd : FuncData} {ps : List Str} (S : Simple fd ps) : Binds K fd ps [] := Binds.all fun us hl => bind_pos S hl
theorem np_of {tab : List (Nat × FE)} {gn : Nat → Option Str} {gc : Nat → Option D} {bl : List Str} {cl : Cl} {K : PySem.W.Frag} {k f : Nat} {r : FE} {fa : Addr} {fd : FuncData} (hf : tab.lookup f = some r) (d : DefR K tab gn bl cl r fa fd) :
    ∀ ds W o, callK (tabT tab) gc k f ds W = some o → ds.length = r.ps.length := fun ds W o h => by
  obtain ⟨st', qual', hd', hc'⟩ := d.ex
  have np' : r.fn.np = r.ps.length := by
    unfold fnC at hc'
    simp only [Bool.and_eq_true, decide_eq_true_eq] at hc'
    exact hc'.1.1.2
  rw [← np']
  exact callK_len (by unfold tabT; rw [hf]; rfl) k ds W o h
theorem FnG.mono {j k : Nat} {f : Addr} {fd : FuncData} {ps : List Str} {sp : Sp} {K : PySem.W.Frag} (F : FnG P w K mg base j f fd ps sp) (h : j ≤ k) : FnG P w K mg base k f fd ps sp :=
  ⟨F.len, fun A outer s H args us vs Q E hr => F.run A outer s H args us vs Q E (hr.mono h)⟩
theorem fn_all {K : PySem.W.Frag} {tab : List (Nat × FE)} {gn : Nat → Option Str} {gc : Nat → Option D} {bl : List Str} {cl : Cl} (E1 : Env1 K mg e tab gn gc bl cl) : ∀ (k : Nat) (f : Nat) (r : FE) (fa : Addr) (fd : FuncData), tab.lookup f = some r → DefR K tab gn bl cl r fa fd →
    FnG P w K mg base (2 * k + 2) fa fd r.ps (spG e r.ps.length (callK (tabT tab) gc k f))
  | 0, f, r, fa, fd, hf, d => ⟨fun vs H Q E h => by obtain ⟨m, ds, W, hl, _⟩ := h; exact hl, fun A outer s H args us vs Q E _ _ _ _ _ h => by
      obtain ⟨m, ds, W, _, _, _, h⟩ := h
      exact False.elim h⟩
  | k + 1, f, r, fa, fd, hf, d => by
    have rec_ := fn_all E1 k
    obtain ⟨st, qual, hd, hc⟩ := d.ex
    obtain ⟨oc, od, dV, kV, doc, pm, an, cdv, ct, osl, rfl, lk, hcd⟩ := hd.ex
    unfold fnC at hc
    simp only [Bool.and_eq_true, decide_eq_true_eq] at hc
    obtain ⟨⟨⟨⟨h1, h2⟩, h3⟩, h4⟩, h5⟩ := hc
    have FS := C8.fnScope_by h2
    refine ⟨fun vs H Q E h => by obtain ⟨m, ds, W, hl, _⟩ := h; exact hl, fun A outer s H args us vs Q E hr hg e0 hb rv hsp => ?_⟩
    obtain ⟨m, ds, W, hl, hdl, fm, hsp⟩ := hsp
    have KX : K.In s.heap := e0.mod.kin.keeps fun b o e => (e0.bs b o e).1
    have lim : s.heap.NoLimit := e0.mod.nolimit.keeps fun b o e => (e0.bs b o e).1
    have hkind : ∀ y ∈ r.ps.zip us, (C8.fnScope st).names.lookup y.1 = some .local ∨ ((C8.fnScope st).names.lookup y.1 = some .cell ∧ ((cellsFrom (s.heap.objs.size + 1) (C8.fnScope st).names []).lookup y.1).isSome = true) := fun ⟨n, v⟩ hy => by
      rcases FS.par n (List.of_mem_zip hy).1 with q | q
      · exact .inl q
      · exact .inr ⟨q, PySem.W.cellsFrom_some _ _ _ (.inl q)⟩
    refine codeAny_call_function hr.depth (KX _ _ lk) rfl FS.co FS.gen rfl (PySem.W.codeRec_of KX hcd) (hb _ _ _ _ ?_)
    refine wpAny_newFunctionEnv_cells FS.kind hkind fun env he s1 x => ?_
    subst he
    refine ⟨lim.keeps x.toInCall.keep, codeAny_func ?_⟩
    have I := inv_start (CX := L2.CX P w) (E := E) FS hr.hd e0 hl rv x
    have hT : tabT tab f = some r.fn := by unfold tabT; rw [hf]; rfl
    have hNl : vs.length ≤ r.N.length := by rw [hl]; have := congrArg List.length FS.pre; rw [List.length_take] at this; omega
    obtain ⟨fm0, no⟩ := start_fm (N := r.N) (n := r.fn.ns - r.fn.np) hNl (by rw [h4, h3, hl]) hdl fm
    have hr2 : Room (2 * k + 3 + 1) A := hr.mono (by omega)
    have GSX : GS e (2 * k + 3) ⟨callK (tabT tab) gc k, gc⟩ (ckOf tab gn bl cl r.N) (C8.fnScope st) true (fun cls d _ H => E cls d H) (cxOf (L2.CX P w) P w K mg base r.N qual (C8.fnScope st) fa cdv A outer s H E) :=
      ⟨⟨E1.hK.symm, hr2.deeper _, guards_deeper hg, rfl, rfl, FS.nd, rfl, passes_of rfl, takes_of rfl rfl rfl rfl⟩,
       ⟨(fun f' x ps hfx => by
          have hfx : (match tab.lookup f' with | some r => if r.top then some (r.name, r.ps) else none | none => none) = some (x, ps) := hfx
          split at hfx
          · rename_i r' hr'
            split at hfx
            · rename_i htop
              cases hfx
              obtain ⟨fa', fd', d', df, hmg, hkp⟩ := E1.defs f' r' hr' htop
              exact ⟨⟨⟨fa', fd', (rec_ f' r' fa' fd' hr' d').mono (by omega), d'.simple df, hmg, hkp⟩⟩, np_of hr' d'⟩
            · cases hfx
          · cases hfx),
        E1.gcs, E1.bls, E1.flds,
        fun r hr => by
          obtain ⟨row, C, p, g, fd, z1, z2, z3, z4, z5, z6, z7⟩ := E1.prs r hr
          have b := simple_binds (K := K) (z6.simple z7)
          have n := np_of (gc := gc) (k := k) z1 z6
          have F := rec_ r.1 row g fd z1 z6
          rw [z2] at b n F
          exact ⟨⟨C, p, g, fd, 2 * k + 2, by omega, z3, z4, z5, F, b⟩, n⟩,
        fun r hr => by
          obtain ⟨row, C, g, fd, dv, du, z1, z2, z3, z4, z5, z6, z7, z8, z9⟩ := E1.mts r hr
          have n := np_of (gc := gc) (k := k) z1 z6
          have F := rec_ r.1 row g fd z1 z6
          rw [z2] at n F z7
          exact ⟨⟨C, g, fd, dv, du, z3, z4, z5, F.mono (by omega), z7, z8, z9⟩, n⟩,
        fun r hr => by
          obtain ⟨row, C, g, fd, z1, z2, z3, z4, z5, z6, z7⟩ := E1.mas r hr
          have b := simple_binds (K := K) (z6.simple z7)
          have n := np_of (gc := gc) (k := k) z1 z6
          have F := rec_ r.1 row g fd z1 z6
          rw [z2] at b n F
          exact ⟨⟨C, g, fd, 2 * k + 2, by omega, z3, z4, z5, F, b⟩, n⟩,
        fun r hr => by
          obtain ⟨B, nw, ini, bm, C, fI, fd, ps, fs, z1, z2, z3, z4, z5, z6⟩ := (E1.xms r hr).ex
          exact ⟨B, nw, ini, bm, C, fI, fd, ps, fs, z1, z2, z3, z4, z5 _ _ _, z6⟩,
        fun r hr => by
          obtain ⟨v, z1, z2⟩ := E1.xns r hr
          exact ⟨v, z1, fun i D h => by rw [E1.hK]; exact z2 i D h⟩⟩,
       fun _ _ => rfl, FS.kind, rfl, rfl, by omega⟩
    have ht := sndSs (kk := 2 * k + 3) r.fn.body h5 GSX
    refine wpAny_mono (ht.run [] s1 (L2.start r.N vs) H { nx := fun _ H' => Q .non H', rt := Q } I ⟨m, _, fm0, ?_⟩) (fun fl s' hs => ?_) fun e s' hs => hs
    · unfold callK at hsp
      rw [hT] at hsp
      dsimp only at hsp
      rw [if_pos (by rw [← hdl.length, hl, h3])] at hsp
      cases q : evSs ⟨callK (tabT tab) gc k, gc⟩ r.fn.body ⟨ds.map .val ++ List.replicate (r.fn.ns - r.fn.np) .emp, W⟩ with
      | none => rw [q] at hsp; exact hsp.elim
      | some o =>
        obtain ⟨o, t'⟩ := o
        rw [q] at hsp
        cases o with
        | exc z => exact fun σ' m' H' cls dx v f x => hsp m' H' cls dx (v.down no) f.world x
        | val fl => cases fl with
          | nx => exact fun σ' m' H' v f => hsp m' H' .non (v.down no) f.world .non
          | rt d => exact fun σ' m' H' u v f hu => hsp m' H' u (v.down no) f.world hu
          | ct => exact hsp.elim
    · have fin : ∀ {σ' : St} {H' : Hp} {v : V} {u : Value}, L2.Inv (cxOf (L2.CX P w) P w K mg base r.N qual (C8.fnScope st) fa cdv A outer s H E) [] σ' H' s' → RelV v u → Q v H' → L2.CE outer P w H s Q u s' :=
        fun {σ' H' v u} J rv q => ⟨v, H', J.os, J.bare, J.base, J.hok, rv, q⟩
      cases fl with
      | ret u =>
        obtain ⟨v, σ', H', J, rv, q⟩ := hs
        exact fin J rv q
      | next =>
        obtain ⟨σ', H', J, q⟩ := hs
        exact fin (v := V.non) (u := Value.none) J rfl q
      | brk =>
        obtain ⟨_, _, _, q⟩ := hs
        exact False.elim q
      | cont =>
        obtain ⟨_, _, _, q⟩ := hs
        exact False.elim q
end
end GP

set_option Elab.async false
set_option linter.all false
set_option maxRecDepth 100000
set_option autoImplicit false
set_option maxHeartbeats 4000000

namespace GP
open PySem PySem.Spec L2


theorem script_heap {K : PySem.W.Frag} {g : Heap} {a : Addr} {us : List Value} {ns : List Int} (hK : K.In g) (ga : g.get? a = some { cls := .type "list", data := .seq us.toArray }) (hu : PyProof.Rows.IntsAre us ns) (hz : ns.length ≤ sizeLine) :
    ∃ H : Hp, FzL K H a (ns.map V.int) ∧ ∀ b u, H b = some u → b = a ∧ K.lookup a = none ∧ u = .frz { cls := .type "list", data := .seq us.toArray } (.lst (ns.map V.int)) := by
  cases q : K.lookup a with
  | some o =>
    have := hK a o q
    rw [ga] at this
    cases this
    exact ⟨fun _ => none, .inr ⟨⟨ns, rfl⟩, us, _, q, by rw [hu.length]; exact hz, vals_ints hu⟩, fun b u h => nomatch h⟩
  | none =>
    refine ⟨fun b => if b = a then some (.frz { cls := .type "list", data := .seq us.toArray } (.lst (ns.map V.int))) else none, .inl ⟨_, if_pos rfl⟩, fun b u h => ?_⟩
    dsimp only at h
    by_cases hb : b = a
    · rw [if_pos hb] at h; cases h; exact ⟨hb, rfl, rfl⟩
    · rw [if_neg hb] at h; cases h
theorem law_go {P : Program} {w : World} {K : PySem.W.Frag} {mg mb : Str → Option Value} {k : Nat} {fa a : Addr} {fd : FuncData} {x : Str} {sp : Sp} {t : Shared} {us : List Value} {ns : List Int}
    (hK : K.In t.heap) (hg : t.heap.Ns mainGlobals mg) (hb : t.heap.Ns builtinsNs mb) (hbb : ∀ y : Str, y ≠ "__name__" → mb y = bootBuiltins y) (lim : t.heap.NoLimit) (gens : t.gens = #[])
    (ga : t.heap.get? a = some { cls := .type "list", data := .seq us.toArray }) (hu : PyProof.Rows.IntsAre us ns) (hz : ns.length ≤ sizeLine) (room : Room k callerA)
    (F : ∀ base : Heap, K.In base → base.Ns mainGlobals mg → FnG P w K mg base k fa fd [x] sp) (bind : ∀ (s : Shared) (u : Value), BindsTo s fd ⟨[u], []⟩ [(x, u)])
    (hsp : ∀ H : Hp, FzL K H a (ns.map V.int) → sp [.ref a] H (fun v _ => v = .bl true) fun _ _ _ => False) :
    codeAny (model P w) callerA (.call (.ref fa) ⟨[.ref a], []⟩) (fun r s' => r = .ok (.ret (.bool true)) ∧ OldK t.heap s'.heap ∧ s'.os = t.os ∧ PyProof.Rows.AllBare s'.gens) t := by
  obtain ⟨H, hF, hH⟩ := script_heap hK ga hu hz
  have hid : ∀ {b : Addr} {o : Obj}, t.heap.get? b = some o → (b = a → K.lookup a ≠ none ∨ ∃ es ep, o.data = .dict es ep) → (hidT t.heap H).get? b = some o := by
    intro b o h1 h2
    refine hidT_get h1 ?_
    cases q : H b with
    | none => rfl
    | some u =>
      obtain ⟨e1, e2, _⟩ := hH b u q
      subst e1
      rcases h2 rfl with h2 | ⟨es, ep, h2⟩
      · exact absurd e2 h2
      · rw [ga] at h1; cases h1; exact absurd h2 (fun z => nomatch z)
  have ns2 : ∀ {b : Addr} {m : Str → Option Value}, t.heap.Ns b m → (hidT t.heap H).Ns b m := by
    rintro b m ⟨o, es, ep, h1, h2, h3⟩
    exact ⟨o, es, ep, hid h1 fun _ => .inr ⟨es, ep, h2⟩, h2, h3⟩
  have kin : K.In (hidT t.heap H) := fun b o h => hid (hK b o h) fun e => .inl (by subst e; rw [h]; exact fun z => nomatch z)
  have md : Mod K mg (hidT t.heap H) := by
    refine ⟨kin, ns2 hg, ⟨mb, ns2 hb, hbb⟩, ?_⟩
    obtain ⟨mc, l1, l2⟩ := lim
    exact ⟨mc, ns2 l1, l2⟩
  have hok : HOk P w H t.heap := fun b u h => by
    obtain ⟨e1, _, e2⟩ := hH b u h
    subst e1; subst e2
    exact ⟨ga, by rw [List.length_map]; exact hz, us, _, vals_ints hu, ga⟩
  have env : Env0 P w K mg (hidT t.heap H) callerA [] t H :=
    ⟨rfl, md, fun b o h => of_hidT h, Nat.le_of_eq (hidT_size _ _), trivial, fun b h => (nomatch (show b ∈ ([] : List Addr) from h)), hok, .of_eq gens⟩
  refine codeAny_mono ((F _ kin (ns2 hg)).run callerA [] t H ⟨[.ref a], []⟩ [.ref a] [.ref a] _ _ room rfl env (bind t (.ref a)) (.cons rfl .nil) (hsp H hF)) fun r s' h => ?_
  cases r with
  | error x =>
    obtain ⟨_, _, _, _, _, _, _, _, _, _, _, _, z⟩ := h
    exact z.elim
  | ok fl => cases fl with
    | ret u =>
      obtain ⟨v, H', h1, h2, h3, h4, h5, h6⟩ := h
      have h6 : v = .bl true := h6
      subst h6
      cases (show u = Value.bool true from h5)
      refine ⟨rfl, OldK.of_keep fun b o e => ?_, h1, h2⟩
      cases q : H b with
      | none => exact h3.keep b o e q (fun z => nomatch (show b ∈ ([] : List Addr) from z)) (by simp)
      | some u =>
        obtain ⟨_, _, rfl⟩ := hH b u q
        have e1 := (hok b _ q).1
        have e2 := (h4 b _ (h3.frzs b _ _ q)).1
        rw [e] at e1; cases e1
        exact e2
    | next => exact False.elim h
    | brk => exact False.elim h
    | cont => exact False.elim h
theorem walk_go {l : PySem.W.OpenLaw} {n k : Nat} {q : Program} {loose : List Str} {XP : (Str → Option Value) → Heap → Prop} {YP : World → Heap → Prop} {d : DefRec} {x : Str}
    (hn : l.most = some n) (hn2 : n ≤ sizeLine) (hdf : d.params.defaults = []) (room : Room k callerA)
    (F : ∀ (w : World) (mg : Str → Option Value) (fa : Addr) (h : Heap), YP w h → h.Ns mainGlobals mg → mg d.name = some (.ref fa) → ∃ (K : PySem.W.Frag) (fd : FuncData) (sp : Sp), K.In h ∧ (∀ (s : Shared) (u : Value), BindsTo s fd ⟨[u], []⟩ [(x, u)]) ∧
      (∀ (H : Hp) (a : Addr) (ns : List Int), ns.length ≤ n → FzL K H a (ns.map V.int) → sp [.ref a] H (fun v _ => v = .bl true) fun _ _ _ => False) ∧ ∀ base : Heap, K.In base → base.Ns mainGlobals mg → FnG l.prog w K mg base k fa fd [x] sp) :
    PySem.W.WalkO q loose XP YP l.row.toRowW d [] (fun f vs => PySem.call f vs) :=
  Att.attach_call hn hdf fun w t0 t mg mb fa o pm cd doc a us ns G Y ho hd hcd hmg ga hu hlen gens => by
    obtain ⟨K, fd, sp, kin, bind, hsp, hF⟩ := F w mg fa _ Y G.T.g hmg
    exact law_go kin G.T.g G.T.b G.T.builtins G.T.nolimit gens ga hu (Nat.le_trans hlen hn2) room hF bind fun H h => hsp H a ns hlen h
end GP

set_option Elab.async false
set_option linter.all false
set_option maxRecDepth 100000
set_option autoImplicit false
set_option maxHeartbeats 4000000

namespace GP
open PySem PySem.Spec L2 PyProof.Rows
inductive Bs where | ve | oe | re
  deriving DecidableEq
def Bs.b : Bs → String | .ve => "ValueError" | .oe => "OverflowError" | .re => "RuntimeError"
def Bs.nw : Bs → String | .ve => "ValueError.__new__" | .oe => "OverflowError.__new__" | .re => "RuntimeError.__new__"
def Bs.ini : Bs → String | .ve => "ValueError.__init__" | .oe => "OverflowError.__init__" | .re => "RuntimeError.__init__"
def Bs.bm : Bs → List Value
  | .ve => [.type "ValueError", .type "Exception", .type "BaseException", .type "object"]
  | .oe => [.type "OverflowError", .type "ArithmeticError", .type "Exception", .type "BaseException", .type "object"]
  | .re => [.type "RuntimeError", .type "Exception", .type "BaseException", .type "object"]
theorem Bs.bas (b : Bs) : GX.Bas b.b b.nw b.ini b.bm := by
  cases b
  · exact ⟨F.excBase_ValueError, by decide +kernel, fun self => by kernel_rfl⟩
  · exact ⟨F.excBase_OverflowError, by decide +kernel, fun self => by kernel_rfl⟩
  · exact ⟨F.excBase_RuntimeError, by decide +kernel, fun self => by kernel_rfl⟩

structure XD where
  id : Nat
  name : Str
  bs : Bs
  own : Bool
  g : Str
  fs : List Str
def eq1 (a b : Option (Option Value)) : Bool := decide (a = b)

def xobB (K : PySem.W.Frag) (C : Addr) (nw : String) (bm : List Value) : Bool := match K.lookup C with
  | some ⟨.type t, none, .cls cd, sl⟩ => decide (t = "type") && (match cd.mro, sl.toList with
    | .ref C' :: r, [_, _, _, _, some (.builtin n), _] => decide (C' = C) && decide (n = nw) && !cd.hasDel && cd.hasDict && PySem.W.excTail bm r
    | _, _ => false)
  | _ => false
def xclsB (K : PySem.W.Frag) (C : Addr) (nw : String) (bm : List Value) : Bool := xobB K C nw bm && (eq1 (PySem.W.findIn K (.ref C) "__setattr__") (some (some (.builtin "object.__setattr__"))) && (decide (PySem.W.subIn K (.ref C) (.type "BaseException") = some true) &&
  (decide (PySem.W.typeIn K (.ref C) = some (.type "type")) && PySem.W.keepIn K (.ref C))))
theorem xclsB_of {K : PySem.W.Frag} {C : Addr} {nw : String} {bm : List Value} (h : xclsB K C nw bm = true) : XCls K C nw bm := by
  unfold xclsB eq1 at h
  simp only [Bool.and_eq_true, decide_eq_true_eq] at h
  obtain ⟨h1, h2, h3, h4, h5⟩ := h
  refine ⟨?_, h2, h3, h4, h5⟩
  unfold xobB at h1
  split at h1
  · rename_i t cd sl q
    rw [Bool.and_eq_true_iff] at h1
    obtain ⟨t1, h1⟩ := h1
    have t1 := of_decide_eq_true t1
    subst t1
    split at h1
    · rename_i C' r k0 k1 k2 k3 n k5 hm hs
      simp only [Bool.and_eq_true, decide_eq_true_eq, Bool.not_eq_true'] at h1
      obtain ⟨⟨⟨⟨rfl, rfl⟩, h8⟩, h9⟩, h10⟩ := h1
      obtain ⟨a1, a2, a3, a4, a5, a6, a7, a8, a9, a10, a11⟩ := cd
      dsimp only at hm h8 h9
      subst hm h8 h9
      obtain rfl : sl = #[k0, k1, k2, k3, some (.builtin n), k5] := by
        apply Array.toList_inj.mp
        rw [hs]
      exact ⟨_, _, _, _, _, _, _, _, _, none, _, _, _, _, _, q, h10⟩
    · cases h1
  · cases h1

def ownIB (K : PySem.W.Frag) (d : XD) : Bool := PySem.W.readsIn K (He.ga K d.g) (.type "type") && (eq1 (PySem.W.specialIn K (.ref (He.ga K d.g)) "__getattribute__") (some (some (.builtin "type.__getattribute__"))) &&
  (match PySem.W.findCls K (.ref (He.ga K d.g)) (.type "type") "__init__" with | some (.val (.builtin i)) => decide (i = d.bs.ini) | _ => false))
def bltIB (K : PySem.W.Frag) (d : XD) : Bool := decide (d.g = Str.ofString d.bs.b) && (match PySem.W.findCls K (.type d.bs.b) (.type "type") "__init__" with | some (.val (.builtin i)) => decide (i = d.bs.ini) | _ => false)

def initC (d : XD) (st : Stmt) : Bool := argsC0 (C8.fnArgs st) ("self" :: d.fs) && C8.scC ("self" :: d.fs) ("self" :: d.fs) (C8.fnScope st) && decide ((C8.fnScope st).names.lookup d.g = some .globalImplicit) && !(d.g == ("__debug__" : Str)) &&
  (d.fs.all fun y => !(y == ("__debug__" : Str)) && !(y == ("__classdict__" : Str))) && (match C8.fnBody st, d.fs with
  | [.Expr (.Call (.Attribute (.Name g _) i ap) [.Name s _, .Constant (.str _) _ _] [] cp) _, .Assign [.Attribute (.Name s2 _) f1 _] (.Name y1 _) _], [f] => (ap.endLine == cp.line) && decide (g = d.g) && decide (i = ("__init__" : Str)) && decide (s = ("self" : Str)) && decide (s2 = ("self" : Str)) && decide (f1 = f) && decide (y1 = f)
  | [.Expr (.Call (.Attribute (.Name g _) i ap) [.Name s _, .Constant (.str _) _ _] [] cp) _, .Assign [.Attribute (.Name s2 _) f1 _] (.Name y1 _) _, .Assign [.Attribute (.Name s3 _) f2 _] (.Name y2 _) _], [f, f'] =>
    (ap.endLine == cp.line) && decide (g = d.g) && decide (i = ("__init__" : Str)) && decide (s = ("self" : Str)) && decide (s2 = ("self" : Str)) && decide (f1 = f) && decide (y1 = f) && decide (s3 = ("self" : Str)) && decide (f2 = f') && decide (y2 = f')
  | _, _ => false)
where argsC0 (a : Arguments) (ps : List Str) : Bool := a.posonlyargs.isEmpty && decide (a.args.map (fun x => x.arg) = ps) && a.vararg.isNone && a.kwonlyargs.isEmpty && a.kwarg.isNone && decide ps.Nodup
theorem Bs.handed (b : Bs) : PySem.W.handedIn (.builtin b.ini) = true := by cases b <;> decide +kernel
theorem Bs.boot (b : Bs) : bootBuiltins (Str.ofString b.b) = some (.type b.b) ∧ Str.ofString b.b ≠ "__name__" ∧ (Str.ofString b.b == ("__debug__" : Str)) = false ∧ Manifest.isStub b.b = false := by
  cases b
  · exact ⟨by kernel_rfl, by decide, by decide, by decide +kernel⟩
  · exact ⟨by kernel_rfl, by decide, by decide, by decide +kernel⟩
  · exact ⟨by kernel_rfl, by decide, by decide, by decide +kernel⟩
theorem Bs.ty (b : Bs) : typeOf (.type b.b) = pure (.type "type") := by cases b <;> kernel_rfl
section
variable {K : PySem.W.Frag} {mg : Str → Option Value} {d : XD} {X : Cx} {p1 p2 p3 p4 pos : Pos} {z : Str} {j : Nat}

theorem init_call (hb : (d.own = true ∧ ownIB X.K d = true ∧ X.mg d.g = some (.ref (He.ga X.K d.g))) ∨ (d.own = false ∧ bltIB X.K d = true ∧ X.mg d.g = none)) (hg : Gl X d.g) (hdb : (d.g == ("__debug__" : Str)) = false) (hli : (p2.endLine == pos.line) = true) (n0 : X.N[0]? = some ("self" : Str)) (v0 : Vis X.env.scope "self") :
    PE X (.Call (.Attribute (.Name d.g p1) "__init__" p2) [.Name "self" p3, .Constant (.str z) j p4] [] pos) (tBaI X.K d.bs.nw d.bs.bm (tCons (tVar 0) (tCons (tC (.str z)) tNil))) := by
  have ha : PA X [.Name "self" p3, .Constant (.str z) j p4] (tCons (tVar 0) (tCons (tC (.str z)) tNil)) := pa_cons (pe_var (i := 0) n0 v0) (pa_cons pe_str pa_nil)
  rcases hb with ⟨_, h, hm⟩ | ⟨_, h, hm⟩
  · unfold ownIB eq1 at h
    simp only [Bool.and_eq_true, decide_eq_true_eq] at h
    obtain ⟨h1, h2, h3⟩ := h
    split at h3
    · rename_i i q
      cases of_decide_eq_true h3
      exact pe_own_init d.bs.bas hg hm h1 h2 q (Bs.handed _) ha hdb (mc_eq (fun _ => ab_of rfl) hli rfl (by simp)) rfl rfl
    · cases h3
  · unfold bltIB at h
    rw [Bool.and_eq_true_iff] at h
    obtain ⟨h1, h3⟩ := h
    have h1 := of_decide_eq_true h1
    obtain ⟨b1, b2, b3, b4⟩ := Bs.boot d.bs
    split at h3
    · rename_i i q
      cases of_decide_eq_true h3
      exact pe_blt_init d.bs.bas hg hm (by rw [h1]; exact b1) (by rw [h1]; exact b2) (Bs.ty _) b4 q (Bs.handed _) ha hdb (mc_eq (fun _ => ab_of rfl) hli rfl (by simp)) rfl rfl
    · cases h3
end
theorem init_ok {K : PySem.W.Frag} {mg : Str → Option Value} {d : XD} {st : Stmt} {fI C : Addr} {fd : FuncData} {qual : Str} (hfun : C8.Fun K "__init__" qual st fI fd) (df : fd.defaults = .none) (hc : initC d st = true) (hX : XCls K C d.bs.nw d.bs.bm) (hno : ∀ f ∈ d.fs, PySem.W.findIn K (.ref C) f = some none)
    (hb : (d.own = true ∧ ownIB K d = true ∧ mg d.g = some (.ref (He.ga K d.g))) ∨ (d.own = false ∧ bltIB K d = true ∧ mg d.g = none)) :
    (∀ (P : Program) (w : World) (base : Heap), FnOk P w K mg base (L2.CX P w) 1 fI fd ("self" :: d.fs) (iSp C d.fs)) ∧ Binds K fd ("self" :: d.fs) [] ∧ d.fs ≠ [] := by
  obtain ⟨oc, od, dV, kV, doc, pm, an, cdv, ct, osl, rfl, lk, hcd⟩ := hfun.ex
  unfold initC initC.argsC0 at hc
  simp only [Bool.and_eq_true, decide_eq_true_eq, Bool.not_eq_true', List.all_eq_true, List.isEmpty_iff, Option.isNone_iff_eq_none] at hc
  obtain ⟨⟨⟨⟨⟨⟨⟨⟨⟨⟨a1, a2⟩, a3⟩, a4⟩, a5⟩, a6⟩, hsc⟩, hgl⟩, hdb⟩, hnn⟩, hform⟩ := hc
  have FS := C8.fnScope_by hsc
  have S : Simple (PySem.W.fnOf "__init__" qual (C8.fnArgs st) (C8.fnBody st) (C8.fnScope st) dV kV doc pm an cdv ct) ("self" :: d.fs) := ⟨a1, a2, a3, a4, a5, df, a6⟩
  have B : Binds K (PySem.W.fnOf "__init__" qual (C8.fnArgs st) (C8.fnBody st) (C8.fnScope st) dV kV doc pm an cdv ct) ("self" :: d.fs) [] := Binds.all fun us hl => bind_pos S hl
  have v0 : Vis (C8.fnScope st) "self" := (FS.par "self" (List.Mem.head _)).elim (fun z => .inl z) fun z => .inr (.inl z)
  have call : ∀ {P : Program} {w : World} {base : Heap} {z : Str} {j : Nat} {p1 p2 p3 p4 pos : Pos} (hli : (p2.endLine == pos.line) = true) (A : Around) (outer : List Env) (s : Shared) (H : Hp) (E : XK), PE (cxOf (L2.CX P w) P w K mg base ("self" :: d.fs) qual (C8.fnScope st) fI cdv A outer s H E) (.Call (.Attribute (.Name d.g p1) "__init__" p2) [.Name "self" p3, .Constant (.str z) j p4] [] pos)
      (tBaI K d.bs.nw d.bs.bm (tCons (tVar 0) (tCons (tC (.str z)) tNil))) := fun hli A outer s H E => init_call (X := cxOf _ _ _ _ _ _ _ _ _ _ _ _ _ _ _ _) hb hgl hdb hli rfl v0
  split at hform
  · rename_i g p1 i p2 s p3 z j p4 p5 q1 s2 q2 f1 q3 y1 q4 q5 f hbody hfs
    simp only [Bool.and_eq_true, decide_eq_true_eq] at hform
    obtain ⟨⟨⟨⟨⟨⟨hli, rfl⟩, rfl⟩, rfl⟩, rfl⟩, rfl⟩, rfl⟩ := hform
    refine ⟨fun P w base => ?_, B, by rw [hfs]; exact fun z => nomatch z⟩
    rw [hbody] at lk ⊢
    rw [hfs] at FS call ⊢
    obtain ⟨n1, n2⟩ := hnn y1 (by rw [hfs]; exact List.Mem.head _)
    exact fn_init1 d.bs.bas hX lk hcd FS rfl rfl n1 n2 (hno y1 (by rw [hfs]; exact List.Mem.head _)) (fun A outer s H E => call hli A outer s H E) (fun _ => rfl) (fun _ => rfl)
  · rename_i g p1 i p2 s p3 z j p4 p5 q1 s2 q2 f1 q3 y1 q4 q5 s3 q6 f2 q7 y2 q8 q9 f f' hbody hfs
    simp only [Bool.and_eq_true, decide_eq_true_eq] at hform
    obtain ⟨⟨⟨⟨⟨⟨⟨⟨⟨hli, rfl⟩, rfl⟩, rfl⟩, rfl⟩, rfl⟩, rfl⟩, rfl⟩, rfl⟩, rfl⟩ := hform
    refine ⟨fun P w base => ?_, B, by rw [hfs]; exact fun z => nomatch z⟩
    rw [hbody] at lk ⊢
    rw [hfs] at FS call ⊢
    obtain ⟨n1, n2⟩ := hnn y1 (by rw [hfs]; exact List.Mem.head _)
    obtain ⟨n3, n4⟩ := hnn y2 (by rw [hfs]; exact List.Mem.tail _ (List.Mem.head _))
    exact fn_init2 d.bs.bas hX lk hcd FS rfl rfl rfl n1 n2 n3 n4 (hno y1 (by rw [hfs]; exact List.Mem.head _)) (hno y2 (by rw [hfs]; exact List.Mem.tail _ (List.Mem.head _))) (fun A outer s H E => call hli A outer s H E) (fun _ => rfl) (fun _ => rfl) (fun _ => rfl)
  · cases hform
end GP

set_option Elab.async false
set_option linter.all false
set_option maxRecDepth 100000
set_option autoImplicit false
set_option maxHeartbeats 4000000

namespace GP
open PySem PySem.Spec L2 PyProof.Rows
section
variable {K : PySem.W.Frag} {x qual : Str} {params : Arguments} {body : List Stmt} {scope : Scope} {dvs : List V} {f : Addr} {fd : FuncData} {a b : Str}
theorem bind_d {T : Addr} {kV doc pm cdv ct : Value} {an : Option Addr} (h1 : params.posonlyargs = []) (h2 : params.args.map (fun x => x.arg) = [a, b]) (h3 : params.vararg = none) (h4 : params.kwonlyargs = []) (h5 : params.kwarg = none) (ne : a ≠ b) (u d : Value) :
    ∃ k, bindArgs (PySem.W.fnOf x qual params body scope (.ref T) kV doc pm an cdv ct) ⟨[u], []⟩ = seqItems? (.ref T) >>= k ∧ k (some [d].toArray) = pure ([a, b].zip ([u] ++ [d])) := by
  have e1 : (b == a) = false := beq_eq_false_iff_ne.mpr (fun z => ne z.symm)
  unfold bindArgs
  simp only [PySem.W.fnOf, h1, h2, h3, h4, h5, List.map_nil, List.nil_append, List.append_nil, List.forIn_nil, pure_bind]
  refine ⟨_, rfl, ?_⟩
  simp [List.lookup, e1]
theorem bind_d2 {T : Addr} {kV doc pm cdv ct : Value} {an : Option Addr} (h1 : params.posonlyargs = []) (h2 : params.args.map (fun x => x.arg) = [a, b]) (h3 : params.vararg = none) (h4 : params.kwonlyargs = []) (h5 : params.kwarg = none) (ne : a ≠ b) (u v d : Value) :
    ∃ k, bindArgs (PySem.W.fnOf x qual params body scope (.ref T) kV doc pm an cdv ct) ⟨[u, v], []⟩ = seqItems? (.ref T) >>= k ∧ k (some [d].toArray) = pure ([a, b].zip ([u, v] ++ [])) := by
  have e1 : (b == a) = false := beq_eq_false_iff_ne.mpr (fun z => ne z.symm)
  unfold bindArgs
  simp only [PySem.W.fnOf, h1, h2, h3, h4, h5, List.map_nil, List.nil_append, List.append_nil, List.forIn_nil, pure_bind]
  refine ⟨_, rfl, ?_⟩
  simp [List.lookup, e1]

theorem binds_d (F : FunD K x qual params body scope dvs [] f fd) (hd : dvs.length = 1) (h1 : params.posonlyargs = []) (h2 : params.args.map (fun x => x.arg) = [a, b]) (h3 : params.vararg = none) (h4 : params.kwonlyargs = []) (h5 : params.kwarg = none) (ne : a ≠ b) :
    (∃ ds, Vals dvs ds ∧ Binds K fd [a, b] ds) ∧ Binds K fd [a, b] [] := by
  have nd : dvs ≠ [] := fun z => by rw [z] at hd; cases hd
  have one : ∀ {α : Type} {l : List α}, l.length = 1 → ∃ y, l = [y] := fun {α l} h => by
    cases l with
    | nil => cases h
    | cons y l => cases l with
      | nil => exact ⟨y, rfl⟩
      | cons _ _ => cases h
  constructor
  · have := F.binds1 (ps := [a, b]) 1 0 nd (by rw [hd]; rfl) fun T kV doc pm an cdv ct us its hu hi => by
      obtain ⟨u, rfl⟩ := one hu
      obtain ⟨d, rfl⟩ := one (hi.trans hd)
      exact bind_d h1 h2 h3 h4 h5 ne u d
    exact this
  · obtain ⟨ds, r, B⟩ := F.binds1 (ps := [a, b]) 2 1 nd (by rw [hd]; rfl) fun T kV doc pm an cdv ct us its hu hi => by
      obtain ⟨d, rfl⟩ := one (hi.trans hd)
      cases us with
      | nil => cases hu
      | cons u us =>
        obtain ⟨v, rfl⟩ := one (by simpa using hu : us.length = 1)
        exact bind_d2 h1 h2 h3 h4 h5 ne u v d
    obtain ⟨d, e⟩ := one hd
    rw [e] at r
    have r : Vals [] ds := r
    cases r
    exact B
end
end GP

set_option Elab.async false
set_option linter.all false
set_option maxRecDepth 100000
set_option autoImplicit false
set_option maxHeartbeats 4000000

namespace GP
open PySem PySem.Spec L2


inductive Cn where | int (i : Int) | str (z : Str) | txts (zs : List Str)
def Cn.d : Cn → D
  | .int i => .int i
  | .str z => .str z
  | .txts zs => .tup (zs.map .str)
def Cn.fa (x : Str) : Cn → He.Fa
  | .int i => .int x i
  | .str z => .str x z
  | .txts _ => .glo x
def cnB (K : PySem.W.Frag) (p : Str × Cn) : Bool := match p.2 with
  | .txts zs => !zs.isEmpty && He.tupB K p.1 (zs.map He.Dv.str)
  | _ => true

structure TR where
  id : Nat
  at_ : Nat
  r : FE
  sub : Option Nat := none
  pr : Bool := false
  df : List Int := []

structure XR where
  d : XD
  at_ : Nat
  sub : Nat

structure Tb where
  ts : List TR
  bl : List Str
  cs : List (Nat × Str × Cn)
  is : List (Nat × Str) := []
  xs : List XR := []
  fl : List Str := []
  xn : List (Str × List Nat) := []
def stOf (p : Program) (i : Nat) : Stmt := p.main.body.getD i (.Pass ⟨0, 0, 0, 0⟩)
def stIn (p : Program) (i : Nat) : Option Nat → Stmt
  | none => stOf p i
  | some j => (C8.clsBody (stOf p i)).getD j (.Pass ⟨0, 0, 0, 0⟩)
def qualOf (q : Option Str) (x : Str) : Str := match q with
  | none => x
  | some c => Str.ofString (c.toString ++ "." ++ x.toString)

def prG (K : PySem.W.Frag) (q x : Str) : Addr := match PySem.W.recIn K (He.ma K (He.ga K q) x) "property" with
  | some (.ref g :: _) => g
  | _ => 0
def adK (K : PySem.W.Frag) (t : TR) : Addr := match t.r.q with
  | none => He.ga K t.r.name
  | some q => if t.pr then prG K q t.r.name else He.ma K (He.ga K q) t.r.name
abbrev FnT : Type := Option (Arguments × FuncBody × Scope × Str × Str × Addr × Addr × List (Str × Addr))

def fnA (K : PySem.W.Frag) (a : Addr) : FnT := match K.lookup a with
  | some ⟨_, _, .func u, _⟩ => some (u.params, u.body, u.scope, u.name, u.qualname, u.globals, u.builtins, u.closure)
  | _ => none
def fnV (st : Stmt) (x q : Str) : FnT := some (C8.fnArgs st, .stmts (C8.fnBody st), C8.fnScope st, x, q, mainGlobals, builtinsNs, [])
def okA (K : PySem.W.Frag) (a : Addr) (q : Str) (df : List Int) : Bool := PySem.W.keepIn K (.ref a) && (match K.lookup a with
  | some ⟨_, _, .func u, _⟩ => PySem.W.codeIn K u.code q && He.dflB K u.defaults (df.map V.int)
  | _ => false)
theorem funA {K : PySem.W.Frag} {a : Addr} {st : Stmt} {x q : Str} {df : List Int} (e : fnA K a = fnV st x q) (c : okA K a q df = true) : ∃ fd, FunD K x q (C8.fnArgs st) (C8.fnBody st) (C8.fnScope st) (df.map V.int) [] a fd := by
  unfold okA at c
  rw [Bool.and_eq_true_iff] at c
  obtain ⟨kp, c⟩ := c
  unfold fnA at e
  cases h : K.lookup a with
  | none => rw [h] at c; cases c
  | some o =>
    obtain ⟨oc, od, dt, osl⟩ := o
    rw [h] at c e
    cases dt with
    | func u =>
      obtain ⟨u1, u2, u3, u4, u5, u6, u7, u8, u9, u10, u11, u12, u13, u14, u15⟩ := u
      have e : (some (u3, u4, u5, u1, u2, u6, u15, u7) : FnT) = some (C8.fnArgs st, .stmts (C8.fnBody st), C8.fnScope st, x, q, mainGlobals, builtinsNs, []) := e
      simp only [Option.some.injEq, Prod.mk.injEq] at e
      obtain ⟨z1, z2, z3, z4, z5, z6, z7, z8⟩ := e
      subst z1 z2 z3 z4 z5 z6 z7 z8
      have c : (PySem.W.codeIn K u13 u2 && He.dflB K u8 (df.map V.int)) = true := c
      rw [Bool.and_eq_true_iff] at c
      exact ⟨_, ⟨oc, od, u8, u9, u10, u11, u12, u13, u14, osl, rfl, h, c.1, He.dflB_ok c.2, .inl rfl⟩, kp⟩
    | _ => cases c
theorem funF {K : PySem.W.Frag} {st : Stmt} {x q : Str} {dvs : List V} {a : Addr} {fd : FuncData} (F : FunD K x q (C8.fnArgs st) (C8.fnBody st) (C8.fnScope st) dvs [] a fd) : C8.Fun K x q st a fd := by
  obtain ⟨oc, od, dV, kV, doc, pm, an, cdv, ct, osl, h1, h2, h3, _, _⟩ := F.ex
  exact ⟨oc, od, dV, kV, doc, pm, an, cdv, ct, osl, h1, h2, h3⟩
theorem noDfF {K : PySem.W.Frag} {x q : Str} {ps : Arguments} {b : List Stmt} {sc : Scope} {a : Addr} {fd : FuncData} (F : FunD K x q ps b sc [] [] a fd) : fd.defaults = .none := by
  obtain ⟨oc, od, dV, kV, doc, pm, an, cdv, ct, osl, rfl, _, _, h, _⟩ := F.ex
  rcases h with ⟨_, h⟩ | ⟨h, _⟩
  · exact h
  · exact absurd rfl h

def tabOf (ts : List TR) : List (Nat × FE) := ts.map fun t => (t.id, t.r)
def clsNo (is : List (Nat × Str)) (q : Str) : Option Nat := (is.find? fun p => decide (p.2 = q)).map fun p => p.1
def prOf (T : Tb) (t : TR) : Option (Nat × Nat × Str × List Str) := match t.r.q with
  | some q => if t.pr then (clsNo T.is q).map fun c => (t.id, c, t.r.name, t.r.ps) else none
  | none => none
def mtOf (T : Tb) (t : TR) : List (Nat × Nat × Str × List Str × List D) := match t.r.q with
  | some q => if t.pr then [] else if t.r.name = ("__init__" : Str) then [] else (match clsNo T.is q with
    | some c => (t.id, c, t.r.name, t.r.ps, []) :: (if t.df.isEmpty then [] else [(t.id, c, t.r.name, t.r.ps, t.df.map D.int)])
    | none => [])
  | none => []
def maOf (T : Tb) (t : TR) : Option (Nat × Nat × Str × List Str) := match t.r.q with
  | some q => if t.pr then none else if t.r.name = ("__init__" : Str) then (clsNo T.is q).map fun c => (t.id, c, q, t.r.ps) else none
  | none => none
def clOf (T : Tb) : Cl := ⟨T.fl, T.ts.filterMap (prOf T), T.ts.flatMap (mtOf T), T.ts.filterMap (maOf T), T.xs.map fun x => (x.d.id, x.d.fs.length, x.d.name), T.xn⟩
def gnOf (cs : List (Nat × Str × Cn)) (g : Nat) : Option Str := (cs.lookup g).map fun c => c.1
def gcOf (cs : List (Nat × Str × Cn)) (g : Nat) : Option D := (cs.lookup g).map fun c => c.2.d

def rowC (t : TR) : Bool := match t.r.q with
  | none => t.df.isEmpty && !t.pr
  | some _ => if t.pr then t.df.isEmpty else if t.r.name = ("__init__" : Str) then t.df.isEmpty else t.df.isEmpty || (match t.r.ps with | [a, b] => decide (a ≠ b) && decide (t.df.length = 1) | _ => false)
def tabC (p : Program) (T : Tb) : Bool := (T.ts.all fun t => rowC t && fnC (tabOf T.ts) (gnOf T.cs) T.bl (clOf T) t.r (stIn p t.at_ t.sub)) && decide (T.ts.map fun t => t.id).Nodup && decide (T.is.map fun i => i.1).Nodup && decide (T.xs.map fun x => x.d.id).Nodup && (T.xs.all fun x => initC x.d (stIn p x.at_ (some x.sub)))

def fasOf (T : Tb) : List He.Fa := (T.ts.filterMap fun t => if t.r.q.isNone then some (.glo t.r.name) else none) ++ T.bl.map .free ++ (T.cs.map fun c => c.2.2.fa c.2.1) ++
  (T.is.flatMap fun i => .glo i.2 :: .cls i.2 :: T.fl.map (.noat i.2)) ++ (T.ts.flatMap fun t => match t.r.q with
    | some q => if t.pr then [] else if t.r.name = ("__init__" : Str) then [.mkr q] else [.meth q t.r.name]
    | none => []) ++ (T.xs.flatMap fun x => .glo x.d.name :: x.d.fs.map (.noat x.d.name)) ++ (T.xn.map fun n => .glo n.1)
def propB (K : PySem.W.Frag) (q x : Str) : Bool := eq1 (PySem.W.findIn K (.ref (He.ga K q)) x) (some (some (.ref (He.ma K (He.ga K q) x)))) && (eq1 (PySem.W.specialIn K (.ref (He.ma K (He.ga K q) x)) "__get__") (some (some (.builtin "property.__get__"))) &&
  (decide (PySem.W.takesIn K (.ref (He.ma K (He.ga K q) x)) = some true) && (match PySem.W.recIn K (He.ma K (He.ga K q) x) "property" with | some (.ref _ :: _) => true | _ => false)))
def xcB (K : PySem.W.Frag) (xs : List XR) (xn : List (Str × List Nat)) (x : XR) : Bool := xclsB K (He.ga K x.d.name) x.d.bs.nw x.d.bs.bm && (eq1 (PySem.W.findIn K (.ref (He.ga K x.d.name)) "__init__") (some (some (.ref (He.ma K (He.ga K x.d.name) "__init__")))) &&
  (decide (PySem.W.typeIn K (.ref (He.ma K (He.ga K x.d.name) "__init__")) = some (.type "function")) && ((if x.d.own then ownIB K x.d && (He.Fa.glo x.d.g).ok K else bltIB K x.d && (He.Fa.free x.d.g).ok K) &&
  (okA K (He.ma K (He.ga K x.d.name) "__init__") (qualOf (some x.d.name) "__init__") [] && (xn.all fun n => decide (PySem.W.exmOne K (.ref (He.ga K x.d.name)) (.ref (He.ga K n.1)) = some (n.2.contains x.d.id)))))))
abbrev AlT : Type := Bool × List FnT
def obsT (T : Tb) (K : PySem.W.Frag) : AlT := ((T.cs.all fun c => cnB K c.2) && ((fasOf T).all (fun f => f.ok K) && ((T.ts.all fun t => okA K (adK K t) (qualOf t.r.q t.r.name) t.df) && ((T.ts.all fun t => match t.r.q with | some q => if t.pr then propB K q t.r.name else true | none => true) && T.xs.all (xcB K T.xs T.xn)))),
  (T.ts.map fun t => fnA K (adK K t)) ++ T.xs.map fun x => fnA K (He.ma K (He.ga K x.d.name) "__init__"))
def valT (p : Program) (T : Tb) : AlT := (true, (T.ts.map fun t => fnV (stIn p t.at_ t.sub) t.r.name (qualOf t.r.q t.r.name)) ++ T.xs.map fun x => fnV (stIn p x.at_ (some x.sub)) "__init__" (qualOf (some x.d.name) "__init__"))

def nsG (g : Addr → Option Obj) (a : Addr) (x : Str) : Option Addr := match g a with
  | some ⟨_, _, .dict es _, _⟩ => es.toList.findSome? fun e => match e.key, e.val with
    | .str y _, .ref b => if y = x then some b else none
    | _, _ => none
  | _ => none
def moreG (g : Addr → Option Obj) (as : List Addr) : List Addr := as.flatMap fun a => match g a with
  | some o => He.refsD o
  | none => []
def asX (T : Tb) (g : Addr → Option Obj) : List Addr :=
  let f := (T.ts.filterMap fun t => if t.r.q.isNone then some t.r.name else none) ++ T.cs.map (fun c => c.2.1)
  let fa := f.filterMap (nsG g mainGlobals)
  let c := T.is.map (fun i => i.2) ++ T.xs.map (fun x => x.d.name) ++ T.xn.map (fun n => n.1) ++ T.xs.map (fun x => x.d.g)
  let ca := (c.eraseDups.filterMap (nsG g mainGlobals)).eraseDups
  let c1 := (moreG g ca).eraseDups
  let c2 := (moreG g c1).eraseDups
  let c3 := (moreG g c2).eraseDups
  let c4 := (moreG g c3).eraseDups
  mainGlobals :: cStatics :: fa ++ moreG g fa ++ (if c.isEmpty then [] else ca ++ c1 ++ c2 ++ c3 ++ c4)
def obsTG (T : Tb) (g : Addr → Option Obj) : AlT := obsT T (He.frG g (asX T g))
def hookT (p : Program) (T : Tb) : PySem.W.Hook where
  α := AlT
  obs := fun t => obsTG T t.heap.get?
  val := fun _ => valT p T
  says := fun _ h => ∃ K : PySem.W.Frag, K.In h ∧ obsT T K = valT p T
  of := fun _ _ e => ⟨_, He.frG_in, e⟩
  keeps := fun _ _ _ ⟨K, i, c⟩ k => ⟨K, i.keeps k, c⟩
theorem obsTG_eq {p : Program} {T : Tb} {g : Addr → Option Obj} {s : Shared} (h : ∀ a, g a = s.heap.get? a) : obsTG T g = (hookT p T).obs s := by
  have : g = s.heap.get? := funext h
  subst this; rfl
theorem mem_lk {α : Type} {l : List (Nat × α)} {k : Nat} {v : α} (h : l.lookup k = some v) : (k, v) ∈ l := by
  induction l with
  | nil => cases h
  | cons a l ih =>
    rw [List.lookup_cons] at h
    by_cases q : k = a.1
    · rw [beq_iff_eq.mpr q] at h; cases h; rw [q]; exact List.mem_cons_self
    · rw [beq_eq_false_iff_ne.mpr q] at h; exact List.mem_cons_of_mem _ (ih h)
theorem map_eq {α β : Type} {f g : α → β} : ∀ {l : List α}, l.map f = l.map g → ∀ x ∈ l, f x = g x
  | a :: l, h, x, hx => by
    rw [List.map_cons, List.map_cons, List.cons.injEq] at h
    rcases List.mem_cons.mp hx with rfl | hx
    · exact h.1
    · exact map_eq h.2 x hx
def enOf (K : PySem.W.Frag) (T : Tb) : En := ⟨K, fun c => (T.xs.find? fun x => decide (x.d.id = c)).map fun x => He.ga K x.d.name, fun c => (T.is.lookup c).map (He.ga K), fun c => match T.xs.find? fun x => decide (x.d.id = c) with | some x => x.d.fs.reverse | none => []⟩
theorem lk_nodup {α : Type} {l : List (Nat × α)} (nd : (l.map fun p => p.1).Nodup) {k : Nat} {v : α} (h : (k, v) ∈ l) : l.lookup k = some v := by
  induction l with
  | nil => cases h
  | cons a l ih =>
    rw [List.map_cons, List.nodup_cons] at nd
    rw [List.lookup_cons]
    rcases List.mem_cons.mp h with rfl | h
    · rw [beq_self_eq_true]
    · have : (k == a.1) = false := beq_eq_false_iff_ne.mpr fun z => nd.1 (by rw [← z]; exact List.mem_map_of_mem (f := fun p : Nat × α => p.1) h)
      rw [this]; exact ih nd.2 h
theorem find_nodup {xs : List XR} (nd : (xs.map fun x => x.d.id).Nodup) {x : XR} (h : x ∈ xs) : xs.find? (fun y => decide (y.d.id = x.d.id)) = some x := by
  induction xs with
  | nil => cases h
  | cons a l ih =>
    rw [List.map_cons, List.nodup_cons] at nd
    rcases List.mem_cons.mp h with rfl | h
    · rw [List.find?_cons_of_pos (by simp)]
    · rw [List.find?_cons_of_neg (by simp; exact fun z => nd.1 (by rw [z]; exact List.mem_map_of_mem (f := fun x : XR => x.d.id) h))]
      exact ih nd.2 h
section
variable {p : Program} {T : Tb} {K : PySem.W.Frag} {h : Heap} {mg : Str → Option Value}
theorem cls_no {q : Str} {c : Nat} (nd : (T.is.map fun i => i.1).Nodup) (h : clsNo T.is q = some c) : (enOf K T).ins c = some (He.ga K q) ∧ (c, q) ∈ T.is := by
  obtain ⟨a, ha, rfl⟩ := Option.map_eq_some_iff.mp h
  have h1 := List.mem_of_find?_eq_some ha
  have h2 : a.2 = q := by simpa using List.find?_some ha
  subst h2
  refine ⟨?_, h1⟩
  show (T.is.lookup a.1).map (He.ga K) = _
  rw [lk_nodup nd h1]; rfl
theorem env_of (kin : K.In h) (G : h.Ns mainGlobals mg) (c : obsT T K = valT p T) (tc : tabC p T = true) : Env1 K mg (enOf K T) (tabOf T.ts) (gnOf T.cs) (gcOf T.cs) T.bl (clOf T) := by
  have c1 := congrArg (fun a : AlT => a.1) c
  have c2 := congrArg (fun a : AlT => a.2) c
  have c1 : ((T.cs.all fun c => cnB K c.2) && ((fasOf T).all (fun f => f.ok K) && ((T.ts.all fun t => okA K (adK K t) (qualOf t.r.q t.r.name) t.df) && ((T.ts.all fun t => match t.r.q with | some q => if t.pr then propB K q t.r.name else true | none => true) && T.xs.all (xcB K T.xs T.xn))))) = true := c1
  have c2 : (T.ts.map fun t => fnA K (adK K t)) ++ (T.xs.map fun x => fnA K (He.ma K (He.ga K x.d.name) "__init__")) = (T.ts.map fun t => fnV (stIn p t.at_ t.sub) t.r.name (qualOf t.r.q t.r.name)) ++ (T.xs.map fun x => fnV (stIn p x.at_ (some x.sub)) "__init__" (qualOf (some x.d.name) "__init__")) := c2
  rw [Bool.and_eq_true_iff, Bool.and_eq_true_iff, Bool.and_eq_true_iff, Bool.and_eq_true_iff] at c1
  obtain ⟨k1, k2, k3, k4, k5⟩ := c1
  obtain ⟨v1, v2⟩ := List.append_inj c2 (by rw [List.length_map, List.length_map])
  unfold tabC at tc
  simp only [Bool.and_eq_true, decide_eq_true_eq, List.all_eq_true] at tc
  obtain ⟨⟨⟨⟨t1, nd1⟩, nd2⟩, nd3⟩, t3⟩ := tc
  have fOk : ∀ f ∈ fasOf T, f.ok K = true := fun f hf => List.all_eq_true.mp k2 f hf
  have nd1' : ((tabOf T.ts).map fun p => p.1).Nodup := by
    unfold tabOf
    rw [List.map_map]
    exact nd1
  have row : ∀ t ∈ T.ts, (tabOf T.ts).lookup t.id = some t.r ∧ ∃ fd, DefR K (tabOf T.ts) (gnOf T.cs) T.bl (clOf T) t.r (adK K t) fd ∧ FunD K t.r.name (qualOf t.r.q t.r.name) (C8.fnArgs (stIn p t.at_ t.sub)) (C8.fnBody (stIn p t.at_ t.sub)) (C8.fnScope (stIn p t.at_ t.sub)) (t.df.map V.int) [] (adK K t) fd := fun t ht => by
    refine ⟨lk_nodup nd1' (List.mem_map_of_mem (f := fun t : TR => (t.id, t.r)) ht), ?_⟩
    obtain ⟨fd, F⟩ := funA (map_eq v1 t ht) (List.all_eq_true.mp k3 t ht)
    exact ⟨fd, ⟨_, _, (funF F), (t1 t ht).2⟩, F⟩
  have g1 : ∀ x, He.Fa.glo x ∈ fasOf T → mg x = some (.ref (He.ga K x)) := fun x hx => He.glo_ok kin G (fOk _ hx)
  refine ⟨rfl, fun f r hf htop => ?_, fun g x hg => ?_, fun x hx => ?_, fun k hk c D hD => ?_, fun r hr => ?_, fun r hr => ?_, fun r hr => ?_, fun r hr => ?_, fun r hr => ?_⟩
  · obtain ⟨t, ht, e1⟩ := List.mem_map.mp (mem_lk hf)
    cases e1
    obtain ⟨_, fd, d, F⟩ := row t ht
    have hq : t.r.q = none := by
      have : t.r.q.isNone = true := htop
      simpa using this
    have hrow := (t1 t ht).1
    unfold rowC at hrow
    rw [hq] at hrow
    simp only [Bool.and_eq_true, List.isEmpty_iff] at hrow
    have had : adK K t = He.ga K t.r.name := by unfold adK; rw [hq]
    rw [had] at d F
    rw [hrow.1] at F
    refine ⟨_, fd, d, (noDfF F), g1 _ ?_, F.kp⟩
    unfold fasOf
    simp only [List.mem_append, List.mem_filterMap]
    exact .inl (.inl (.inl (.inl (.inl (.inl ⟨t, ht, by rw [hq]; rfl⟩)))))
  · obtain ⟨⟨y, c⟩, hc, e1⟩ := Option.map_eq_some_iff.mp (show (T.cs.lookup g).map (fun c => c.1) = some x from hg)
    have e1 : y = x := e1
    subst e1
    have hm := mem_lk hc
    have f1 := fOk (c.fa y) (by
      unfold fasOf
      simp only [List.mem_append, List.mem_map]
      exact .inl (.inl (.inl (.inl (.inr ⟨_, hm, rfl⟩)))))
    have hgc : gcOf T.cs g = some c.d := by unfold gcOf; rw [hc]; rfl
    cases c with
    | int i =>
      obtain ⟨t, q⟩ := He.int_ok kin G f1
      exact ⟨_, .int i, .int i, q, ⟨t, rfl⟩, hgc, fun m H => .int i⟩
    | str z =>
      obtain ⟨t, q⟩ := He.str_ok kin G f1
      exact ⟨_, .str z, .str z, q, ⟨t, rfl⟩, hgc, fun m H => .str z⟩
    | txts zs =>
      have q := He.glo_ok kin G f1
      have b := List.all_eq_true.mp k1 (g, y, .txts zs) hm
      have b : (!zs.isEmpty && He.tupB K y (zs.map He.Dv.str)) = true := b
      rw [Bool.and_eq_true_iff] at b
      refine ⟨_, .ref (He.ga K y), .tup (zs.map .str), q, rfl, hgc, fun m H => ?_⟩
      have st := He.tupB_ok b.2 (fun _ => none)
      rw [List.map_map] at st
      rcases st with st | st
      · rcases st with st | ⟨_, st⟩ <;> cases st
      · cases zs with
        | nil => cases b.1
        | cons z zs =>
          refine .tup (.inr ⟨⟨z, zs, rfl⟩, ?_⟩) (DatL.ofStrs (z :: zs))
          exact st
  · exact He.free_ok kin G (fOk (.free x) (by
      unfold fasOf
      simp only [List.mem_append, List.mem_map]
      exact .inl (.inl (.inl (.inl (.inl (.inr ⟨_, hx, rfl⟩)))))))
  · obtain ⟨q, hq, rfl⟩ := Option.map_eq_some_iff.mp (show (T.is.lookup c).map (He.ga K) = some D from hD)
    have hm := mem_lk hq
    have here : ∀ f, f ∈ (He.Fa.glo q :: .cls q :: T.fl.map (.noat q)) → f ∈ fasOf T := fun f hf => by
      unfold fasOf
      simp only [List.mem_append]
      exact .inl (.inl (.inl (.inr (List.mem_flatMap.mpr ⟨_, hm, hf⟩))))
    exact ⟨He.cls_ok (fOk (.cls q) (here _ (.tail _ (.head _)))), He.noat_ok (fOk (.noat q k) (here _ (.tail _ (.tail _ (List.mem_map_of_mem (f := He.Fa.noat q) hk)))))⟩
  · obtain ⟨t, ht, hp⟩ := List.mem_filterMap.mp (show r ∈ T.ts.filterMap (prOf T) from hr)
    unfold prOf at hp
    split at hp
    · rename_i q hq
      split at hp
      · rename_i hpr
        obtain ⟨c, hc, rfl⟩ := Option.map_eq_some_iff.mp hp
        obtain ⟨i1, i2⟩ := cls_no (K := K) nd2 hc
        obtain ⟨l1, fd, d, F⟩ := row t ht
        have hrow := (t1 t ht).1
        unfold rowC at hrow
        rw [hq] at hrow
        simp only [hpr, if_true, List.isEmpty_iff] at hrow
        rw [hrow] at F
        have b := List.all_eq_true.mp k4 t ht
        rw [hq] at b
        simp only [hpr, if_true] at b
        unfold propB eq1 at b
        simp only [Bool.and_eq_true, decide_eq_true_eq] at b
        obtain ⟨b1, b2, b3, b4⟩ := b
        have had : adK K t = prG K q t.r.name := by unfold adK; rw [hq]; simp [hpr]
        rw [had] at d F
        have kc : Cls K (He.ga K q) := He.cls_ok (fOk (.cls q) (by
          unfold fasOf
          simp only [List.mem_append]
          exact .inl (.inl (.inl (.inr (List.mem_flatMap.mpr ⟨_, i2, .tail _ (.head _)⟩))))))
        refine ⟨t.r, _, _, _, fd, l1, rfl, i1, kc, ⟨b1, b2, b3, ?_⟩, d, (noDfF F)⟩
        unfold prG
        split at b4
        · rename_i g rest z
          rw [z]; exact ⟨rest, rfl⟩
        · cases b4
      · cases hp
    · cases hp
  · obtain ⟨t, ht, hp⟩ := List.mem_flatMap.mp (show r ∈ T.ts.flatMap (mtOf T) from hr)
    unfold mtOf at hp
    split at hp
    · rename_i q hq
      split at hp
      · cases hp
      · rename_i hpr
        split at hp
        · cases hp
        · rename_i hni
          split at hp
          · rename_i c hc
            obtain ⟨i1, i2⟩ := cls_no (K := K) nd2 hc
            obtain ⟨l1, fd, d, F⟩ := row t ht
            have had : adK K t = He.ma K (He.ga K q) t.r.name := by unfold adK; rw [hq]; simp [hpr]
            rw [had] at d F
            have kc : Cls K (He.ga K q) := He.cls_ok (fOk (.cls q) (by
              unfold fasOf
              simp only [List.mem_append]
              exact .inl (.inl (.inl (.inr (List.mem_flatMap.mpr ⟨_, i2, .tail _ (.head _)⟩))))))
            have km : Meth K (He.ga K q) t.r.name (He.ma K (He.ga K q) t.r.name) := He.meth_ok (fOk (.meth q t.r.name) (by
              unfold fasOf
              simp only [List.mem_append]
              refine .inl (.inl (.inr (List.mem_flatMap.mpr ⟨t, ht, ?_⟩)))
              rw [hq]; simp [hpr, hni]))
            have hrow := (t1 t ht).1
            unfold rowC at hrow
            rw [hq] at hrow
            simp only [hpr, hni, if_false, Bool.false_eq_true] at hrow
            by_cases hdf : t.df = []
            · rw [hdf] at hp F
              simp only [List.isEmpty_nil, if_true, List.mem_singleton] at hp
              subst hp
              exact ⟨t.r, _, _, fd, [], [], l1, rfl, i1, kc, km, d, simple_binds (d.simple (noDfF F)), .nil, fun m H => .nil⟩
            · rw [show t.df.isEmpty = false by simpa using hdf, Bool.false_or] at hrow
              split at hrow
              · rename_i a b hps
                rw [Bool.and_eq_true_iff] at hrow
                obtain ⟨r1, r2⟩ := hrow
                have r1 := of_decide_eq_true r1
                have r2 := of_decide_eq_true r2
                have hcc := (t1 t ht).2
                unfold fnC at hcc
                simp only [Bool.and_eq_true] at hcc
                obtain ⟨⟨⟨⟨y1, _⟩, _⟩, _⟩, _⟩ := hcc
                unfold argsC at y1
                simp only [Bool.and_eq_true, decide_eq_true_eq, List.isEmpty_iff, Option.isNone_iff_eq_none] at y1
                obtain ⟨⟨⟨⟨⟨a1, a2⟩, a3⟩, a4⟩, a5⟩, a6⟩ := y1
                rw [hps] at a2
                obtain ⟨⟨ds, rd, bd⟩, b0⟩ := binds_d F (by rw [List.length_map, r2]) a1 a2 a3 a4 a5 r1
                rw [if_neg (by simpa using hdf)] at hp
                rcases List.mem_cons.mp hp with rfl | hp
                · exact ⟨t.r, _, _, fd, [], [], l1, rfl, i1, kc, km, d, by rw [hps]; exact b0, .nil, fun m H => .nil⟩
                · cases List.mem_singleton.mp hp
                  exact ⟨t.r, _, _, fd, _, ds, l1, rfl, i1, kc, km, d, by rw [hps]; exact bd, rd, fun m H => DatL.ofInts t.df⟩
              · cases hrow
          · cases hp
    · cases hp
  · obtain ⟨t, ht, hp⟩ := List.mem_filterMap.mp (show r ∈ T.ts.filterMap (maOf T) from hr)
    unfold maOf at hp
    split at hp
    · rename_i q hq
      split at hp
      · cases hp
      · rename_i hpr
        split at hp
        · rename_i hni
          obtain ⟨c, hc, rfl⟩ := Option.map_eq_some_iff.mp hp
          obtain ⟨i1, i2⟩ := cls_no (K := K) nd2 hc
          obtain ⟨l1, fd, d, F⟩ := row t ht
          have had : adK K t = He.ma K (He.ga K q) "__init__" := by unfold adK; rw [hq]; simp [hpr, hni]
          rw [had] at d F
          have hrow := (t1 t ht).1
          unfold rowC at hrow
          rw [hq] at hrow
          simp only [hpr, hni, if_true, if_false, Bool.false_eq_true, List.isEmpty_iff] at hrow
          rw [hrow] at F
          have km : Mk K (He.ga K q) (He.ma K (He.ga K q) "__init__") := He.mkr_ok (fOk (.mkr q) (by
            unfold fasOf
            simp only [List.mem_append]
            refine .inl (.inl (.inr (List.mem_flatMap.mpr ⟨t, ht, ?_⟩)))
            rw [hq]; simp [hpr, hni]))
          have hg := g1 q (by
            unfold fasOf
            simp only [List.mem_append]
            exact .inl (.inl (.inl (.inr (List.mem_flatMap.mpr ⟨_, i2, .head _⟩)))))
          exact ⟨t.r, _, _, fd, l1, rfl, i1, hg, km, d, (noDfF F)⟩
        · cases hp
    · cases hp
  · obtain ⟨x, hx, rfl⟩ := List.mem_map.mp (show r ∈ T.xs.map (fun x => (x.d.id, x.d.fs.length, x.d.name)) from hr)
    have b := List.all_eq_true.mp k5 x hx
    unfold xcB eq1 at b
    simp only [Bool.and_eq_true, decide_eq_true_eq] at b
    obtain ⟨b1, b2, b3, b4, b5, b6⟩ := b
    obtain ⟨fd, F⟩ := funA (map_eq v2 x hx) b5
    have hX := xclsB_of b1
    have here : ∀ f, f ∈ (He.Fa.glo x.d.name :: x.d.fs.map (.noat x.d.name)) → f ∈ fasOf T := fun f hf => by
      unfold fasOf
      simp only [List.mem_append]
      exact .inl (.inr (List.mem_flatMap.mpr ⟨_, hx, hf⟩))
    have hb : (x.d.own = true ∧ ownIB K x.d = true ∧ mg x.d.g = some (.ref (He.ga K x.d.g))) ∨ (x.d.own = false ∧ bltIB K x.d = true ∧ mg x.d.g = none) := by
      split at b4
      · rename_i ho
        rw [Bool.and_eq_true_iff] at b4
        exact .inl ⟨ho, b4.1, He.glo_ok kin G b4.2⟩
      · rename_i ho
        rw [Bool.and_eq_true_iff] at b4
        exact .inr ⟨by simpa using ho, b4.1, He.free_ok kin G b4.2⟩
    obtain ⟨i1, i2, i3⟩ := init_ok (mg := mg) (funF F) (noDfF F) (t3 x hx) hX (fun f hf => He.noat_ok (fOk (.noat x.d.name f) (here _ (.tail _ (List.mem_map_of_mem (f := He.Fa.noat x.d.name) hf))))) hb
    have fx := find_nodup nd3 hx
    refine ⟨⟨_, _, _, _, He.ga K x.d.name, _, fd, _, x.d.fs, x.d.bs.bas, hX, b2, b3, i1, i2, g1 _ (here _ (.head _)), i3, ?_, ?_, rfl, ?_⟩⟩
    · show (T.xs.find? fun y => decide (y.d.id = x.d.id)).map (fun x => He.ga K x.d.name) = _
      rw [fx]; rfl
    · show (match T.xs.find? fun y => decide (y.d.id = x.d.id) with | some x => x.d.fs.reverse | none => []) = _
      rw [fx]
    · have := t3 x hx
      have hl : x.d.fs.length ≤ 2 := by
        unfold initC at this
        simp only [Bool.and_eq_true] at this
        have := this.2
        split at this
        · rename_i z; rw [z]; simp
        · rename_i z; rw [z]; simp
        · cases this
      exact Nat.le_trans hl (by decide)
  · have hr : r ∈ T.xn := hr
    refine ⟨_, g1 r.1 (by
      unfold fasOf
      simp only [List.mem_append, List.mem_map]
      exact .inr ⟨r, hr, rfl⟩), fun i D hD => ?_⟩
    obtain ⟨x, hx, rfl⟩ := Option.map_eq_some_iff.mp (show (T.xs.find? fun x => decide (x.d.id = i)).map (fun x => He.ga K x.d.name) = some D from hD)
    have hm := List.mem_of_find?_eq_some hx
    have hi : x.d.id = i := by simpa using List.find?_some hx
    subst hi
    have b := List.all_eq_true.mp k5 x hm
    unfold xcB at b
    simp only [Bool.and_eq_true] at b
    have := List.all_eq_true.mp b.2.2.2.2.2 r hr
    exact of_decide_eq_true this

theorem law_of {l : PySem.W.OpenLaw} {w : World} {k : Nat} {t : TR} {x : Str} {fa : Addr} (kin : K.In h) (G : h.Ns mainGlobals mg) (c : obsT T K = valT p T) (tc : tabC p T = true)
    (ht : (tabOf T.ts).lookup t.id = some t.r) (hx : t.r.ps = [x]) (hq : t.r.q = none) (hm : mg t.r.name = some (.ref fa))
    (run : ∀ ns : List Int, ns.length ≤ 63 → ∃ W, callK (tabT (tabOf T.ts)) (gcOf T.cs) k t.id [.lst (ns.map .int)] [] = some (.val (.bl true), W)) :
    ∃ (fd : FuncData) (sp : Sp), (∀ (s : Shared) (u : Value), BindsTo s fd ⟨[u], []⟩ [(x, u)]) ∧
      (∀ (H : Hp) (a : Addr) (ns : List Int), ns.length ≤ 63 → FzL K H a (ns.map V.int) → sp [.ref a] H (fun v _ => v = .bl true) fun _ _ _ => False) ∧ ∀ base : Heap, K.In base → base.Ns mainGlobals mg → FnG l.prog w K mg base (2 * k + 2) fa fd [x] sp := by
  have E1 := env_of kin G c tc
  obtain ⟨fa', fd, d, df, hm2, _⟩ := E1.defs _ _ ht (by unfold FE.top; rw [hq]; rfl)
  rw [hm] at hm2; cases hm2
  refine ⟨fd, _, fun s u => ?_, fun H a ns hl hF => ?_, fun base _ _ => by
    have := fn_all (P := l.prog) (w := w) (base := base) E1 k t.id t.r fa fd ht d
    rw [hx] at this
    exact this⟩
  · have S := d.simple df
    rw [hx] at S
    exact BindsTo.of_eq (bind_pos S (us := [u]) rfl)
  · obtain ⟨W, hr⟩ := run ns hl
    refine ⟨[], [.lst (ns.map .int)], [], rfl, .cons (.lst hF (DatL.ofInts ns)) .nil, ⟨rfl, fun i sl h => (by cases i <;> cases h), rfl, fun n a o h => (by cases n <;> cases h), fun i j a h => (by cases i <;> cases h), fun i j a h => (own_nil (W := []) h).elim, fun i a h => (own_nil (W := []) h).elim⟩, ?_⟩
    rw [hr]
    intro m' H' v _ _ hv
    cases hv; rfl
end
end GP

set_option Elab.async false
set_option linter.all false
set_option maxRecDepth 100000
set_option autoImplicit false
set_option maxHeartbeats 0
namespace GP.k16
open PySem PySem.Spec L2
def f_is_integer : Fn := ⟨1, 1, [
  .ret (.andv (.isi (.var 0) .int) (.notv (.isi (.var 0) .bool)))]⟩
def f_is_whole : Fn := ⟨3, 3, [
  .ret (.andv (.call 4 [(.var 0)]) (.chain .le .le (.var 1) (.var 0) (.var 2)))]⟩
def f_is_level : Fn := ⟨1, 1, [
  .ret (.call 5 [(.var 0), (.bin .sub (.con (.int 0)) (.glob 0)), (.glob 0)])]⟩
def f_need_gauge : Fn := ⟨1, 1, [
  .ite (.or (.not (.val (.isi (.var 0) .tuple))) (.val (.cmp .ne (.blt .len [(.var 0)]) (.con (.int 2))))) [.rais 0 1 [(.con (.str "form"))]] [],
  .ite (.not (.val (.call 5 [(.bidx 0 0), (.con (.int 1)), (.glob 0)]))) [.rais 0 1 [(.con (.str "up"))]] [],
  .ite (.not (.val (.call 5 [(.bidx 0 1), (.con (.int 1)), (.glob 0)]))) [.rais 0 1 [(.con (.str "down"))]] [],
  .ret (.var 0)]⟩
def f_is_visit : Fn := ⟨1, 6, [
  .ite (.or (.not (.val (.isi (.var 0) .tuple))) (.val (.cmp .ne (.blt .len [(.var 0)]) (.con (.int 5))))) [.ret (.con (.bl false))] [],
  .unp [1, 2, 3, 4, 5] (.var 0),
  .ite (.or (.not (.val (.call 5 [(.var 1), (.con (.int 0)), (.glob 0)]))) (.or (.not (.val (.call 6 [(.var 3)]))) (.or (.not (.val (.call 6 [(.var 4)]))) (.val (.cmp .gt (.var 3) (.var 4)))))) [.ret (.con (.bl false))] [],
  .ite (.and (.val (.isnN (.var 2))) (.not (.val (.call 5 [(.var 2), (.var 3), (.var 4)])))) [.ret (.con (.bl false))] [],
  .ret (.orv (.isN (.var 5)) (.call 5 [(.var 5), (.con (.int 0)), (.con (.int 1))]))]⟩
def f_is_next : Fn := ⟨2, 2, [
  .ret (.andv (.call 8 [(.var 1)]) (.orv (.cmp .eq (.var 0) (.tup [])) (.cmp .gt (.bidx 1 0) (.idx (.bidx 0 (-1)) (.con (.int 0))))))]⟩
def f_need_log : Fn := ⟨1, 3, [
  .ite (.or (.not (.val (.isi (.var 0) .tuple))) (.not (.val (.chain .le .le (.con (.int 1)) (.blt .len [(.var 0)]) (.glob 1))))) [.rais 1 1 [(.con .non)]] [],
  .for_ (.tp [1, 2]) (.enm (.var 0)) [.ite (.not (.val (.call 9 [(.slc (.var 0) none (some (.var 1))), (.var 2)]))) [.rais 1 1 [(.var 1)]] []],
  .ret (.var 0)]⟩
def f_hours_for : Fn := ⟨2, 2, [
  .ret (.ite (.val (.cmp .gt (.var 0) (.con (.int 0)))) (.bin .fdiv (.bin .sub (.bin .add (.var 0) (.var 1)) (.con (.int 1))) (.var 1)) (.con (.int 0)))]⟩
def f_merged : Fn := ⟨1, 5, [
  .set 1 (.lst []),
  .for_ (.tp [2, 3]) (.seq (.blt .sorted [(.comp (.var 4) (.nm 4) (.seq (.var 0)) (some (.val (.cmp .le (.bidx 4 0) (.bidx 4 1)))) [4])])) [.ite (.and (.val (.bemp 1 true)) (.val (.cmp .le (.var 2) (.bin .add (.idx (.bidx 1 (-1)) (.con (.int 1))) (.con (.int 1)))))) [.sub 1 (.neg (.con (.int 1))) (.tup [(.idx (.bidx 1 (-1)) (.con (.int 0))), (.blt .max2 [(.idx (.bidx 1 (-1)) (.con (.int 1))), (.var 3)])])] [.app 1 (.tup [(.var 2), (.var 3)])]],
  .ret (.var 1)]⟩
def f_clipped : Fn := ⟨3, 5, [
  .ret (.call 33 [(.comp (.tup [(.blt .max2 [(.var 3), (.var 1)]), (.blt .min2 [(.var 4), (.var 2)])]) (.tp [3, 4]) (.seq (.var 0)) none [3, 4])])]⟩
def f_met : Fn := ⟨2, 5, [
  .set 2 (.lst []),
  .for_ (.tp [3, 4]) (.seq (.var 1)) [.ext 2 (.call 34 [(.var 0), (.var 3), (.var 4)])],
  .ret (.call 33 [(.var 2)])]⟩
def f_turned : Fn := ⟨1, 1, [
  .ret (.tup [(.bidx 0 1), (.bidx 0 0)])]⟩
def f_images_of : Fn := ⟨5, 14, [
  .unp [5, 6] (.var 1),
  .unp [7, 8] (.var 3),
  .unp [9, 10] (.var 0),
  .ite (.val (.cmp .eq (.var 4) (.tup [(.con (.bl false)), (.con (.bl false))]))) [.ret (.lst [(.tup [(.blt .max2 [(.var 7), (.bin .sub (.var 5) (.bin .mul (.var 10) (.var 2)))]), (.blt .min2 [(.var 8), (.bin .add (.var 6) (.bin .mul (.var 9) (.var 2)))])])])] [],
  .par [11, 12] [(.bin .sub (.var 2) (.call 24 [(.bin .sub (.var 5) (.var 7)), (.var 10)])), (.bin .sub (.var 2) (.call 24 [(.bin .sub (.var 8) (.var 6)), (.var 9)]))],
  .ite (.val (.cmp .eq (.var 4) (.tup [(.con (.bl true)), (.con (.bl true))]))) [.par [11, 12] [(.bin .sub (.var 12) (.call 24 [(.bin .sub (.var 8) (.var 7)), (.var 10)])), (.bin .sub (.var 11) (.call 24 [(.bin .sub (.var 8) (.var 7)), (.var 9)]))]] [],
  .set 13 (.lst []),
  .ite (.and (.val (.bidx 4 0)) (.val (.cmp .ge (.var 11) (.con (.int 0))))) [.app 13 (.tup [(.var 7), (.blt .min2 [(.var 8), (.bin .add (.var 7) (.bin .mul (.var 9) (.var 11)))])])] [],
  .ite (.and (.val (.bidx 4 1)) (.val (.cmp .ge (.var 12) (.con (.int 0))))) [.app 13 (.tup [(.blt .max2 [(.var 7), (.bin .sub (.var 8) (.bin .mul (.var 10) (.var 12)))]), (.var 8)])] [],
  .ret (.var 13)]⟩
def f_image : Fn := ⟨5, 7, [
  .set 5 (.lst []),
  .for_ (.nm 6) (.seq (.call 34 [(.var 1), (.bidx 3 0), (.bidx 3 1)])) [.ext 5 (.call 37 [(.var 0), (.var 6), (.var 2), (.var 3), (.var 4)])],
  .ret (.call 33 [(.var 5)])]⟩
def f_let_by : Fn := ⟨1, 1, [
  .ret (.ite (.val (.isN (.bidx 0 1))) (.lst [(.tup [(.bidx 0 2), (.bidx 0 3)])]) (.lst [(.tup [(.bidx 0 1), (.bidx 0 1)])]))]⟩
def f_choices_of : Fn := ⟨1, 1, [
  .ret (.ite (.val (.isN (.bidx 0 4))) (.tup [(.con (.int 0)), (.con (.int 1))]) (.tup [(.bidx 0 4)]))]⟩
def f_touched_by : Fn := ⟨3, 3, [
  .ite (.val (.cmp .eq (.var 2) (.con (.int 1)))) [.ret (.tup [(.con (.bl true)), (.con (.bl true))])] [],
  .ite (.or (.val (.cmp .gt (.bidx 1 2) (.bidx 0 2))) (.val (.cmp .lt (.bidx 1 3) (.bidx 0 3)))) [.ret (.con .non)] [],
  .ret (.tup [(.cmp .lt (.bidx 1 2) (.bidx 0 2)), (.cmp .gt (.bidx 1 3) (.bidx 0 3))])]⟩
def f_led : Fn := ⟨5, 6, [
  .set 5 (.call 41 [(.var 1), (.var 2), (.var 4)]),
  .ite (.val (.isN (.var 5))) [.ret (.lst [])] [],
  .ret (.call 35 [(.call 38 [(.var 0), (.var 3), (.bin .sub (.bidx 2 0) (.bidx 1 0)), (.tup [(.bidx 2 2), (.bidx 2 3)]), (.var 5)]), (.call 39 [(.var 2)])])]⟩
def f_led_back : Fn := ⟨5, 7, [
  .set 5 (.call 41 [(.var 1), (.var 2), (.var 4)]),
  .ite (.val (.isN (.var 5))) [.ret (.lst [])] [],
  .set 6 (.tup [(.bidx 2 2), (.bidx 2 3)]),
  .ret (.call 35 [(.call 38 [(.call 36 [(.var 0)]), (.var 3), (.bin .sub (.bidx 2 0) (.bidx 1 0)), (.var 6), (.var 5)]), (.call 39 [(.var 1)])])]⟩
def f_led_by_any : Fn := ⟨4, 6, [
  .set 4 (.lst []),
  .for_ (.nm 5) (.seq (.call 40 [(.var 1)])) [.ext 4 (.call 42 [(.var 0), (.var 1), (.var 2), (.var 3), (.var 5)])],
  .ret (.call 33 [(.var 4)])]⟩
def f_forwards : Fn := ⟨2, 5, [
  .set 2 (.lst [(.call 39 [(.bidx 1 0)])]),
  .for_ (.tp [3, 4]) (.zip (.var 1) (.slc (.var 1) (some (.con (.int 1))) none)) [.app 2 (.call 44 [(.var 0), (.var 3), (.var 4), (.bidx 2 (-1))])],
  .ret (.var 2)]⟩
def f_backwards : Fn := ⟨2, 8, [
  .set 2 (.lst [(.call 39 [(.bidx 1 (-1))])]),
  .for_ (.nm 3) (.rng3 (.bin .sub (.blt .len [(.var 1)]) (.con (.int 2))) (.neg (.con (.int 1))) (-1)) [.par [4, 5, 6] [(.idx (.var 1) (.var 3)), (.idx (.var 1) (.bin .add (.var 3) (.con (.int 1)))), (.lst [])], .for_ (.nm 7) (.seq (.call 40 [(.var 4)])) [.ext 6 (.call 43 [(.var 0), (.var 4), (.var 5), (.bidx 2 0), (.var 7)])], .set 2 (.bin .add (.lst [(.call 33 [(.var 6)])]) (.var 2))],
  .ret (.var 2)]⟩
def f_stands_in : Fn := ⟨2, 4, [
  .ret (.comp (.call 35 [(.var 2), (.var 3)]) (.tp [2, 3]) (.zip (.call 45 [(.var 0), (.var 1)]) (.call 46 [(.var 0), (.var 1)])) none [2, 3])]⟩
def f_need_asked : Fn := ⟨2, 2, [
  .expr (.call 7 [(.var 0)]),
  .expr (.call 10 [(.var 1)])]⟩
def f_stands : Fn := ⟨2, 3, [
  .expr (.call 48 [(.var 0), (.var 1)]),
  .ret (.blt .tuple [(.comp (.blt .tuple [(.var 2)]) (.nm 2) (.seq (.call 47 [(.var 0), (.var 1)])) none [2])])]⟩
def f_fault : Fn := ⟨2, 5, [
  .expr (.call 48 [(.var 0), (.var 1)]),
  .set 2 (.comp (.bin .add (.var 3) (.con (.int 1))) (.tp [3, 4]) (.enm (.call 45 [(.var 0), (.var 1)])) (some (.val (.bemp 4 false))) [3, 4]),
  .ret (.ite (.val (.bemp 2 true)) (.bidx 2 0) (.con .non))]⟩
def f_splits_of : Fn := ⟨1, 4, [
  .set 1 (.lst []),
  .for_ (.nm 2) (.seq (.ite (.val (.bidx 0 0)) (.tup [(.con (.bl true)), (.con (.bl false))]) (.tup [(.con (.bl false))]))) [.for_ (.nm 3) (.seq (.ite (.val (.bidx 0 1)) (.tup [(.con (.bl true)), (.con (.bl false))]) (.tup [(.con (.bl false))]))) [.app 1 (.tup [(.tup [(.var 2), (.var 3)]), (.tup [(.andv (.bidx 0 0) (.notv (.var 2))), (.andv (.bidx 0 1) (.notv (.var 3)))])])]],
  .ret (.var 1)]⟩
def f_between : Fn := ⟨4, 15, [
  .par [4, 5] [(.idx (.var 1) (.var 2)), (.idx (.var 1) (.bin .add (.var 2) (.con (.int 1))))],
  .par [6, 7] [(.idx (.call 45 [(.var 0), (.var 1)]) (.var 2)), (.idx (.call 46 [(.var 0), (.var 1)]) (.bin .add (.var 2) (.con (.int 1))))],
  .par [8, 9] [(.tup [(.bidx 5 2), (.bidx 5 3)]), (.lst [])],
  .for_ (.nm 10) (.seq (.call 40 [(.var 4)])) [.set 11 (.call 41 [(.var 4), (.var 5), (.var 10)]), .ite (.val (.isN (.var 11))) [.cont] [], .for_ (.tp [12, 13]) (.seq (.call 60 [(.var 11)])) [.set 14 (.call 38 [(.var 0), (.var 6), (.bin .sub (.var 3) (.bidx 4 0)), (.var 8), (.var 12)]), .ext 9 (.call 35 [(.var 14), (.call 38 [(.call 36 [(.var 0)]), (.var 7), (.bin .sub (.bidx 5 0) (.var 3)), (.var 8), (.var 13)])])]],
  .ret (.call 33 [(.var 9)])]⟩
def f_levels_at : Fn := ⟨3, 5, [
  .expr (.call 48 [(.var 0), (.var 1)]),
  .ite (.not (.val (.call 5 [(.var 2), (.idx (.bidx 1 0) (.con (.int 0))), (.idx (.bidx 1 (-1)) (.con (.int 0)))]))) [.rais 2 1 [(.var 2)]] [],
  .for_ (.tp [3, 4]) (.enm (.var 1)) [.ite (.val (.cmp .eq (.bidx 4 0) (.var 2))) [.ret (.blt .tuple [(.idx (.call 47 [(.var 0), (.var 1)]) (.var 3))])] []],
  .set 3 (.bin .sub (.blt .len [(.comp (.var 4) (.nm 4) (.seq (.var 1)) (some (.val (.cmp .lt (.bidx 4 0) (.var 2)))) [4])]) (.con (.int 1))),
  .ret (.blt .tuple [(.call 61 [(.var 0), (.var 1), (.var 3), (.var 2)])])]⟩
def f_mirrored : Fn := ⟨1, 3, [
  .ret (.call 33 [(.comp (.tup [(.bin .sub (.con (.int 0)) (.var 2)), (.bin .sub (.con (.int 0)) (.var 1))]) (.tp [1, 2]) (.seq (.var 0)) none [1, 2])])]⟩
def f_hours_by : Fn := ⟨4, 4, [
  .ite (.val (.var 3)) [.ret (.bin .add (.call 24 [(.bin .sub (.bidx 2 1) (.idx (.bidx 1 (-1)) (.con (.int 1)))), (.bidx 0 0)]) (.call 24 [(.bin .sub (.bidx 2 1) (.bidx 2 0)), (.bidx 0 1)]))] [],
  .ret (.call 24 [(.bin .sub (.idx (.bidx 1 0) (.con (.int 0))) (.bidx 2 0)), (.bidx 0 1)])]⟩
def f_spans_of : Fn := ⟨5, 12, [
  .unp [5, 6] (.var 1),
  .ite (.or (.val (.bemp 5 false)) (.val (.bemp 6 false))) [.ret (.lst [])] [],
  .set 7 (.lst []),
  .for_ (.tp [8, 9]) (.seq (.ite (.val (.var 4)) (.tup [(.tup [(.con (.bl true)), (.con (.bl false))]), (.tup [(.con (.bl false)), (.con (.bl true))])]) (.tup [(.tup [(.con (.bl false)), (.con (.bl false))])]))) [.set 10 (.call 65 [(.var 0), (.var 5), (.var 3), (.var 8)]), .set 11 (.bin .sub (.var 2) (.call 65 [(.call 36 [(.var 0)]), (.var 6), (.var 3), (.var 9)])), .ite (.val (.cmp .le (.var 10) (.var 11))) [.app 7 (.tup [(.var 10), (.var 11)])] []],
  .ret (.var 7)]⟩
def f_spans_at : Fn := ⟨4, 14, [
  .par [4, 5] [(.idx (.var 1) (.bin .sub (.var 2) (.con (.int 1)))), (.idx (.var 1) (.var 2))],
  .par [6, 7] [(.idx (.call 45 [(.var 0), (.var 1)]) (.bin .sub (.var 2) (.con (.int 1)))), (.idx (.call 46 [(.var 0), (.var 1)]) (.var 2))],
  .par [8, 9] [(.tup [(.bidx 5 2), (.bidx 5 3)]), (.lst [])],
  .set 6 (.call 34 [(.var 6), (.bidx 5 2), (.bidx 5 3)]),
  .for_ (.nm 10) (.seq (.call 40 [(.var 4)])) [.set 11 (.call 41 [(.var 4), (.var 5), (.var 10)]), .ite (.val (.isN (.var 11))) [.cont] [], .ite (.val (.cmp .eq (.var 3) (.glob 3))) [.ext 9 (.call 66 [(.var 0), (.tup [(.var 6), (.var 7)]), (.bin .sub (.bidx 5 0) (.bidx 4 0)), (.var 8), (.bidx 11 1)])] [.set 12 (.tup [(.call 64 [(.var 6)]), (.call 64 [(.var 7)])]), .set 13 (.tup [(.bin .sub (.con (.int 0)) (.bidx 5 3)), (.bin .sub (.con (.int 0)) (.bidx 5 2))]), .ext 9 (.call 66 [(.call 36 [(.var 0)]), (.var 12), (.bin .sub (.bidx 5 0) (.bidx 4 0)), (.var 13), (.bidx 11 0)])]],
  .ret (.var 9)]⟩
def f_span : Fn := ⟨4, 8, [
  .expr (.call 48 [(.var 0), (.var 1)]),
  .ite (.not (.val (.call 5 [(.var 2), (.con (.int 1)), (.bin .sub (.blt .len [(.var 1)]) (.con (.int 1)))]))) [.rais 2 1 [(.var 2)]] [],
  .ite (.or (.not (.val (.isi (.var 3) .str))) (.val (.cmp .nin (.var 3) (.tup [(.glob 3), (.glob 4)])))) [.rais 2 1 [(.var 3)]] [],
  .par [4, 5] [(.call 67 [(.var 0), (.var 1), (.var 2), (.var 3)]), (.idx (.idx (.var 1) (.bin .sub (.var 2) (.con (.int 1)))) (.con (.int 0)))],
  .ite (.val (.bemp 4 false)) [.ret (.con .non)] [],
  .ret (.tup [(.bin .add (.var 5) (.blt .min1 [(.comp (.var 6) (.tp [6, 7]) (.seq (.var 4)) none [6, 7])])), (.bin .add (.var 5) (.blt .max1 [(.comp (.var 7) (.tp [6, 7]) (.seq (.var 4)) none [6, 7])]))])]⟩
def f_backs : Fn := ⟨2, 10, [
  .expr (.call 48 [(.var 0), (.var 1)]),
  .set 2 (.dint 0 (.idx (.call 45 [(.var 0), (.slc (.var 1) none (some (.con (.int 1))))]) (.con (.int 0)))),
  .for_ (.tp [3, 4]) (.zip (.var 1) (.slc (.var 1) (some (.con (.int 1))) none)) [.set 5 .dnew, .for_ (.tp [6, 7]) (.items (.var 2)) [.for_ (.nm 8) (.seq (.call 40 [(.var 3)])) [.set 9 (.call 42 [(.var 0), (.var 3), (.var 4), (.var 7), (.var 8)]), .sub 5 (.bin .add (.var 6) (.var 8)) (.call 33 [(.bin .add (.bget 5 (.bin .add (.var 6) (.var 8)) (.lst [])) (.var 9))])]], .set 2 (.var 5)],
  .ret (.blt .tuple [(.blt .sorted [(.comp (.var 6) (.tp [6, 7]) (.items (.var 2)) (some (.val (.bemp 7 true))) [6, 7])])])]⟩
def f_sure_back : Fn := ⟨3, 9, [
  .expr (.call 48 [(.var 0), (.var 1)]),
  .ite (.not (.val (.call 5 [(.var 2), (.con (.int 0)), (.bin .sub (.blt .len [(.var 1)]) (.con (.int 2)))]))) [.rais 2 1 [(.var 2)]] [],
  .par [3, 4] [(.idx (.call 45 [(.var 0), (.var 1)]) (.var 2)), (.idx (.call 46 [(.var 0), (.var 1)]) (.bin .add (.var 2) (.con (.int 1))))],
  .par [5, 6, 7] [(.idx (.var 1) (.var 2)), (.idx (.var 1) (.bin .add (.var 2) (.con (.int 1)))), (.lst [])],
  .for_ (.nm 8) (.seq (.call 40 [(.var 5)])) [.ite (.val (.cmp .ne (.call 35 [(.call 42 [(.var 0), (.var 5), (.var 6), (.var 3), (.var 8)]), (.var 4)]) (.lst []))) [.app 7 (.var 8)] []],
  .ret (.ite (.val (.cmp .eq (.blt .len [(.var 7)]) (.con (.int 1)))) (.bidx 7 0) (.con .non))]⟩
def f_Record__init__ : Fn := ⟨2, 2, [
  .fst (.var 0) "own_gauge" (.call 7 [(.var 1)]),
  .fst (.var 0) "visits" (.tup []),
  .fst (.var 0) "coming" (.tup [])]⟩
def f_Record__gauge : Fn := ⟨1, 1, [
  .ret (.fld (.var 0) "own_gauge")]⟩
def f_Record__log : Fn := ⟨1, 2, [
  .ret (.blt .tuple [(.comp (.bidx 1 0) (.nm 1) (.seq (.fld (.var 0) "visits")) none [1])])]⟩
def f_Record__now : Fn := ⟨1, 1, [
  .ret (.ite (.val (.cmp .ne (.fld (.var 0) "visits") (.tup []))) (.idx (.idx (.fld (.var 0) "visits") (.neg (.con (.int 1)))) (.con (.int 1))) (.tup []))]⟩
def f_Record__visit : Fn := ⟨2, 4, [
  .set 2 (.prop 128 3 "log" (.var 0)),
  .ite (.not (.val (.call 9 [(.var 2), (.var 1)]))) [.rais 1 1 [(.blt .len [(.var 2)])]] [],
  .ite (.val (.cmp .eq (.blt .len [(.var 2)]) (.glob 1))) [.rais 4 1 [(.glob 1)]] [],
  .set 3 (.blt .tuple [(.idx (.call 45 [(.fld (.var 0) "own_gauge"), (.tups (.var 2) [(.var 1)])]) (.neg (.con (.int 1))))]),
  .fst (.var 0) "visits" (.tups (.fld (.var 0) "visits") [(.tup [(.var 1), (.var 3)])]),
  .fst (.var 0) "coming" (.tup []),
  .ret (.var 3)]⟩
def f_Record__undo : Fn := ⟨2, 3, [
  .expr (.call 108 [(.var 1), (.fld (.var 0) "visits")]),
  .set 2 (.bin .sub (.blt .len [(.fld (.var 0) "visits")]) (.var 1)),
  .fst (.var 0) "coming" (.bin .add (.slc (.fld (.var 0) "visits") (some (.var 2)) none) (.fld (.var 0) "coming")),
  .fst (.var 0) "visits" (.slc (.fld (.var 0) "visits") none (some (.var 2)))]⟩
def f_Record__redo : Fn := ⟨2, 2, [
  .expr (.call 108 [(.var 1), (.fld (.var 0) "coming")]),
  .fst (.var 0) "visits" (.bin .add (.fld (.var 0) "visits") (.slc (.fld (.var 0) "coming") none (some (.var 1)))),
  .fst (.var 0) "coming" (.slc (.fld (.var 0) "coming") (some (.var 1)) none)]⟩
def f_need_many : Fn := ⟨2, 2, [
  .ite (.or (.not (.val (.call 4 [(.var 0)]))) (.val (.cmp .lt (.var 0) (.con (.int 1))))) [.rais 2 1 [(.var 0)]] [],
  .ite (.val (.cmp .gt (.var 0) (.blt .len [(.var 1)]))) [.rais 5 1 [(.var 0)]] []]⟩
def f_number_in : Fn := ⟨1, 3, [
  .set 1 (.ite (.val (.cmp .eq (.slc (.var 0) none (some (.con (.int 1)))) (.glob 14))) (.slc (.var 0) (some (.con (.int 1))) none) (.var 0)),
  .ite (.or (.not (.val (.chain .le .le (.con (.int 1)) (.blt .len [(.var 1)]) (.glob 11)))) (.not (.val (.blt .all [(.comp (.cmp .isin (.var 2) (.glob 12)) (.nm 2) (.seq (.var 1)) none [2])])))) [.ret (.con .non)] [],
  .ret (.ite (.or (.val (.cmp .eq (.var 0) (.con (.str "0")))) (.val (.cmp .ne (.bidx 1 0) (.con (.str "0"))))) (.blt .int [(.var 0)]) (.con .non))]⟩
def f_things_in : Fn := ⟨3, 8, [
  .set 3 (.lst []),
  .for_ (.tp [4, 5]) (.enm (.var 0)) [.ite (.val (.cmp .eq (.var 4) (.blt .len [(.var 1)]))) [.rais 6 2 [(.var 2), (.var 4)]] [], .set 6 (.call 100 [(.var 5)]), .set 7 (.andv (.cmp .eq (.var 5) (.glob 14)) (.cmp .ne (.idx (.var 1) (.var 4)) (.con (.str "number")))), .ite (.or (.and (.val (.isN (.var 6))) (.not (.val (.var 7)))) (.and (.val (.cmp .eq (.idx (.var 1) (.var 4)) (.con (.str "back")))) (.val (.cmp .nin (.var 5) (.tup [(.con (.str "0")), (.con (.str "1")), (.glob 14)]))))) [.rais 6 2 [(.var 2), (.var 4)]] [], .app 3 (.var 6)],
  .ite (.val (.cmp .lt (.blt .len [(.var 3)]) (.blt .len [(.var 1)]))) [.rais 6 2 [(.var 2), (.blt .len [(.var 3)])]] [],
  .ret (.blt .tuple [(.var 3)])]⟩
def f_visit_in : Fn := ⟨2, 2, [
  .ret (.call 101 [(.var 0), (.glob 13), (.var 1)])]⟩
def f_stretches_text : Fn := ⟨1, 3, [
  .ret (.ite (.val (.cmp .ne (.var 0) (.tup []))) (.mth .join (.glob 10) (.comp (.bin .add (.bin .add (.blt .str [(.var 1)]) (.con (.str ".."))) (.blt .str [(.var 2)])) (.tp [1, 2]) (.seq (.var 0)) none [1, 2])) (.glob 15))]⟩
def f_numbers_text : Fn := ⟨1, 2, [
  .ret (.ite (.and (.val (.isnN (.var 0))) (.val (.cmp .ne (.var 0) (.tup [])))) (.mth .join (.glob 10) (.comp (.blt .str [(.var 1)]) (.nm 1) (.seq (.var 0)) none [1])) (.glob 15))]⟩
def f_Desk__init__ : Fn := ⟨2, 2, [
  .fst (.var 0) "own_pad" (.make 126 3 [(.var 1)])]⟩
def f_Desk__record : Fn := ⟨1, 1, [
  .ret (.fld (.var 0) "own_pad")]⟩
def f_Desk__say : Fn := ⟨2, 3, [
  .ite (.not (.val (.isi (.var 1) .str))) [.ret (.glob 16)] [],
  .set 2 (.mth .split (.var 1) (.glob 10)),
  .tryg [.ite (.val (.cmp .eq (.bidx 2 0) (.con (.str "visit")))) [.ret (.call 113 [(.meth 130 3 "visit" (.fld (.var 0) "own_pad") [(.call 102 [(.slc (.var 2) (some (.con (.int 1))) none), (.con (.int 0))])] [])])] [], .ite (.val (.cmp .eq (.blt .len [(.var 2)]) (.con (.int 1)))) [.ret (.meth 135 7 "alone" (.var 0) [(.bidx 2 0)] [])] [], .ret (.meth 136 7 "answered" (.var 0) [(.var 2)] [])] [0, 1, 2, 6, 4] (.glob 16)]⟩
def f_Desk__alone : Fn := ⟨2, 4, [
  .set 2 (.fld (.var 0) "own_pad"),
  .ite (.val (.cmp .isin (.var 1) (.tup [(.con (.str "undo")), (.con (.str "redo"))]))) [.ret (.meth 138 7 "led" (.var 0) [(.var 1)] [])] [],
  .ite (.val (.cmp .eq (.var 1) (.con (.str "backs")))) [.ret (.call 114 [(.call 70 [(.prop 127 3 "gauge" (.var 2)), (.prop 128 3 "log" (.var 2))])])] [],
  .ite (.val (.cmp .eq (.var 1) (.con (.str "fault")))) [.set 3 (.call 51 [(.prop 127 3 "gauge" (.var 2)), (.prop 128 3 "log" (.var 2))]), .ret (.ite (.val (.isN (.var 3))) (.glob 15) (.blt .str [(.var 3)]))] [],
  .ret (.glob 16)]⟩
def f_Desk__led : Fn := ⟨2, 2, [
  .tryg [.ite (.val (.cmp .eq (.var 1) (.con (.str "undo")))) [.expr (.meth 131 3 "undo" (.fld (.var 0) "own_pad") [] [(.int 1)])] [.expr (.meth 132 3 "redo" (.fld (.var 0) "own_pad") [] [(.int 1)])]] [5] (.glob 17),
  .ret (.glob 18)]⟩
def f_Desk__answered : Fn := ⟨2, 7, [
  .par [2, 3, 4] [(.prop 127 3 "gauge" (.fld (.var 0) "own_pad")), (.prop 128 3 "log" (.fld (.var 0) "own_pad")), (.call 100 [(.bidx 1 1)])],
  .ite (.or (.val (.isN (.var 4))) (.val (.cmp .ne (.blt .len [(.var 1)]) (.ite (.val (.cmp .eq (.bidx 1 0) (.con (.str "span")))) (.con (.int 3)) (.con (.int 2)))))) [.ret (.glob 16)] [],
  .ite (.val (.cmp .eq (.bidx 1 0) (.con (.str "span")))) [.ret (.call 114 [(.call 68 [(.var 2), (.var 3), (.var 4), (.bidx 1 2)])])] [],
  .ite (.val (.cmp .eq (.bidx 1 0) (.con (.str "level")))) [.ret (.call 113 [(.call 62 [(.var 2), (.var 3), (.var 4)])])] [],
  .ite (.val (.cmp .eq (.bidx 1 0) (.con (.str "sure")))) [.set 6 (.call 71 [(.var 2), (.var 3), (.var 4)]), .ret (.ite (.val (.isN (.var 6))) (.glob 19) (.blt .str [(.var 6)]))] [],
  .ite (.val (.cmp .ne (.bidx 1 0) (.con (.str "stands")))) [.ret (.glob 16)] [],
  .set 5 (.call 49 [(.var 2), (.var 3)]),
  .ite (.not (.val (.chain .le .lt (.con (.int 0)) (.var 4) (.blt .len [(.var 5)])))) [.rais 2 1 [(.var 4)]] [],
  .ret (.call 113 [(.idx (.var 5) (.var 4))])]⟩
def f_law_begin : Fn := ⟨1, 1, [
  .ret (.wd ["cells", "at", "left", "used"] [(.bin .add (.var 0) (.lst [(.con (.int 0))])), (.con (.int 0)), (.con (.int 0)), (.con (.int 0))])]⟩
def f_law_next : Fn := ⟨2, 6, [
  .ite (.val (.cmp .gt (.idx (.var 0) (.con (.str "left"))) (.con (.int 0)))) [.pars 3 0 "left" (.idx (.var 0) (.con (.str "left"))) (.bin .fdiv (.idx (.var 0) (.con (.str "left"))) (.var 1)), .ret (.bin .mod (.var 3) (.var 1))] [],
  .set 2 (.idx (.var 0) (.con (.str "cells"))),
  .set 3 (.idx (.var 2) (.bin .mod (.idx (.var 0) (.con (.str "at"))) (.blt .len [(.var 2)]))),
  .sub 0 (.con (.str "at")) (.bin .add (.idx (.var 0) (.con (.str "at"))) (.con (.int 1))),
  .ite (.and (.val (.cmp .ge (.var 3) (.bin .pow (.con (.int 10)) (.con (.int 18))))) (.val (.cmp .le (.idx (.var 0) (.con (.str "at"))) (.blt .len [(.var 2)])))) [.sub 0 (.con (.str "left")) (.bin .fdiv (.var 3) (.var 1)), .ret (.bin .mod (.var 3) (.var 1))] [],
  .sub 0 (.con (.str "used")) (.bin .add (.idx (.var 0) (.con (.str "used"))) (.con (.int 1))),
  .set 4 (.bin .add (.bin .mod (.var 3) (.con (.int 1000000007))) (.bin .mul (.bin .mul (.con (.int 7919)) (.idx (.var 0) (.con (.str "used")))) (.idx (.var 0) (.con (.str "used"))))),
  .for_ (.nm 5) (.seq (.tup [(.idx (.var 0) (.con (.str "at"))), (.idx (.var 0) (.con (.str "used")))])) [.set 4 (.bin .mod (.bin .mul (.bin .add (.bin .add (.var 4) (.bin .mul (.con (.int 31)) (.var 5))) (.con (.int 7))) (.con (.int 48271))) (.con (.int 2147483647))), .set 4 (.bin .mod (.bin .mul (.var 4) (.bin .add (.con (.int 69621)) (.bin .mul (.con (.int 2)) (.bin .mod (.var 5) (.con (.int 1000)))))) (.con (.int 2147483629)))],
  .ret (.bin .mod (.bin .fdiv (.var 4) (.con (.int 7))) (.var 1))]⟩
def f_law_pick : Fn := ⟨2, 2, [
  .ret (.idx (.var 1) (.call 1 [(.var 0), (.blt .len [(.var 1)])]))]⟩
def f_law : Fn := ⟨1, 8, [
  .set 1 (.call 0 [(.var 0)]),
  .set 2 (.make 133 7 [(.tup [(.con (.int 2)), (.con (.int 3))])]),
  .set 3 (.lst [(.tup [(.con (.str "undo")), (.con (.str "nothing"))]), (.tup [(.con (.str "visit 0 5 0 9 -")), (.con (.str "5..5"))]), (.tup [(.con (.str "backs")), (.con (.str "0"))])]),
  .set 3 (.bin .add (.var 3) (.lst [(.tup [(.con (.str "fault")), (.con (.str "none"))]), (.tup [(.con (.str "visit 2 6 5 6 -")), (.con (.str "6..6"))])])),
  .set 3 (.bin .add (.var 3) (.lst [(.tup [(.con (.str "backs")), (.con (.str "1"))]), (.tup [(.con (.str "sure 0")), (.con (.str "1"))]), (.tup [(.con (.str "level 1")), (.con (.str "5..6"))])])),
  .set 3 (.bin .add (.var 3) (.lst [(.tup [(.con (.str "span 1 low")), (.con (.str "0 1"))]), (.tup [(.con (.str "span 1 high")), (.con (.str "1 2"))])])),
  .set 3 (.bin .add (.var 3) (.lst [(.tup [(.con (.str "visit 4 6 5 6 -")), (.con (.str "6..6"))]), (.tup [(.con (.str "sure 1")), (.con (.str "open"))])])),
  .set 3 (.bin .add (.var 3) (.lst [(.tup [(.con (.str "visit 8 6 4 8 0")), (.con (.str "6..6"))]), (.tup [(.con (.str "backs")), (.con (.str "1 2 3"))])])),
  .set 3 (.bin .add (.var 3) (.lst [(.tup [(.con (.str "level 5")), (.con (.str "4..4 8..8"))]), (.tup [(.con (.str "level 6")), (.con (.str "5..7"))]), (.tup [(.con (.str "level 7")), (.con (.str "4..4 8..8"))])])),
  .set 3 (.bin .add (.var 3) (.lst [(.tup [(.con (.str "span 3 low")), (.con (.str "5 7"))]), (.tup [(.con (.str "span 3 high")), (.con (.str "5 7"))])])),
  .set 3 (.bin .add (.var 3) (.lst [(.tup [(.con (.str "undo")), (.con (.str "done"))]), (.tup [(.con (.str "undo")), (.con (.str "done"))]), (.tup [(.con (.str "redo")), (.con (.str "done"))]), (.tup [(.con (.str "stands 2")), (.con (.str "6..6"))])])),
  .set 3 (.bin .add (.var 3) (.lst [(.tup [(.con (.str "redo")), (.con (.str "done"))]), (.tup [(.con (.str "redo")), (.con (.str "nothing"))])])),
  .set 3 (.bin .add (.var 3) (.lst [(.tup [(.con (.str "visit 9 - 0 8 1")), (.con (.str "none"))]), (.tup [(.con (.str "fault")), (.con (.str "5"))]), (.tup [(.con (.str "backs")), (.con (.str "none"))])])),
  .set 3 (.bin .add (.var 3) (.lst [(.tup [(.con (.str "stands 0")), (.con (.str "none"))]), (.tup [(.con (.str "undo")), (.con (.str "done"))])])),
  .set 4 (.lst [(.con .non), (.con (.str "")), (.con (.str "visit")), (.con (.str "visit 1")), (.con (.str "level x")), (.con (.str "keeps")), (.con (.str "stands 9"))]),
  .set 4 (.bin .add (.var 4) (.lst [(.con (.str "span 1")), (.con (.str "sure 9")), (.con (.int 5)), (.lst [(.con (.str "backs"))]), (.con (.str " backs")), (.con (.str "backs "))])),
  .for_ (.tp [5, 6]) (.seq (.bin .add (.var 3) (.lst [(.tup [(.con (.str "stands 0")), (.con (.str "5..5"))]), (.tup [(.con (.str "visit 8 6 4 8 0")), (.con (.str "no"))]), (.tup [(.con (.str "level 9")), (.con (.str "no"))])]))) [.set 7 (.prop 128 3 "log" (.prop 134 7 "record" (.var 2))), .ite (.or (.val (.cmp .ne (.meth 137 7 "say" (.var 2) [(.call 2 [(.var 1), (.var 4)])] []) (.con (.str "no")))) (.val (.cmp .ne (.prop 128 3 "log" (.prop 134 7 "record" (.var 2))) (.var 7)))) [.ret (.con (.bl false))] [], .ite (.val (.cmp .ne (.blt .repr [(.meth 137 7 "say" (.var 2) [(.var 5)] [])]) (.blt .repr [(.var 6)]))) [.ret (.con (.bl false))] []],
  .ret (.cmp .eq (.prop 129 3 "now" (.prop 134 7 "record" (.var 2))) (.tup [(.tup [(.con (.int 6)), (.con (.int 6))])]))]⟩
def ts : List TR := [
  ⟨4, 12, ⟨"is_integer", ["thing"], ["thing"], f_is_integer, none⟩, none, false, []⟩,
  ⟨5, 13, ⟨"is_whole", ["thing", "least", "most"], ["thing", "least", "most"], f_is_whole, none⟩, none, false, []⟩,
  ⟨6, 14, ⟨"is_level", ["thing"], ["thing"], f_is_level, none⟩, none, false, []⟩,
  ⟨7, 15, ⟨"need_gauge", ["thing"], ["thing"], f_need_gauge, none⟩, none, false, []⟩,
  ⟨8, 16, ⟨"is_visit", ["thing"], ["thing", "hour", "now", "low", "high", "back"], f_is_visit, none⟩, none, false, []⟩,
  ⟨9, 17, ⟨"is_next", ["log", "thing"], ["log", "thing"], f_is_next, none⟩, none, false, []⟩,
  ⟨10, 18, ⟨"need_log", ["thing"], ["thing", "number", "visit"], f_need_log, none⟩, none, false, []⟩,
  ⟨24, 19, ⟨"hours_for", ["way", "speed"], ["way", "speed"], f_hours_for, none⟩, none, false, []⟩,
  ⟨33, 21, ⟨"merged", ["pairs"], ["pairs", "found", "low", "high", "pair"], f_merged, none⟩, none, false, []⟩,
  ⟨34, 22, ⟨"clipped", ["levels", "low", "high"], ["levels", "low", "high", "least", "most"], f_clipped, none⟩, none, false, []⟩,
  ⟨35, 23, ⟨"met", ["one", "other"], ["one", "other", "found", "low", "high"], f_met, none⟩, none, false, []⟩,
  ⟨36, 24, ⟨"turned", ["gauge"], ["gauge"], f_turned, none⟩, none, false, []⟩,
  ⟨37, 25, ⟨"images_of", ["gauge", "pair", "hours", "bounds", "touched"], ["gauge", "pair", "hours", "bounds", "touched", "least", "most", "low", "high", "up", "down", "by_low", "by_high", "found"], f_images_of, none⟩, none, false, []⟩,
  ⟨38, 26, ⟨"image", ["gauge", "levels", "hours", "bounds", "touched"], ["gauge", "levels", "hours", "bounds", "touched", "found", "pair"], f_image, none⟩, none, false, []⟩,
  ⟨39, 28, ⟨"let_by", ["visit"], ["visit"], f_let_by, none⟩, none, false, []⟩,
  ⟨40, 29, ⟨"choices_of", ["visit"], ["visit"], f_choices_of, none⟩, none, false, []⟩,
  ⟨41, 30, ⟨"touched_by", ["here", "there", "choice"], ["here", "there", "choice"], f_touched_by, none⟩, none, false, []⟩,
  ⟨42, 31, ⟨"led", ["gauge", "here", "there", "levels", "choice"], ["gauge", "here", "there", "levels", "choice", "touched"], f_led, none⟩, none, false, []⟩,
  ⟨43, 32, ⟨"led_back", ["gauge", "here", "there", "levels", "choice"], ["gauge", "here", "there", "levels", "choice", "touched", "bounds"], f_led_back, none⟩, none, false, []⟩,
  ⟨44, 33, ⟨"led_by_any", ["gauge", "here", "there", "levels"], ["gauge", "here", "there", "levels", "found", "choice"], f_led_by_any, none⟩, none, false, []⟩,
  ⟨45, 34, ⟨"forwards", ["gauge", "log"], ["gauge", "log", "found", "here", "there"], f_forwards, none⟩, none, false, []⟩,
  ⟨46, 35, ⟨"backwards", ["gauge", "log"], ["gauge", "log", "found", "number", "here", "there", "some", "choice"], f_backwards, none⟩, none, false, []⟩,
  ⟨47, 37, ⟨"stands_in", ["gauge", "log"], ["gauge", "log", "one", "other"], f_stands_in, none⟩, none, false, []⟩,
  ⟨48, 38, ⟨"need_asked", ["gauge", "log"], ["gauge", "log"], f_need_asked, none⟩, none, false, []⟩,
  ⟨49, 39, ⟨"stands", ["gauge", "log"], ["gauge", "log", "levels"], f_stands, none⟩, none, false, []⟩,
  ⟨51, 40, ⟨"fault", ["gauge", "log"], ["gauge", "log", "numbers", "number", "levels"], f_fault, none⟩, none, false, []⟩,
  ⟨60, 41, ⟨"splits_of", ["touched"], ["touched", "found", "low", "high"], f_splits_of, none⟩, none, false, []⟩,
  ⟨61, 42, ⟨"between", ["gauge", "log", "number", "hour"], ["gauge", "log", "number", "hour", "here", "there", "ahead", "behind", "bounds", "found", "choice", "touched", "first", "second", "some"], f_between, none⟩, none, false, []⟩,
  ⟨62, 43, ⟨"levels_at", ["gauge", "log", "hour"], ["gauge", "log", "hour", "number", "visit"], f_levels_at, none⟩, none, false, []⟩,
  ⟨64, 47, ⟨"mirrored", ["levels"], ["levels", "low", "high"], f_mirrored, none⟩, none, false, []⟩,
  ⟨65, 48, ⟨"hours_by", ["gauge", "levels", "bounds", "is_other"], ["gauge", "levels", "bounds", "is_other"], f_hours_by, none⟩, none, false, []⟩,
  ⟨66, 49, ⟨"spans_of", ["gauge", "ends", "hours", "bounds", "is_other"], ["gauge", "ends", "hours", "bounds", "is_other", "ahead", "behind", "found", "first", "second", "begin", "end"], f_spans_of, none⟩, none, false, []⟩,
  ⟨67, 50, ⟨"spans_at", ["gauge", "log", "number", "marker"], ["gauge", "log", "number", "marker", "here", "there", "ahead", "behind", "bounds", "found", "choice", "touched", "ends", "other"], f_spans_at, none⟩, none, false, []⟩,
  ⟨68, 51, ⟨"span", ["gauge", "log", "visit", "marker"], ["gauge", "log", "visit", "marker", "some", "begin", "first", "last"], f_span, none⟩, none, false, []⟩,
  ⟨70, 52, ⟨"backs", ["gauge", "log"], ["gauge", "log", "known", "here", "there", "later", "many", "levels", "choice", "some"], f_backs, none⟩, none, false, []⟩,
  ⟨71, 53, ⟨"sure_back", ["gauge", "log", "visit"], ["gauge", "log", "visit", "ahead", "behind", "here", "there", "some", "choice"], f_sure_back, none⟩, none, false, []⟩,
  ⟨126, 55, ⟨"__init__", ["self", "gauge"], ["self", "gauge"], f_Record__init__, (some "Record")⟩, (some 0), false, []⟩,
  ⟨127, 55, ⟨"gauge", ["self"], ["self"], f_Record__gauge, (some "Record")⟩, (some 1), true, []⟩,
  ⟨128, 55, ⟨"log", ["self"], ["self", "pair"], f_Record__log, (some "Record")⟩, (some 2), true, []⟩,
  ⟨129, 55, ⟨"now", ["self"], ["self"], f_Record__now, (some "Record")⟩, (some 3), true, []⟩,
  ⟨130, 55, ⟨"visit", ["self", "thing"], ["self", "thing", "log", "levels"], f_Record__visit, (some "Record")⟩, (some 4), false, []⟩,
  ⟨131, 55, ⟨"undo", ["self", "many"], ["self", "many", "cut"], f_Record__undo, (some "Record")⟩, (some 5), false, [1]⟩,
  ⟨132, 55, ⟨"redo", ["self", "many"], ["self", "many"], f_Record__redo, (some "Record")⟩, (some 6), false, [1]⟩,
  ⟨108, 56, ⟨"need_many", ["many", "some"], ["many", "some"], f_need_many, none⟩, none, false, []⟩,
  ⟨100, 63, ⟨"number_in", ["word"], ["word", "figures", "sign"], f_number_in, none⟩, none, false, []⟩,
  ⟨101, 64, ⟨"things_in", ["words", "kinds", "line"], ["words", "kinds", "line", "found", "place", "word", "number", "is_open"], f_things_in, none⟩, none, false, []⟩,
  ⟨102, 65, ⟨"visit_in", ["words", "line"], ["words", "line"], f_visit_in, none⟩, none, false, []⟩,
  ⟨113, 72, ⟨"stretches_text", ["levels"], ["levels", "low", "high"], f_stretches_text, none⟩, none, false, []⟩,
  ⟨114, 73, ⟨"numbers_text", ["numbers"], ["numbers", "number"], f_numbers_text, none⟩, none, false, []⟩,
  ⟨133, 74, ⟨"__init__", ["self", "gauge"], ["self", "gauge"], f_Desk__init__, (some "Desk")⟩, (some 0), false, []⟩,
  ⟨134, 74, ⟨"record", ["self"], ["self"], f_Desk__record, (some "Desk")⟩, (some 1), true, []⟩,
  ⟨137, 74, ⟨"say", ["self", "line"], ["self", "line", "words"], f_Desk__say, (some "Desk")⟩, (some 2), false, []⟩,
  ⟨135, 74, ⟨"alone", ["self", "word"], ["self", "word", "pad", "number"], f_Desk__alone, (some "Desk")⟩, (some 3), false, []⟩,
  ⟨138, 74, ⟨"led", ["self", "word"], ["self", "word"], f_Desk__led, (some "Desk")⟩, (some 4), false, []⟩,
  ⟨136, 74, ⟨"answered", ["self", "words"], ["self", "words", "gauge", "log", "number", "some", "found"], f_Desk__answered, (some "Desk")⟩, (some 5), false, []⟩,
  ⟨0, 76, ⟨"_law_begin", ["_law_script"], ["_law_script"], f_law_begin, none⟩, none, false, []⟩,
  ⟨1, 77, ⟨"_law_next", ["_law_draw", "_law_many"], ["_law_draw", "_law_many", "_law_cells", "_law_cell", "_law_number", "_law_k"], f_law_next, none⟩, none, false, []⟩,
  ⟨2, 78, ⟨"_law_pick", ["_law_draw", "_law_some"], ["_law_draw", "_law_some"], f_law_pick, none⟩, none, false, []⟩,
  ⟨32, 79, ⟨"law", ["_law_script"], ["_law_script", "_law_draw", "_law_desk", "_law_rows", "_law_odds", "_law_line", "_law_due", "_law_ahead"], f_law, none⟩, none, false, []⟩]
def cs : List (Nat × Str × Cn) := [(0, "MOST_NUMBER", .int (1000000000000000000000000000000)), (1, "MOST_VISITS", .int (60)), (3, "LOW", .str "low"), (4, "HIGH", .str "high"), (10, "BLANK", .str " "), (14, "NONE_texts", .str "-"), (12, "FIGURES", .str "0123456789"), (11, "MOST_FIGURES", .int (31)), (13, "KINDS", .txts ["number", "open", "number", "number", "back"]), (16, "NO", .str "no"), (15, "NONE_desk", .str "none"), (18, "DONE", .str "done"), (17, "NOTHING", .str "nothing"), (19, "OPEN", .str "open")]
def bl : List Str := ["all", "bool", "enumerate", "int", "isinstance", "len", "max", "min", "range", "repr", "sorted", "str", "tuple", "zip"]
def loose0 : List Str := ["_wall", "GaugeError", "BadGauge", "BadLog", "BadNumber", "BadText", "TooMany", "NothingLeft", "MOST_NUMBER", "MOST_VISITS", "is_integer", "is_whole", "is_level", "need_gauge", "is_visit", "is_next", "need_log", "hours_for", "merged", "clipped"]
def loose1 : List Str := ["met", "turned", "images_of", "image", "let_by", "choices_of", "touched_by", "led", "led_back", "led_by_any", "forwards", "backwards", "stands_in", "need_asked", "stands", "fault", "splits_of", "between", "levels_at", "LOW"]
def loose2 : List Str := ["HIGH", "mirrored", "hours_by", "spans_of", "spans_at", "span", "backs", "sure_back", "Record", "need_many", "BLANK", "NONE_texts", "FIGURES", "MOST_FIGURES", "KINDS", "number_in", "things_in", "visit_in", "NO", "NONE_desk"]
def loose3 : List Str := ["DONE", "NOTHING", "OPEN", "stretches_text", "numbers_text", "Desk", "_law_begin", "_law_next", "_law_pick"]
def loose : List Str := loose0 ++ loose1 ++ loose2 ++ loose3
def is_ : List (Nat × Str) := [(3, "Record"), (7, "Desk")]
def xs : List XR := [⟨⟨0, "BadGauge", .ve, true, "GaugeError", ["part"]⟩, 3, 0⟩, ⟨⟨1, "BadLog", .ve, true, "GaugeError", ["number"]⟩, 4, 0⟩, ⟨⟨2, "BadNumber", .ve, true, "GaugeError", ["given"]⟩, 5, 0⟩, ⟨⟨6, "BadText", .ve, true, "GaugeError", ["line", "word"]⟩, 6, 0⟩, ⟨⟨4, "TooMany", .oe, false, "OverflowError", ["most"]⟩, 7, 0⟩, ⟨⟨5, "NothingLeft", .re, false, "RuntimeError", ["many"]⟩, 8, 0⟩]
def fl : List Str := ["coming", "own_gauge", "own_pad", "visits"]
def xn : List (Str × List Nat) := [("GaugeError", [0, 1, 2, 6]), ("NothingLeft", [5]), ("TooMany", [4])]
def tb : Tb := ⟨ts, bl, cs, is_, xs, fl, xn⟩
def lawAt : Nat := 79

abbrev pw : Program := PySem.Challenge.pw_gaugemarks_k16_desks_by_hand
theorem chk : tabC pw tb = true := by decide +kernel
abbrev Rw : PySem.W.OpenRow := PySem.W.OpenLaw.row PySem.Challenge.rw_gaugemarks_k16_desks_by_hand
abbrev hk : PySem.W.Hook := hookT pw tb
def ob (s : PySem.W.SharedT) : AlT := obsTG tb (HandSHeadRun.getT s)
theorem ob_eq (s : PySem.W.SharedT) : ob s = hk.obs s.abs := obsTG_eq (p := pw) (HandSHeadRun.getT_eq s)
theorem top_run (w : World) : HandSHeadRun.RunEq Rw (PySem.W.view Rw.prog [lawAt]) hk ob 12000 loose w := by
  intro os
  kernel_rfl
theorem holds_of (run : ∀ ns : List Int, ns.length ≤ 63 → ∃ W, callK (tabT (tabOf ts)) (gcOf cs) 60 32 [.lst (ns.map .int)] [] = some (.val (.bl true), W)) : PySem.Challenge.rw_gaugemarks_k16_desks_by_hand.Holds := by
  w_on; o_law
  refine HandSHeadRun.head_any (r := Rw) (q := PySem.W.view Rw.prog [lawAt]) (H := hk) (ob := ob) (M := 12000) (loose := loose) (d := HandSHeadRun.topDef Rw.prog lawAt) (kwd := []) ob_eq
    (by kernel_rfl) (fun s => by kernel_rfl) top_run (by kernel_rfl) (by kernel_rfl) (by kernel_rfl) (by rfl) (by first | assumption | decide +kernel) (by decide +kernel) ⟨rfl, rfl, rfl, rfl, rfl, by decide +kernel⟩ ?hw ?hc
  case hw => w_witness2
  case hc =>
    refine walk_go (l := PySem.Challenge.rw_gaugemarks_k16_desks_by_hand) (n := 63) (k := 122) (x := "_law_script") rfl (by decide) (by kernel_rfl) ⟨rfl, by decide, by decide⟩ ?F
    intro w mg fa h Y G hmg0
    obtain ⟨K, KX, c⟩ := Y
    have hmg : mg ("law" : Str) = some (.ref fa) := by
      have q : (HandSHeadRun.topDef Rw.prog lawAt).name = ("law" : Str) := by kernel_rfl
      rw [← q]
      exact hmg0
    obtain ⟨fd, sp, hb, hsp, hF⟩ := law_of (l := PySem.Challenge.rw_gaugemarks_k16_desks_by_hand) (w := w) (T := tb) (t := (ts.getD 58 ⟨0, 0, ⟨"", [], [], ⟨0, 0, []⟩, none⟩, none, false, []⟩)) (k := 60) (x := "_law_script") KX G c chk (by rfl) (by rfl) (by rfl) hmg run
    exact ⟨K, fd, sp, KX, hb, hsp, hF⟩

end GP.k16

set_option Elab.async false
set_option linter.all false
set_option maxRecDepth 100000
set_option autoImplicit false
set_option maxHeartbeats 4000000

namespace GP
open PySem PySem.Spec L2


def fin : R Fl → Option (Out D × List WO)
  | some (.val .nx, s) => some (.val .non, s.W)
  | some (.val (.rt d), s) => some (.val d, s.W)
  | some (.exc x, s) => some (.exc x, s.W)
  | _ => none
theorem callK_eq {T : Nat → Option Fn} {gc : Nat → Option D} {k f : Nat} {F : Fn} {ds : List D} {W : List WO} (h : T f = some F) (hl : ds.length = F.np) :
    callK T gc (k + 1) f ds W = fin (evSs ⟨callK T gc k, gc⟩ F.body ⟨ds.map .val ++ List.replicate (F.ns - F.np) .emp, W⟩) := by
  show (match T f with | none => none | some F => _) = _
  rw [h]
  dsimp only
  rw [if_pos hl]
  unfold fin
  rfl

def drD (cells : List D) (a l u : Int) : WO := .dict [("cells", .lst cells), ("at", .int a), ("left", .int l), ("used", .int u)]
section
variable {cells : List D} {a l u x : Int} {W : List WO} {n : Nat}
theorem dr_cells (h : W[n]? = some (drD cells a l u)) : idxW W (.obj n) (.str "cells") = some (.lst cells) := by unfold idxW; dsimp only; rw [h]; rfl
theorem dr_at (h : W[n]? = some (drD cells a l u)) : idxW W (.obj n) (.str "at") = some (.int a) := by unfold idxW; dsimp only; rw [h]; rfl
theorem dr_left (h : W[n]? = some (drD cells a l u)) : idxW W (.obj n) (.str "left") = some (.int l) := by unfold idxW; dsimp only; rw [h]; rfl
theorem dr_used (h : W[n]? = some (drD cells a l u)) : idxW W (.obj n) (.str "used") = some (.int u) := by unfold idxW; dsimp only; rw [h]; rfl
variable {ρ : List Sl}
theorem sub_at (h : W[n]? = some (drD cells a l u)) : subS ⟨.val (.obj n) :: ρ, W⟩ 0 (.str "at") (.int x) = some ⟨.val (.obj n) :: ρ, W.set n (drD cells x l u)⟩ := by
  show subW ⟨.val (.obj n) :: ρ, W⟩ n "at" (.int x) = _
  unfold subW; dsimp only; rw [h]; rfl
theorem sub_left (h : W[n]? = some (drD cells a l u)) : subS ⟨.val (.obj n) :: ρ, W⟩ 0 (.str "left") (.int x) = some ⟨.val (.obj n) :: ρ, W.set n (drD cells a x u)⟩ := by
  show subW ⟨.val (.obj n) :: ρ, W⟩ n "left" (.int x) = _
  unfold subW; dsimp only; rw [h]; rfl
theorem sub_used (h : W[n]? = some (drD cells a l u)) : subS ⟨.val (.obj n) :: ρ, W⟩ 0 (.str "used") (.int x) = some ⟨.val (.obj n) :: ρ, W.set n (drD cells a l x)⟩ := by
  show subW ⟨.val (.obj n) :: ρ, W⟩ n "used" (.int x) = _
  unfold subW; dsimp only; rw [h]; rfl
end
def F_next : Fn := ⟨2, 6, [
  .ite (.val (.cmp .gt (.idx (.var 0) (.con (.str "left"))) (.con (.int 0)))) [.pars 3 0 "left" (.idx (.var 0) (.con (.str "left"))) (.bin .fdiv (.idx (.var 0) (.con (.str "left"))) (.var 1)), .ret (.bin .mod (.var 3) (.var 1))] [],
  .set 2 (.idx (.var 0) (.con (.str "cells"))),
  .set 3 (.idx (.var 2) (.bin .mod (.idx (.var 0) (.con (.str "at"))) (.blt .len [(.var 2)]))),
  .sub 0 (.con (.str "at")) (.bin .add (.idx (.var 0) (.con (.str "at"))) (.con (.int 1))),
  .ite (.and (.val (.cmp .ge (.var 3) (.bin .pow (.con (.int 10)) (.con (.int 18))))) (.val (.cmp .le (.idx (.var 0) (.con (.str "at"))) (.blt .len [(.var 2)])))) [.sub 0 (.con (.str "left")) (.bin .fdiv (.var 3) (.var 1)), .ret (.bin .mod (.var 3) (.var 1))] [],
  .sub 0 (.con (.str "used")) (.bin .add (.idx (.var 0) (.con (.str "used"))) (.con (.int 1))),
  .set 4 (.bin .add (.bin .mod (.var 3) (.con (.int 1000000007))) (.bin .mul (.bin .mul (.con (.int 7919)) (.idx (.var 0) (.con (.str "used")))) (.idx (.var 0) (.con (.str "used"))))),
  .for_ (.nm 5) (.seq (.tup [(.idx (.var 0) (.con (.str "at"))), (.idx (.var 0) (.con (.str "used")))])) [.set 4 (.bin .mod (.bin .mul (.bin .add (.bin .add (.var 4) (.bin .mul (.con (.int 31)) (.var 5))) (.con (.int 7))) (.con (.int 48271))) (.con (.int 2147483647))), .set 4 (.bin .mod (.bin .mul (.var 4) (.bin .add (.con (.int 69621)) (.bin .mul (.con (.int 2)) (.bin .mod (.var 5) (.con (.int 1000)))))) (.con (.int 2147483629)))],
  .ret (.bin .mod (.bin .fdiv (.var 4) (.con (.int 7))) (.var 1))]⟩


def DrAt (n b : Nat) (W : List WO) : Prop := ∃ (cells : List Int) (a l u : Int), W[n]? = some (drD (cells.map .int) a l u) ∧ cells ≠ [] ∧ cells.length ≤ 64 ∧ 0 ≤ a ∧ 0 ≤ l ∧ 0 ≤ u ∧ a + b ≤ 10 ^ 12 ∧ u + b ≤ 10 ^ 12
structure Same1 (n : Nat) (W W' : List WO) : Prop where
  len : W'.length = W.length
  off : ∀ j, j ≠ n → W'[j]? = W[j]?
theorem same_set {n : Nat} {W : List WO} {o : WO} : Same1 n W (W.set n o) := ⟨List.length_set, fun j h => List.getElem?_set_ne (Ne.symm h)⟩
theorem get_set {n : Nat} {W : List WO} {o o' : WO} (h : W[n]? = some o) : (W.set n o')[n]? = some o' := by
  rw [List.getElem?_set_self']; rw [h]; rfl
theorem idx_lst {W : List WO} {xs : List D} {i : Int} : idxW W (.lst xs) (.int i) = L2.atI xs i := rfl
theorem Same1.trans {n : Nat} {W W1 W2 : List WO} (a : Same1 n W W1) (b : Same1 n W1 W2) : Same1 n W W2 := ⟨b.len.trans a.len, fun j h => (b.off j h).trans (a.off j h)⟩
theorem cell_at {cells : List Int} {a : Int} (h : (0 : Int) < cells.length) : ∃ c : Int, L2.atI (cells.map D.int) (a % cells.length) = some (.int c) := by
  have h1 := Int.emod_nonneg a (b := cells.length) (by omega)
  have h2 := Int.emod_lt_of_pos a h
  have h3 : (a % cells.length).toNat < cells.length := by omega
  refine ⟨cells[(a % cells.length).toNat], ?_⟩
  have h4 : L2.atI (cells.map D.int) (((a % cells.length).toNat : Nat) : Int) = some (.int cells[(a % cells.length).toNat]) := L2.atI_nat (by rw [List.getElem?_map, List.getElem?_eq_getElem h3]; rfl)
  rw [Int.toNat_of_nonneg h1] at h4
  exact h4
theorem mulOk_of {i j : Int} {m n : Nat} (hi : i.natAbs < 2 ^ m) (hj : j.natAbs < 2 ^ n) (h : m + n < 1000000 := by decide) : mulOk i j = true := by
  unfold mulOk
  have h1 : i.natAbs.log2 ≤ m := by
    by_cases z : i.natAbs = 0
    · rw [z]; simp
    · exact Nat.le_of_lt ((Nat.log2_lt z).mpr hi)
  have h2 : j.natAbs.log2 ≤ n := by
    by_cases z : j.natAbs = 0
    · rw [z]; simp
    · exact Nat.le_of_lt ((Nat.log2_lt z).mpr hj)
  exact decide_eq_true (by omega)
theorem next_ok {T : Nat → Option Fn} {gc : Nat → Option D} {k n b : Nat} {W : List WO} {many : Int} (hT : T 1 = some F_next) (hd : DrAt n (b + 1) W) (h0 : 0 < many) (h1 : many.natAbs.log2 < 9000) :
    ∃ i W', callK T gc (k + 1) 1 [.obj n, .int many] W = some (.val (.int i), W') ∧ 0 ≤ i ∧ i < many ∧ DrAt n b W' ∧ Same1 n W W' := by
  obtain ⟨cells, a, l, u, hW, hc, hz, ha, hl0, hu, hab, hub⟩ := hd
  rw [callK_eq hT rfl]
  by_cases hl : 0 < l
  · refine ⟨l % many, W.set n (drD (cells.map .int) a (l / many) u), ?_, Int.emod_nonneg _ (by omega), Int.emod_lt_of_pos _ h0, ⟨cells, a, l / many, u, get_set hW, hc, hz, ha, Int.ediv_nonneg hl0 (by omega), hu, by omega, by omega⟩, same_set⟩
    simp [F_next, evSs, evS, evT, evO, S.put, Sl.fz, frz, okv, bnd, lft, fin, cmpD, ltD, dr_left hW, sub_left hW, hl, binD, fdivD, modD, h0, h1, blO]
  · have hlen : (0 : Int) < cells.length := by cases cells with | nil => exact absurd rfl hc | cons => simp
    have hlenN : 0 < cells.length := by omega
    obtain ⟨c, hcell⟩ := cell_at (cells := cells) (a := a) hlen
    have e1 : lenD [.lst (cells.map .int)] = some (.val (.int cells.length)) := by unfold lenD; simp
    have e2 : powD (.int 10) (.int 18) = some (.val (.int 1000000000000000000)) := by unfold powD; rfl
    have h2 := get_set (o' := drD (cells.map .int) (a + 1) l u) hW
    by_cases hb : (1000000000000000000 : Int) ≤ c ∧ a + 1 ≤ cells.length
    · refine ⟨c % many, _, ?_, Int.emod_nonneg _ (by omega), Int.emod_lt_of_pos _ h0, ⟨cells, a + 1, c / many, u, get_set h2, hc, hz, by omega, Int.ediv_nonneg (by omega) (by omega), hu, by omega, by omega⟩, same_set.trans same_set⟩
      simp [F_next, evSs, evS, evT, evO, evL, bltD, S.put, Sl.fz, frz, okv, bnd, lft, fin, cmpD, ltD, leD, dr_left hW, hl, dr_cells hW, dr_at hW, dr_at h2, sub_at hW, sub_left h2, e1, e2, hb.1, hb.2, binD, fdivD, modD, addD, h0, h1, blO, hlenN, isSet, idx_lst, hcell]
    · have ht : (if (1000000000000000000 : Int) ≤ c then decide (a + 1 ≤ (cells.length : Int)) else false) = false := by
        split
        · rename_i h3; exact decide_eq_false fun h4 => hb ⟨h3, h4⟩
        · rfl
      have h3 := get_set (o' := drD (cells.map .int) (a + 1) l (u + 1)) hW
      have b1 : 0 ≤ c % 1000000007 ∧ c % 1000000007 < 1000000007 := ⟨Int.emod_nonneg _ (by decide), Int.emod_lt_of_pos _ (by decide)⟩
      have m1 : mulOk 7919 (u + 1) = true := mulOk_of (m := 100) (n := 100) (by decide) (by omega)
      have m2 : mulOk (7919 * (u + 1)) (u + 1) = true := mulOk_of (m := 100) (n := 100) (by omega) (by omega)
      have m3 : mulOk 31 (a + 1) = true := mulOk_of (m := 100) (n := 100) (by decide) (by omega)
      have m4 : mulOk 31 (u + 1) = true := mulOk_of (m := 100) (n := 100) (by decide) (by omega)
      have q1 : (7919 * (u + 1)) * (u + 1) ≤ 7919 * 10 ^ 12 * 10 ^ 12 := Int.mul_le_mul (by omega) (by omega) (by omega) (by omega)
      have q2 : 0 ≤ (7919 * (u + 1)) * (u + 1) := Int.mul_nonneg (by omega) (by omega)
      have r1 := Int.emod_nonneg (a + 1) (b := 1000) (by decide)
      have r2 := Int.emod_lt_of_pos (a + 1) (b := 1000) (by decide)
      have r3 := Int.emod_nonneg (u + 1) (b := 1000) (by decide)
      have r4 := Int.emod_lt_of_pos (u + 1) (b := 1000) (by decide)
      have m6 : mulOk 2 ((a + 1) % 1000) = true := mulOk_of (m := 100) (n := 100) (by decide) (by omega)
      have m9 : mulOk 2 ((u + 1) % 1000) = true := mulOk_of (m := 100) (n := 100) (by decide) (by omega)
      have m5 : mulOk (c % 1000000007 + 7919 * (u + 1) * (u + 1) + 31 * (a + 1) + 7) 48271 = true := mulOk_of (m := 200) (n := 100) (by omega) (by decide)
      have r5 := Int.emod_nonneg ((c % 1000000007 + 7919 * (u + 1) * (u + 1) + 31 * (a + 1) + 7) * 48271) (b := 2147483647) (by decide)
      have r6 := Int.emod_lt_of_pos ((c % 1000000007 + 7919 * (u + 1) * (u + 1) + 31 * (a + 1) + 7) * 48271) (b := 2147483647) (by decide)
      have m7 : mulOk ((c % 1000000007 + 7919 * (u + 1) * (u + 1) + 31 * (a + 1) + 7) * 48271 % 2147483647) (69621 + 2 * ((a + 1) % 1000)) = true := mulOk_of (m := 100) (n := 100) (by omega) (by omega)
      generalize hy : (c % 1000000007 + 7919 * (u + 1) * (u + 1) + 31 * (a + 1) + 7) * 48271 % 2147483647 = y at m7
      have r7 := Int.emod_nonneg (y * (69621 + 2 * ((a + 1) % 1000))) (b := 2147483629) (by decide)
      have r8 := Int.emod_lt_of_pos (y * (69621 + 2 * ((a + 1) % 1000))) (b := 2147483629) (by decide)
      have m8 : mulOk (y * (69621 + 2 * ((a + 1) % 1000)) % 2147483629 + 31 * (u + 1) + 7) 48271 = true := mulOk_of (m := 100) (n := 100) (by omega) (by decide)
      have r9 := Int.emod_nonneg ((y * (69621 + 2 * ((a + 1) % 1000)) % 2147483629 + 31 * (u + 1) + 7) * 48271) (b := 2147483647) (by decide)
      have r10 := Int.emod_lt_of_pos ((y * (69621 + 2 * ((a + 1) % 1000)) % 2147483629 + 31 * (u + 1) + 7) * 48271) (b := 2147483647) (by decide)
      have m10 : mulOk ((y * (69621 + 2 * ((a + 1) % 1000)) % 2147483629 + 31 * (u + 1) + 7) * 48271 % 2147483647) (69621 + 2 * ((u + 1) % 1000)) = true := mulOk_of (m := 100) (n := 100) (by omega) (by omega)
      have e4 : 2 ≤ sizeLine := by decide
      have e5 : Nat.log2 7 < 9000 := by decide +kernel
      refine ⟨((y * (69621 + 2 * ((a + 1) % 1000)) % 2147483629 + 31 * (u + 1) + 7) * 48271 % 2147483647 * (69621 + 2 * ((u + 1) % 1000)) % 2147483629) / 7 % many, _, ?_, Int.emod_nonneg _ (by omega), Int.emod_lt_of_pos _ h0, ⟨cells, a + 1, l, u + 1, get_set h2, hc, hz, by omega, hl0, by omega, by omega, by omega⟩, same_set.trans same_set⟩
      have hx : ∀ {P : Prop}, (1000000000000000000 ≤ c → a + 1 ≤ cells.length → P) → ((1000000000000000000 ≤ c ∧ a + 1 ≤ cells.length) → P) := fun h z => h z.1 z.2
      by_cases hc1 : (1000000000000000000 : Int) ≤ c
      · have hc2 : ¬ a + 1 ≤ (cells.length : Int) := fun z => hb ⟨hc1, z⟩
        simp [F_next, evSs, evS, evT, evO, evL, evI, bltD, turnsF, turnF, bindG, walkOf, sizeB, S.put, Sl.fz, frz, okv, bnd, lft, fin, cmpD, ltD, leD, dr_left hW, hl, dr_cells hW, dr_at hW, dr_at h2, dr_at h3, dr_used h2, dr_used h3, sub_at hW, sub_left h2, sub_used h2, e1, e2, hc1, hc2, binD, fdivD, modD, addD, mulD, h0, h1, blO, hlenN, isSet, idx_lst, hcell, m1, m2, m3, m4, m5, m6, hy, m7, m8, m9, m10, e4, e5]
      · simp [F_next, evSs, evS, evT, evO, evL, evI, bltD, turnsF, turnF, bindG, walkOf, sizeB, S.put, Sl.fz, frz, okv, bnd, lft, fin, cmpD, ltD, leD, dr_left hW, hl, dr_cells hW, dr_at hW, dr_at h2, dr_at h3, dr_used h2, dr_used h3, sub_at hW, sub_left h2, sub_used h2, e1, e2, hc1, binD, fdivD, modD, addD, mulD, h0, h1, blO, hlenN, isSet, idx_lst, hcell, m1, m2, m3, m4, m5, m6, hy, m7, m8, m9, m10, e4, e5]
def F_pick : Fn := ⟨2, 2, [
  .ret (.idx (.var 1) (.call 1 [(.var 0), (.blt .len [(.var 1)])]))]⟩
theorem at_mem {xs : List D} {i : Int} (h0 : 0 ≤ i) (h1 : i < xs.length) : ∃ d, L2.atI xs i = some d ∧ d ∈ xs := by
  have h3 : i.toNat < xs.length := by omega
  refine ⟨xs[i.toNat], ?_, List.getElem_mem h3⟩
  have h4 : L2.atI xs ((i.toNat : Nat) : Int) = some xs[i.toNat] := L2.atI_nat (List.getElem?_eq_getElem h3)
  rw [Int.toNat_of_nonneg h0] at h4
  exact h4
theorem len_log {n : Nat} (h : n ≤ 1000000) : ((n : Int)).natAbs.log2 < 9000 := by
  rw [Int.natAbs_natCast]
  by_cases z : n = 0
  · rw [z]; decide
  · exact (Nat.log2_lt z).mpr (Nat.lt_of_le_of_lt h (Nat.lt_of_lt_of_le (by decide : 1000000 < 2 ^ 20) (Nat.pow_le_pow_right (by decide) (by decide))))
theorem pick_ok {T : Nat → Option Fn} {gc : Nat → Option D} {k n b : Nat} {W : List WO} {xs : List D} (hT : T 1 = some F_next) (hT2 : T 2 = some F_pick) (hd : DrAt n (b + 1) W) (h0 : 0 < xs.length) (h1 : xs.length ≤ 1000000) :
    ∃ d W', callK T gc (k + 2) 2 [.obj n, .lst xs] W = some (.val d, W') ∧ d ∈ xs ∧ DrAt n b W' ∧ Same1 n W W' := by
  obtain ⟨i, W', h2, h3, h4, h5, h6⟩ := next_ok (gc := gc) (k := k) hT hd (many := xs.length) (by omega) (len_log h1)
  obtain ⟨d, h7, h8⟩ := at_mem h3 h4
  refine ⟨d, W', ?_, h8, h5, h6⟩
  rw [callK_eq hT2 rfl]
  simp [F_pick, evSs, evS, evO, evL, bltD, lenD, S.put, Sl.fz, frz, okv, bnd, lft, fin, Ctx.run, h2, idx_lst, h7]

theorem turnsF_inv {f : D → S → R Fl} {P : Nat → S → Prop} : ∀ {xs : List D} {i : Nat} {s : S}, P i s →
    (∀ (j : Nat) (x : D) (s : S), xs[j]? = some x → P (i + j) s → ∃ s', (f x s = okv .nx s' ∨ f x s = okv .ct s') ∧ P (i + j + 1) s') → ∃ s', turnsF f xs s = okv .nx s' ∧ P (i + xs.length) s'
  | [], i, s, h, _ => ⟨s, rfl, h⟩
  | x :: xs, i, s, h, k => by
    obtain ⟨s1, h1, h2⟩ := k 0 x s rfl h
    obtain ⟨s2, h3, h4⟩ := turnsF_inv (xs := xs) (i := i + 1) (P := P) h2 fun j y t hy ht => by
      have := k (j + 1) y t (by simpa using hy) (by rw [show i + (j + 1) = i + 1 + j by omega]; exact ht)
      rw [show i + (j + 1) + 1 = i + 1 + j + 1 by omega] at this
      exact this
    refine ⟨s2, ?_, by rw [List.length_cons, show i + (xs.length + 1) = i + 1 + xs.length by omega]; exact h4⟩
    unfold turnsF
    rcases h1 with h1 | h1 <;> rw [h1, bnd_okv] <;> exact h3
def F_gauge : Fn := ⟨1, 1, [
  .ret (.tup [(.bin .add (.con (.int 1)) (.call 1 [(.var 0), (.con (.int 3))])), (.bin .add (.con (.int 1)) (.call 1 [(.var 0), (.con (.int 3))]))])]⟩
theorem gauge_ok {T : Nat → Option Fn} {gc : Nat → Option D} {k n b : Nat} {W : List WO} (hT : T 1 = some F_next) (hT2 : T 11 = some F_gauge) (hd : DrAt n (b + 2) W) :
    ∃ p q W', callK T gc (k + 2) 11 [.obj n] W = some (.val (.tup [.int p, .int q]), W') ∧ 1 ≤ p ∧ p ≤ 3 ∧ 1 ≤ q ∧ q ≤ 3 ∧ DrAt n b W' ∧ Same1 n W W' := by
  obtain ⟨i, W1, h2, h3, h4, h5, h6⟩ := next_ok (gc := gc) (k := k) hT hd (many := 3) (by decide) (by decide +kernel)
  obtain ⟨j, W2, g2, g3, g4, g5, g6⟩ := next_ok (gc := gc) (k := k) hT h5 (many := 3) (by decide) (by decide +kernel)
  refine ⟨1 + i, 1 + j, W2, ?_, by omega, by omega, by omega, by omega, g5, h6.trans g6⟩
  have e : 2 ≤ sizeLine := by decide
  rw [callK_eq hT2 rfl]
  simp [F_gauge, evSs, evS, evO, evL, S.put, Sl.fz, frz, okv, bnd, lft, fin, Ctx.run, h2, g2, binD, addD, sizeB, e]
end GP

set_option Elab.async false
set_option linter.all false
set_option maxRecDepth 100000
set_option autoImplicit false
set_option maxHeartbeats 4000000

namespace GP
open PySem PySem.Spec L2


inductive Tg {β : Type} (x : β) : Type where | mk
section
variable {α β : Type}
@[irreducible] def wp (r : R α) (Q : α → S → Prop) (_t : Tg Q := .mk) : Prop := match r with
  | some (.val a, s) => Q a s
  | _ => False
theorem wp_ext {r : R α} {Q Q' : α → S → Prop} (h : ∀ a s, Q a s = Q' a s) : wp r Q = wp r Q' := by
  have : Q = Q' := funext fun a => funext fun s => h a s
  rw [this]
theorem wp_mono {r : R α} {Q Q' : α → S → Prop} (h : wp r Q) (k : ∀ a s, Q a s → Q' a s) : wp r Q' := by
  unfold wp at h ⊢
  split at h
  · exact k _ _ h
  · cases h

def opS (o : Option α) (K : α → Prop) (_t : Tg K := .mk) : Prop := match o with
  | some a => K a
  | none => False

def rdS (o : Option Sl) (K : D → Prop) (_t : Tg K := .mk) : Prop := match o with
  | some (.val d) => K d
  | some (.own xs) => K (.lst xs)
  | some (.ownd ks vs) => K (.dic ks vs)
  | _ => False
theorem opS_ext {o : Option α} {Q Q' : α → Prop} (h : ∀ a, Q a = Q' a) : opS o Q = opS o Q' := by
  have : Q = Q' := funext fun a => h a
  rw [this]

def brK (b : Bool) (P Q : Prop) (_t : Tg P := .mk) (_u : Tg Q := .mk) : Prop := (b = true → P) ∧ (b = false → Q)

def lsS (o : Option Sl) (K : List D → Prop) (_t : Tg K := .mk) : Prop := match o with
  | some (.own xs) => K xs
  | _ => False

def Runs (x : Option (Out D × List WO)) (P : D → List WO → Prop) (_t : Tg P := .mk) : Prop := match x with
  | some (.val d, W) => P d W
  | _ => False
theorem Runs.mono {x : Option (Out D × List WO)} {P Q : D → List WO → Prop} (h : Runs x P) (k : ∀ d W, P d W → Q d W) : Runs x Q := by
  unfold Runs at h ⊢
  split at h
  · exact k _ _ h
  · cases h
theorem Runs.ex {x : Option (Out D × List WO)} {P : D → List WO → Prop} (h : Runs x P) : ∃ d W, x = some (.val d, W) ∧ P d W := by
  unfold Runs at h
  split at h
  · exact ⟨_, _, rfl, h⟩
  · cases h
theorem Runs.eq {x : Option (Out D × List WO)} {d : D} {W : List WO} (h : Runs x fun d' W' => d' = d ∧ W' = W) : x = some (.val d, W) := by
  obtain ⟨_, _, h, h1, h2⟩ := h.ex
  rw [h, h1, h2]
theorem runs_some {d : D} {W : List WO} {P : D → List WO → Prop} : Runs (some (.val d, W)) P = P d W := rfl


theorem opS_some {a : α} {K : α → Prop} : opS (some a) K = K a := rfl
theorem rdS_val {d : D} {K : D → Prop} : rdS (some (.val d)) K = K d := rfl
theorem rdS_own {d : List D} {K : D → Prop} : rdS (some (.own d)) K = K (.lst d) := rfl
theorem rdS_ownd {d e : List D} {K : D → Prop} : rdS (some (.ownd d e)) K = K (.dic d e) := rfl
theorem lsS_own {d : List D} {K : List D → Prop} : lsS (some (.own d)) K = K d := rfl
theorem brK_true {P Q : Prop} : brK true P Q = P := by simp [brK]
theorem brK_false {P Q : Prop} : brK false P Q = Q := by simp [brK]
theorem brK_not {b : Bool} {P Q : Prop} : brK (!b) P Q = brK b Q P := by cases b <;> simp [brK]
theorem brK_and {a b : Bool} {P Q : Prop} : brK (a && b) P Q = brK a (brK b P Q) Q := by cases a <;> cases b <;> simp [brK]
theorem brK_or {a b : Bool} {P Q : Prop} : brK (a || b) P Q = brK a P (brK b P Q) := by cases a <;> cases b <;> simp [brK]
theorem ite_brK {b : Bool} {P Q : Prop} : (if b = true then P else Q) = brK b P Q := by cases b <;> simp [brK]
theorem brK_dec {p : Prop} [Decidable p] {P Q : Prop} (h1 : p → P) (h2 : ¬ p → Q) : brK (decide p) P Q := ⟨fun h => h1 (of_decide_eq_true h), fun h => h2 (of_decide_eq_false h)⟩
theorem brK_pos {p : Prop} [Decidable p] {P Q : Prop} (h : p) (h1 : P) : brK (decide p) P Q := brK_dec (fun _ => h1) fun n => (n h).elim
theorem brK_neg {p : Prop} [Decidable p] {P Q : Prop} (h : ¬ p) (h1 : Q) : brK (decide p) P Q := brK_dec (fun n => (h n).elim) fun _ => h1

theorem wp_okv {a : α} {s : S} {Q : α → S → Prop} : wp (okv a s) Q = Q a s := by unfold wp; with_unfolding_all rfl
theorem wp_some {a : α} {s : S} {Q : α → S → Prop} : wp (some (.val a, s)) Q = Q a s := by unfold wp; with_unfolding_all rfl
theorem wp_bnd {r : R α} {f : α → S → R β} {Q : β → S → Prop} : wp (bnd r f) Q = wp r fun a s => wp (f a s) Q := by
  unfold bnd
  cases r with
  | none => with_unfolding_all rfl
  | some p => obtain ⟨o, s⟩ := p; cases o <;> with_unfolding_all rfl
theorem wp_lft {o : Option α} {s : S} {Q : α → S → Prop} : wp (lft o s) Q = opS o fun a => Q a s := by cases o <;> with_unfolding_all rfl
theorem wp_frz {r : R Sl} {Q : D → S → Prop} : wp (frz r) Q = wp r fun sl s => rdS (some sl) fun d => Q d s := by
  unfold frz
  rw [wp_bnd]
  refine wp_ext fun sl s => ?_
  rw [wp_lft]
  cases sl <;> with_unfolding_all rfl
theorem wp_ite {b : Bool} {x y : R α} {Q : α → S → Prop} : wp (if b = true then x else y) Q = brK b (wp x Q) (wp y Q) := by cases b <;> simp [brK]
theorem wp_none {Q : α → S → Prop} : wp (none : R α) Q = False := by unfold wp; with_unfolding_all rfl
end
local macro_rules | `(tactic| walk_at "wx") => `(tactic| (try simp only [wp_bnd, wp_lft, wp_okv, wp_ite]; repeat (refine wp_ext fun _ _ => ?_; try simp only [wp_bnd, wp_lft, wp_okv, wp_ite])))

section
variable {Γ : Ctx} {ρ : List Sl} {W : List WO} {Q : Sl → S → Prop} {s : S}
theorem wO_var {i : Nat} : wp (evO Γ (.var i) ⟨ρ, W⟩) Q = rdS ρ[i]? fun d => Q (.val d) ⟨ρ.set i (.val d), W⟩ := by
  unfold evO
  show wp (match ρ[i]? with | some sl => _ | none => _) Q = _
  cases ρ[i]? with
  | none => with_unfolding_all rfl
  | some sl => cases sl <;> with_unfolding_all rfl
theorem wO_con {d : D} : wp (evO Γ (.con d) s) Q = Q (.val d) s := by unfold evO; with_unfolding_all rfl
theorem wO_glob {g : Nat} : wp (evO Γ (.glob g) s) Q = opS (Γ.gc g) fun d => Q (.val d) s := by unfold evO; rw [wp_lft]; cases Γ.gc g <;> with_unfolding_all rfl
theorem wO_bin {op : Bop} {a b : CE} : wp (evO Γ (.bin op a b) s) Q = wp (frz (evO Γ a s)) fun x s1 => wp (frz (evO Γ b s1)) fun y s2 => opS (binD op x y) fun z => Q z s2 := by
  rw [evO]; walk_at "wx"
theorem wO_neg {a : CE} : wp (evO Γ (.neg a) s) Q = wp (frz (evO Γ a s)) fun x s1 => opS (intO x) fun i => Q (.val (.int (-i))) s1 := by
  rw [evO]; simp only [wp_bnd, wp_lft]; refine wp_ext fun x s1 => ?_; try simp only [wp_bnd, wp_lft, wp_okv, wp_ite]; cases intO x <;> with_unfolding_all rfl
theorem wO_notv {a : CE} : wp (evO Γ (.notv a) s) Q = wp (frz (evO Γ a s)) fun x s1 => opS (blO x) fun i => Q (.val (.bl (!i))) s1 := by
  rw [evO]; simp only [wp_bnd, wp_lft]; refine wp_ext fun x s1 => ?_; try simp only [wp_bnd, wp_lft, wp_okv, wp_ite]; cases blO x <;> with_unfolding_all rfl
theorem wO_andv {a b : CE} : wp (evO Γ (.andv a b) s) Q = wp (frz (evO Γ a s)) fun x s1 => opS (blO x) fun i => brK i (wp (evO Γ b s1) Q) (Q (.val (.bl false)) s1) := by
  rw [evO]; simp only [wp_bnd]; refine wp_ext fun x s1 => ?_; try walk_at "wx"
  cases x <;> try with_unfolding_all rfl
  rename_i b; cases b <;> simp [blO, opS_some, brK, wp_okv]
theorem wO_orv {a b : CE} : wp (evO Γ (.orv a b) s) Q = wp (frz (evO Γ a s)) fun x s1 => opS (blO x) fun i => brK i (Q (.val (.bl true)) s1) (wp (evO Γ b s1) Q) := by
  rw [evO]; simp only [wp_bnd]; refine wp_ext fun x s1 => ?_; try walk_at "wx"
  cases x <;> try with_unfolding_all rfl
  rename_i b; cases b <;> simp [blO, opS_some, brK, wp_okv]
theorem wO_cmp {op : Cop} {a b : CE} : wp (evO Γ (.cmp op a b) s) Q = wp (frz (evO Γ a s)) fun x s1 => wp (frz (evO Γ b s1)) fun y s2 => opS (cmpD op x y) fun z => Q (.val (.bl z)) s2 := by
  rw [evO]; simp only [wp_bnd, wp_lft]; refine wp_ext fun x s1 => ?_; try simp only [wp_bnd, wp_lft, wp_okv, wp_ite]; refine wp_ext fun y s2 => ?_; try simp only [wp_bnd, wp_lft, wp_okv, wp_ite]; cases cmpD op x y <;> with_unfolding_all rfl
theorem wO_isN {a : CE} : wp (evO Γ (.isN a) s) Q = wp (frz (evO Γ a s)) fun x s1 => Q (.val (.bl (isNonD x))) s1 := by
  rw [evO]; walk_at "wx"
theorem wO_isnN {a : CE} : wp (evO Γ (.isnN a) s) Q = wp (frz (evO Γ a s)) fun x s1 => Q (.val (.bl (!isNonD x))) s1 := by
  rw [evO]; walk_at "wx"
theorem wO_chain {o p : Cop} {a b c : CE} : wp (evO Γ (.chain o p a b c) s) Q = wp (frz (evO Γ a s)) fun x s1 => wp (frz (evO Γ b s1)) fun y s2 => opS (cmpD o x y) fun k => brK k (wp (frz (evO Γ c s2)) fun z s3 => opS (cmpD p y z) fun m => Q (.val (.bl m)) s3) (Q (.val (.bl false)) s2) := by
  rw [evO]; simp only [wp_bnd]; refine wp_ext fun x s1 => ?_; try simp only [wp_bnd, wp_lft, wp_okv, wp_ite]; refine wp_ext fun y s2 => ?_; try walk_at "wx"
  cases cmpD o x y with
  | none => with_unfolding_all rfl
  | some k => cases k with
    | false => simp [opS_some, brK, wp_okv]
    | true =>
      simp only [opS_some, brK_true, wp_bnd, wp_lft]
      refine wp_ext fun z s3 => ?_; try simp only [wp_bnd, wp_lft, wp_okv, wp_ite]; cases cmpD p y z <;> with_unfolding_all rfl
theorem wO_ite {t : CT} {a b : CE} : wp (evO Γ (.ite t a b) s) Q = wp (evT Γ t s) fun k s1 => brK k (wp (evO Γ a s1) Q) (wp (evO Γ b s1) Q) := by
  rw [evO]; walk_at "wx"
theorem wO_tup {es : List CE} : wp (evO Γ (.tup es) s) Q = wp (evL Γ es s) fun ds s1 => sizeB ds.length = true ∧ Q (.val (.tup ds)) s1 := by
  rw [evO]; simp only [wp_bnd, wp_ite]; refine wp_ext fun ds s1 => ?_; try simp only [wp_bnd, wp_lft, wp_okv, wp_ite]; cases sizeB ds.length <;> simp [brK, wp_none, wp_okv]
def tupO : D → Option (List D)
  | .tup xs => some xs
  | _ => none
theorem wO_tups {a : CE} {es : List CE} : wp (evO Γ (.tups a es) s) Q = wp (frz (evO Γ a s)) fun x s1 => opS (tupO x) fun xs => wp (evL Γ es s1) fun ds s2 => sizeB (xs.length + ds.length) = true ∧ Q (.val (.tup (xs ++ ds))) s2 := by
  rw [evO]; simp only [wp_bnd]; refine wp_ext fun x s1 => ?_
  cases x <;> try with_unfolding_all rfl
  rename_i xs
  show wp (bnd _ _) _ = _
  rw [wp_bnd]
  refine wp_ext fun ds s2 => ?_
  show wp (if _ then _ else _) _ = (_ ∧ _)
  cases sizeB (xs.length + ds.length) <;> simp [wp_none, wp_okv]
theorem wO_lst {es : List CE} : wp (evO Γ (.lst es) s) Q = wp (evL Γ es s) fun ds s1 => sizeB ds.length = true ∧ Q (.own ds) s1 := by
  rw [evO]; simp only [wp_bnd, wp_ite]; refine wp_ext fun ds s1 => ?_; try simp only [wp_bnd, wp_lft, wp_okv, wp_ite]; cases sizeB ds.length <;> simp [brK, wp_none, wp_okv]
theorem wO_dnew : wp (evO Γ .dnew s) Q = Q (.ownd [] []) s := by rw [evO]; with_unfolding_all rfl
theorem wO_knew : wp (evO Γ .knew s) Q = Q (.keys []) s := by rw [evO]; with_unfolding_all rfl
theorem wO_klist {i : Nat} {ks : List D} (h : s.ρ[i]? = some (.keys ks)) (hz : sizeB ks.length = true) : wp (evO Γ (.klist i) s) Q = Q (.own ks) s := by rw [evO, h]; simp only [hz]; with_unfolding_all rfl
theorem wO_rtup {a : CE} : wp (evO Γ (.rtup a) s) Q = wp (frz (evO Γ a s)) fun x s1 => opS (rtupD x) fun z => Q z s1 := by
  rw [evO]; simp only [wp_bnd]; refine wp_ext fun x s1 => ?_; cases rtupD x <;> with_unfolding_all rfl
theorem wO_dint {k : Int} {a : CE} : wp (evO Γ (.dint k a) s) Q = wp (frz (evO Γ a s)) fun x s1 => Q (.ownd [.int k] [x]) s1 := by
  rw [evO]; walk_at "wx"; try with_unfolding_all rfl
theorem wO_bisin {i : Nat} {neg : Bool} {a : CE} : wp (evO Γ (.bisin i neg a) s) Q = wp (frz (evO Γ a s)) fun d s1 => lsS s1.ρ[i]? fun xs => opS (inD d (.lst xs)) fun k => Q (.val (.bl (if neg then !k else k))) s1 := by
  rw [evO]; simp only [wp_bnd]; refine wp_ext fun d s1 => ?_
  cases s1.ρ[i]? with
  | none => with_unfolding_all rfl
  | some sl => cases sl with
    | own xs => dsimp only; rw [wp_lft]; unfold lsS; dsimp only; cases inD d (.lst xs) <;> with_unfolding_all rfl
    | _ => with_unfolding_all rfl
def dgS (o : Option Sl) (kd dd : D) (K : D → Prop) (_t : Tg K := .mk) : Prop := match o, kd with
  | some (.ownd ks vs), .int n => opS (intsO ks) fun ns => K (((ns.zip vs).lookup n).getD dd)
  | _, _ => False
theorem dgS_ownd {ks vs : List D} {n : Int} {dd : D} {K : D → Prop} : dgS (some (.ownd ks vs)) (.int n) dd K = opS (intsO ks) fun ns => K (((ns.zip vs).lookup n).getD dd) := rfl
theorem wO_bget {i : Nat} {k d : CE} : wp (evO Γ (.bget i k d) s) Q = (ownDB s i = true ∧ wp (frz (evO Γ k s)) fun kd s1 => wp (frz (evO Γ d s1)) fun dd s2 => dgS s2.ρ[i]? kd dd fun z => Q (.val z) s2) := by
  rw [evO, wp_ite, wp_none]
  cases ownDB s i with
  | false => simp [brK_false]
  | true =>
    rw [brK_true, wp_bnd]
    have : ∀ {P R : Prop}, P = R → P = (true = true ∧ R) := fun h => by simp [h]
    refine this (wp_ext fun kd s1 => ?_)
    rw [wp_bnd]
    refine wp_ext fun dd s2 => ?_
    cases s2.ρ[i]? with
    | none => with_unfolding_all rfl
    | some sl => cases sl with
      | ownd ks vs => cases kd with
        | int n => dsimp only; rw [wp_lft, dgS_ownd]; cases intsO ks <;> with_unfolding_all rfl
        | _ => with_unfolding_all rfl
      | _ => with_unfolding_all rfl
theorem wO_rlist {a b : CE} : wp (evO Γ (.rlist a b) s) Q = wp (frz (evO Γ a s)) fun x s1 => wp (frz (evO Γ b s1)) fun y s2 => opS (rlistD x y) fun z => Q z s2 := by
  rw [evO]; simp only [wp_bnd]; refine wp_ext fun x s1 => ?_; try simp only [wp_bnd]; refine wp_ext fun y s2 => ?_; cases rlistD x y <;> with_unfolding_all rfl
theorem wO_idx {a i : CE} : wp (evO Γ (.idx a i) s) Q = wp (frz (evO Γ a s)) fun x s1 => wp (frz (evO Γ i s1)) fun y s2 => opS (idxW s2.W x y) fun d => Q (.val d) s2 := by
  rw [evO]; simp only [wp_bnd, wp_lft]; refine wp_ext fun x s1 => ?_; try simp only [wp_bnd, wp_lft, wp_okv, wp_ite]; refine wp_ext fun y s2 => ?_; try simp only [wp_bnd, wp_lft, wp_okv, wp_ite]; cases idxW s2.W x y <;> with_unfolding_all rfl
def bxS (o : Option Sl) (k : Int) (K : D → Prop) (_t : Tg K := .mk) : Prop := match o with
  | some (.own xs) => opS (L2.atI xs k) K
  | some (.val d) => opS (idxD d (.int k)) K
  | _ => False
theorem wO_bidx {x : Nat} {k : Int} : wp (evO Γ (.bidx x k) ⟨ρ, W⟩) Q = bxS ρ[x]? k fun d => Q (.val d) ⟨ρ, W⟩ := by
  rw [evO]
  show wp (match ρ[x]? with | some (.own xs) => _ | some (.val d) => _ | _ => _) Q = _
  cases ρ[x]? with
  | none => with_unfolding_all rfl
  | some sl => cases sl with
    | own xs => rw [wp_lft]; unfold bxS; dsimp only; cases L2.atI xs k <;> with_unfolding_all rfl
    | val d => rw [wp_lft]; unfold bxS; dsimp only; cases idxD d (.int k) <;> with_unfolding_all rfl
    | emp => with_unfolding_all rfl
    | ownd _ _ => with_unfolding_all rfl
    | keys _ => with_unfolding_all rfl
theorem bxS_own {xs : List D} {k : Int} {K : D → Prop} : bxS (some (.own xs)) k K = opS (L2.atI xs k) K := rfl
theorem bxS_val {d : D} {k : Int} {K : D → Prop} : bxS (some (.val d)) k K = opS (idxD d (.int k)) K := rfl
def beS (o : Option Sl) (K : Bool → Prop) (_t : Tg K := .mk) : Prop := match o with
  | some (.own xs) => opS (noneIn xs) K
  | some (.val (.lst xs)) => opS (noneIn xs) K
  | _ => False
theorem wO_bemp {x : Nat} {neg : Bool} : wp (evO Γ (.bemp x neg) ⟨ρ, W⟩) Q = beS ρ[x]? fun k => Q (.val (.bl (if neg then !k else k))) ⟨ρ, W⟩ := by
  rw [evO]
  show wp (match ρ[x]? with | some (.own xs) => _ | some (.val (.lst xs)) => _ | _ => _) Q = _
  cases ρ[x]? with
  | none => with_unfolding_all rfl
  | some sl => cases sl with
    | own xs => rw [wp_lft]; unfold beS; dsimp only; cases noneIn xs <;> with_unfolding_all rfl
    | val d => cases d with
      | lst xs => rw [wp_lft]; unfold beS; dsimp only; cases noneIn xs <;> with_unfolding_all rfl
      | _ => with_unfolding_all rfl
    | emp => with_unfolding_all rfl
    | ownd _ _ => with_unfolding_all rfl
    | keys _ => with_unfolding_all rfl
theorem beS_own {xs : List D} {K : Bool → Prop} : beS (some (.own xs)) K = opS (noneIn xs) K := rfl
theorem beS_val {xs : List D} {K : Bool → Prop} : beS (some (.val (.lst xs))) K = opS (noneIn xs) K := rfl
theorem wO_slc {a : CE} {lo hi : Option CE} : wp (evO Γ (.slc a lo hi) s) Q = wp (frz (evO Γ a s)) fun x s1 => wp (evP Γ lo s1) fun l s2 => wp (evP Γ hi s2) fun h s3 => opS (slcD x l h) fun z => Q z s3 := by
  rw [evO]; walk_at "wx"
theorem wO_rev {a : CE} : wp (evO Γ (.rev a) s) Q = wp (frz (evO Γ a s)) fun x s1 => opS (revD x) fun z => Q z s1 := by
  rw [evO]; walk_at "wx"
theorem wO_call {f : Nat} {es : List CE} : wp (evO Γ (.call f es) s) Q = wp (evL Γ es s) fun ds s1 => Runs (Γ.call f ds s1.W) fun d W' => Q (.val d) ⟨s1.ρ, W'⟩ := by
  rw [evO]; simp only [wp_bnd, wp_okv]; refine wp_ext fun ds s1 => ?_; try walk_at "wx"
  unfold Ctx.run
  cases Γ.call f ds s1.W with
  | none => with_unfolding_all rfl
  | some p => obtain ⟨o, s⟩ := p; cases o <;> with_unfolding_all rfl
theorem wO_callk {f : Nat} {es es2 : List CE} {ix : List Nat} : wp (evO Γ (.callk f es es2 ix) s) Q = wp (evL Γ es s) fun ds s1 => wp (evL Γ es2 s1) fun es' s2 => Runs (Γ.call f (kwPut ds es' ix) s2.W) fun d W' => Q (.val d) ⟨s2.ρ, W'⟩ := by
  rw [evO]; simp only [wp_bnd, wp_okv]; refine wp_ext fun ds s1 => ?_; try simp only [wp_bnd, wp_lft, wp_okv, wp_ite]; refine wp_ext fun es' s2 => ?_; try simp only [wp_bnd, wp_lft, wp_okv, wp_ite]
  unfold Ctx.run
  cases Γ.call f (kwPut ds es' ix) s2.W with
  | none => with_unfolding_all rfl
  | some p => obtain ⟨o, s⟩ := p; cases o <;> with_unfolding_all rfl
theorem wO_blt {b : Blt} {es : List CE} : wp (evO Γ (.blt b es) s) Q = wp (evL Γ es s) fun ds s1 => opS (bltD b ds) fun z => Q z s1 := by
  rw [evO]; walk_at "wx"
theorem wO_isi {a : CE} {t : Ty} : wp (evO Γ (.isi a t) s) Q = wp (frz (evO Γ a s)) fun x s1 => opS (isiD x t) fun z => Q (.val (.bl z)) s1 := by
  rw [evO]; simp only [wp_bnd, wp_lft]; refine wp_ext fun x s1 => ?_; try simp only [wp_bnd, wp_lft, wp_okv, wp_ite]; cases isiD x t <;> with_unfolding_all rfl
theorem wO_mth {m : Mth} {a b : CE} : wp (evO Γ (.mth m a b) s) Q = wp (frz (evO Γ a s)) fun x s1 => mthPre m x = true ∧ wp (frz (evO Γ b s1)) fun y s2 => opS (mthD m x y) fun z => Q z s2 := by
  rw [evO]; simp only [wp_bnd]; refine wp_ext fun x s1 => ?_; try walk_at "wx"
  cases mthPre m x with
  | false => simp [brK_false, wp_none]
  | true =>
    rw [brK_true]
    have : wp (bnd (frz (evO Γ b s1)) fun y s2 => lft (mthD m x y) s2) Q = wp (frz (evO Γ b s1)) fun y s2 => opS (mthD m x y) fun z => Q z s2 := by walk_at "wx"
    rw [this]; simp
theorem wO_comp {elt : CE} {tg : CG} {it : CI} {cond : Option CT} {own : List Nat} : wp (evO Γ (.comp elt tg it cond own) s) Q = wp (evI Γ it s) fun xs s1 => (own.all fun i => isData s1.ρ[i]?) = true ∧ sizeB xs.length = true ∧ wp (turnsC (turnR tg (evC Γ cond) (evO Γ elt) own) xs s1) fun ds s2 => Q (.own ds) (restore s1.ρ own s2) := by
  rw [evO]; unfold compR; rw [wp_bnd]; refine wp_ext fun xs s1 => ?_; try walk_at "wx"
  cases (own.all fun i => isData s1.ρ[i]?) with
  | false => simp [brK_false, wp_none]
  | true =>
    rw [brK_true, wp_bnd]
    have : ∀ (r : R (List D)) (P : List D → S → Prop), wp (noExc r) P = wp r P := fun r P => by
      cases r with
      | none => with_unfolding_all rfl
      | some p => obtain ⟨o, s⟩ := p; cases o <;> with_unfolding_all rfl
    rw [this]
    cases sizeB xs.length with
    | true => simp [wp_okv]; with_unfolding_all exact Iff.rfl
    | false =>
      simp [wp_none]
      unfold wp
      split <;> exact id
theorem wL_nil {K : List D → S → Prop} : wp (evL Γ [] s) K = K [] s := by rw [evL]; with_unfolding_all rfl
theorem wL_cons {e : CE} {es : List CE} {K : List D → S → Prop} : wp (evL Γ (e :: es) s) K = wp (frz (evO Γ e s)) fun d s1 => wp (evL Γ es s1) fun ds s2 => K (d :: ds) s2 := by
  rw [evL]; walk_at "wx"
theorem wP_none {K : Option Int → S → Prop} : wp (evP Γ none s) K = K none s := by rw [evP]; with_unfolding_all rfl
theorem wP_some {e : CE} {K : Option Int → S → Prop} : wp (evP Γ (some e) s) K = wp (frz (evO Γ e s)) fun d s1 => opS (intO d) fun i => K (some i) s1 := by
  rw [evP]; simp only [wp_bnd, wp_lft]; refine wp_ext fun x s1 => ?_; try simp only [wp_bnd, wp_lft, wp_okv, wp_ite]; cases intO x <;> with_unfolding_all rfl
theorem wC_none {K : Bool → S → Prop} : wp (evC Γ none s) K = K true s := by rw [evC]; with_unfolding_all rfl
theorem wC_some {t : CT} {K : Bool → S → Prop} : wp (evC Γ (some t) s) K = wp (evT Γ t s) K := by rw [evC]
theorem wT_val {e : CE} {K : Bool → S → Prop} : wp (evT Γ (.val e) s) K = wp (frz (evO Γ e s)) fun d s1 => opS (blO d) fun b => K b s1 := by
  rw [evT]; walk_at "wx"
theorem wT_not {t : CT} {K : Bool → S → Prop} : wp (evT Γ (.not t) s) K = wp (evT Γ t s) fun b s1 => K (!b) s1 := by
  rw [evT]; walk_at "wx"
theorem wT_and {a b : CT} {K : Bool → S → Prop} : wp (evT Γ (.and a b) s) K = wp (evT Γ a s) fun x s1 => brK x (wp (evT Γ b s1) K) (K false s1) := by
  rw [evT]; walk_at "wx"; try with_unfolding_all rfl
theorem wT_or {a b : CT} {K : Bool → S → Prop} : wp (evT Γ (.or a b) s) K = wp (evT Γ a s) fun x s1 => brK x (K true s1) (wp (evT Γ b s1) K) := by
  rw [evT]; walk_at "wx"; try with_unfolding_all rfl
variable {K : List D → S → Prop}
theorem wI_seq {e : CE} : wp (evI Γ (.seq e) s) K = wp (frz (evO Γ e s)) fun d s1 => opS (walkOf d) fun xs => K xs s1 := by
  rw [evI]; walk_at "wx"
theorem wI_rng1 {a : CE} : wp (evI Γ (.rng1 a) s) K = wp (frz (evO Γ a s)) fun d s1 => opS (intO d) fun j => rngOk j = true ∧ K (rangeL 0 1 j.toNat) s1 := by
  rw [evI]; simp only [wp_bnd]; refine wp_ext fun d s1 => ?_; try walk_at "wx"
  cases d <;> try with_unfolding_all rfl
  rename_i j; simp only [wp_ite, intO, opS_some]; cases rngOk j <;> simp [brK, wp_none, wp_okv]
theorem wI_rng2 {a b : CE} : wp (evI Γ (.rng2 a b) s) K = wp (frz (evO Γ a s)) fun d s1 => wp (frz (evO Γ b s1)) fun e s2 => opS (intO d) fun i => opS (intO e) fun j => (rngOk i = true ∧ rngOk j = true) ∧ K (rangeL i 1 (j - i).toNat) s2 := by
  rw [evI]; simp only [wp_bnd]; refine wp_ext fun d s1 => ?_; try simp only [wp_bnd, wp_lft, wp_okv, wp_ite]; refine wp_ext fun e s2 => ?_; try walk_at "wx"
  cases d <;> try with_unfolding_all rfl
  cases e <;> try with_unfolding_all rfl
  rename_i i j; simp only [wp_ite, intO, opS_some]; cases rngOk i <;> cases rngOk j <;> simp [brK, wp_none, wp_okv]
theorem wI_rng3 {a b : CE} : wp (evI Γ (.rng3 a b (-1)) s) K = wp (frz (evO Γ a s)) fun d s1 => wp (frz (evO Γ b s1)) fun e s2 => opS (intO d) fun i => opS (intO e) fun j => (rngOk i = true ∧ rngOk j = true) ∧ K (rangeL i (-1) (i - j).toNat) s2 := by
  rw [evI]; simp only [wp_bnd]; refine wp_ext fun d s1 => ?_; try simp only [wp_bnd, wp_lft, wp_okv, wp_ite]; refine wp_ext fun e s2 => ?_; try walk_at "wx"
  cases d <;> try with_unfolding_all rfl
  cases e <;> try with_unfolding_all rfl
  rename_i i j; simp only [wp_ite, intO, opS_some]; cases rngOk i <;> cases rngOk j <;> simp [brK, wp_none, wp_okv]
theorem wI_enm {e : CE} : wp (evI Γ (.enm e) s) K = wp (frz (evO Γ e s)) fun d s1 => opS (itemsOf d) fun xs => K (enumL 0 xs) s1 := by
  rw [evI]; simp only [wp_bnd, wp_lft]; refine wp_ext fun x s1 => ?_; try simp only [wp_bnd, wp_lft, wp_okv, wp_ite]; cases itemsOf x <;> with_unfolding_all rfl
theorem wI_zip {a b : CE} : wp (evI Γ (.zip a b) s) K = wp (frz (evO Γ a s)) fun d s1 => wp (frz (evO Γ b s1)) fun e s2 => opS (itemsOf d) fun xs => opS (itemsOf e) fun ys => K (zipL xs ys) s2 := by
  rw [evI]; simp only [wp_bnd]; refine wp_ext fun d s1 => ?_; try simp only [wp_bnd, wp_lft, wp_okv, wp_ite]; refine wp_ext fun e s2 => ?_; try walk_at "wx"
  cases itemsOf d <;> cases itemsOf e <;> with_unfolding_all rfl
theorem wI_zip3 {a b c : CE} : wp (evI Γ (.zip3 a b c) s) K = wp (frz (evO Γ a s)) fun d s1 => wp (frz (evO Γ b s1)) fun e s2 => wp (frz (evO Γ c s2)) fun f s3 => opS (itemsOf d) fun xs => opS (itemsOf e) fun ys => opS (itemsOf f) fun zs => K (zipL3 xs ys zs) s3 := by
  rw [evI]; simp only [wp_bnd]; refine wp_ext fun d s1 => ?_; try simp only [wp_bnd]; refine wp_ext fun e s2 => ?_; try simp only [wp_bnd]; refine wp_ext fun f s3 => ?_
  cases itemsOf d <;> cases itemsOf e <;> cases itemsOf f <;> with_unfolding_all rfl
end
section
variable {Γ : Ctx} {ρ : List Sl} {W : List WO} {Q : Fl → S → Prop} {s : S}
theorem wOs_nil {K : List Sl → S → Prop} : wp (evOs Γ [] s) K = K [] s := by rw [evOs, wp_okv]
theorem wOs_cons {e : CE} {es : List CE} {K : List Sl → S → Prop} : wp (evOs Γ (e :: es) s) K = wp (evO Γ e s) fun d s1 => wp (evOs Γ es s1) fun ds s2 => K (d :: ds) s2 := by
  rw [evOs]; walk_at "wx"
theorem wS_set {i : Nat} {e : CE} : wp (evS Γ (.set i e) s) Q = wp (evO Γ e s) fun x s1 => Q .nx (s1.put i x) := by
  rw [evS]; walk_at "wx"
theorem wS_unp {l : List Nat} {e : CE} : wp (evS Γ (.unp l e) s) Q = wp (frz (evO Γ e s)) fun d s1 => opS (itemsOf d) fun ds => opS (setL s1 l ds) fun s2 => Q .nx s2 := by
  rw [evS]; simp only [wp_bnd]; refine wp_ext fun d s1 => ?_; try walk_at "wx"
  cases itemsOf d with
  | none => with_unfolding_all rfl
  | some ds => simp only [opS_some]; cases setL s1 l ds <;> with_unfolding_all rfl
theorem wS_par {l : List Nat} {es : List CE} : wp (evS Γ (.par l es) s) Q = wp (evOs Γ es s) fun ds s1 => opS (setO s1 l ds) fun s2 => Q .nx s2 := by
  rw [evS]; simp only [wp_bnd]; refine wp_ext fun ds s1 => ?_; try walk_at "wx"
  cases setO s1 l ds <;> with_unfolding_all rfl
theorem wS_sub {x : Nat} {k e : CE} : wp (evS Γ (.sub x k e) s) Q = wp (frz (evO Γ e s)) fun d s1 => isSet s1 x = true ∧ wp (frz (evO Γ k s1)) fun kd s2 => opS (subS s2 x kd d) fun s3 => Q .nx s3 := by
  rw [evS, wp_bnd]; refine wp_ext fun d s1 => ?_
  rw [wp_ite, wp_none]
  cases isSet s1 x with
  | false => simp [brK_false]
  | true =>
    rw [brK_true, wp_bnd]
    have : ∀ {P R : Prop}, P = R → P = (true = true ∧ R) := fun h => by simp [h]
    refine this (wp_ext fun kd s2 => ?_)
    cases subS s2 x kd d <;> with_unfolding_all rfl
def auS (o : Option Sl) (K : Int → Prop) (_t : Tg K := .mk) : Prop := match o with
  | some (.val (.int a)) => K a
  | _ => False
theorem auS_int {a : Int} {K : Int → Prop} : auS (some (.val (.int a))) K = K a := rfl
theorem wS_aug {i : Nat} {e : CE} : wp (evS Γ (.aug i .add e) ⟨ρ, W⟩) Q = auS ρ[i]? fun a => wp (frz (evO Γ e ⟨ρ, W⟩)) fun d s1 => opS (intO d) fun b => Q .nx (s1.put i (.val (.int (a + b)))) := by
  rw [evS]
  show wp (match ρ[i]? with | some (.val (.int a)) => _ | _ => _) Q = _
  cases ρ[i]? with
  | none => with_unfolding_all rfl
  | some sl => cases sl with
    | val d => cases d with
      | int a =>
        dsimp only; rw [wp_bnd, auS_int]; refine wp_ext fun d s1 => ?_; cases d <;> with_unfolding_all rfl
      | _ => with_unfolding_all rfl
    | _ => with_unfolding_all rfl
theorem wS_app {x : Nat} {e : CE} : wp (evS Γ (.app x e) s) Q = (ownL s x = true ∧ wp (frz (evO Γ e s)) fun d s1 => opS (appS s1 x d) fun s2 => Q .nx s2) := by
  rw [evS, wp_ite, wp_none]
  cases ownL s x with
  | false => simp [brK_false]
  | true =>
    rw [brK_true, wp_bnd]
    have : ∀ {P R : Prop}, P = R → P = (true = true ∧ R) := fun h => by simp [h]
    refine this (wp_ext fun d s1 => ?_)
    cases appS s1 x d <;> with_unfolding_all rfl
theorem wS_ext {x : Nat} {e : CE} : wp (evS Γ (.ext x e) s) Q = (ownL s x = true ∧ wp (frz (evO Γ e s)) fun d s1 => opS (extS s1 x d) fun s2 => Q .nx s2) := by
  rw [evS, wp_ite, wp_none]
  cases ownL s x with
  | false => simp [brK_false]
  | true =>
    rw [brK_true, wp_bnd]
    have : ∀ {P R : Prop}, P = R → P = (true = true ∧ R) := fun h => by simp [h]
    refine this (wp_ext fun d s1 => ?_)
    cases extS s1 x d <;> with_unfolding_all rfl
theorem wS_expr {e : CE} : wp (evS Γ (.expr e) s) Q = wp (evO Γ e s) fun _ s1 => Q .nx s1 := by
  rw [evS]; walk_at "wx"
theorem wS_ret {e : CE} : wp (evS Γ (.ret e) s) Q = wp (frz (evO Γ e s)) fun d s1 => Q (.rt d) s1 := by
  rw [evS]; walk_at "wx"
theorem wS_retN : wp (evS Γ .retN s) Q = Q (.rt .non) s := by rw [evS]; with_unfolding_all rfl
theorem wS_ite {t : CT} {a b : List CS} : wp (evS Γ (.ite t a b) s) Q = wp (evT Γ t s) fun k s1 => brK k (wp (evSs Γ a s1) Q) (wp (evSs Γ b s1) Q) := by
  rw [evS]; walk_at "wx"
theorem wS_for {tg : CG} {it : CI} {body : List CS} : wp (evS Γ (.for_ tg it body) s) Q = wp (evI Γ it s) fun xs s1 => wp (turnsF (turnF tg (evSs Γ body)) xs s1) Q := by
  rw [evS]; walk_at "wx"
theorem wS_whl {t : CT} {body : List CS} : wp (evS Γ (.whl t body) s) Q = wp (turnsW (evT Γ t) (evSs Γ body) 1000 s) Q := by rw [evS]
theorem wS_cont : wp (evS Γ .cont s) Q = Q .ct s := by rw [evS]; with_unfolding_all rfl
theorem wS_pass : wp (evS Γ .pass s) Q = Q .nx s := by rw [evS]; with_unfolding_all rfl
def nxK (o : Fl) (P : Prop) (Q : Fl → Prop) (_t : Tg P := .mk) (_u : Tg Q := .mk) : Prop := match o with
  | .nx => P
  | y => Q y
theorem nxK_nx {P : Prop} {Q : Fl → Prop} : nxK .nx P Q = P := rfl
theorem nxN {P : Prop} {Q : Fl → Prop} (h : P) : nxK .nx P Q := by unfold nxK; exact h
theorem nxK_ct {P : Prop} {Q : Fl → Prop} : nxK .ct P Q = Q .ct := rfl
theorem nxK_rt {d : D} {P : Prop} {Q : Fl → Prop} : nxK (.rt d) P Q = Q (.rt d) := rfl
theorem wSs_nil : wp (evSs Γ [] s) Q = Q .nx s := by rw [evSs]; with_unfolding_all rfl
theorem wSs_cons {c : CS} {cs : List CS} : wp (evSs Γ (c :: cs) s) Q = wp (evS Γ c s) fun o s1 => nxK o (wp (evSs Γ cs s1) Q) fun y => Q y s1 := by
  rw [evSs, wp_bnd]; refine wp_ext fun o s1 => ?_; cases o <;> with_unfolding_all rfl
def ctK (o : Fl) (P : Prop) (Q : D → Prop) (_t : Tg P := .mk) (_u : Tg Q := .mk) : Prop := match o with
  | .rt d => Q d
  | _ => P
theorem ctK_nx {P : Prop} {Q : D → Prop} : ctK .nx P Q = P := rfl
theorem ctK_ct {P : Prop} {Q : D → Prop} : ctK .ct P Q = P := rfl
theorem ctK_rt {d : D} {P : Prop} {Q : D → Prop} : ctK (.rt d) P Q = Q d := rfl
theorem wF_nil {f : D → S → R Fl} : wp (turnsF f [] s) Q = Q .nx s := by unfold turnsF; rw [wp_okv]
theorem wF_cons {f : D → S → R Fl} {x : D} {xs : List D} : wp (turnsF f (x :: xs) s) Q = wp (f x s) fun o s1 => ctK o (wp (turnsF f xs s1) Q) fun d => Q (.rt d) s1 := by
  rw [turnsF, wp_bnd]; refine wp_ext fun o s1 => ?_; cases o <;> with_unfolding_all rfl
theorem wF_turn {tg : CG} {rb : S → R Fl} {x : D} : wp (turnF tg rb x s) Q = opS (bindG s tg x) fun s1 => wp (rb s1) Q := by
  unfold turnF; cases bindG s tg x <;> with_unfolding_all rfl
theorem put_mk {i : Nat} {x : Sl} : S.put ⟨ρ, W⟩ i x = ⟨ρ.set i x, W⟩ := rfl

theorem wp_while {t : S → R Bool} {f : S → R Fl} {I : Nat → S → Prop} {Q : Fl → S → Prop} (k : ∀ n s, I n s → wp (t s) fun b s1 => brK b (∃ m, n = m + 1 ∧ wp (f s1) fun o s2 => match o with | .rt d => Q (.rt d) s2 | _ => I m s2) (Q .nx s1)) :
    ∀ {fuel n : Nat} {s : S}, I n s → n < fuel → wp (turnsW t f fuel s) Q
  | 0, _, _, _, h => by omega
  | fuel + 1, n, s, h, hn => by
    unfold turnsW
    rw [wp_bnd]
    refine wp_mono (k n s h) fun b s1 hb => ?_
    rw [wp_ite]
    refine ⟨fun g => ?_, fun g => by rw [wp_okv]; exact hb.2 g⟩
    obtain ⟨m, e, hm⟩ := hb.1 g
    rw [wp_bnd]
    refine wp_mono hm fun o s2 ho => ?_
    cases o with
    | rt d => show wp (okv _ _) _; rw [wp_okv]; exact ho
    | nx => exact wp_while k ho (by omega)
    | ct => exact wp_while k ho (by omega)
theorem wp_loop {f : D → S → R Fl} {I : List D → S → Prop} : ∀ {xs : List D} {s : S}, I xs s →
    (∀ x r s, (∃ l, xs = l ++ x :: r) → I (x :: r) s → wp (f x s) fun o s' => match o with | .rt d => Q (.rt d) s' | _ => I r s') → (∀ s, I [] s → Q .nx s) → wp (turnsF f xs s) Q
  | [], s, h, _, e => by unfold turnsF; rw [wp_okv]; exact e s h
  | x :: xs, s, h, k, e => by
    unfold turnsF
    rw [wp_bnd]
    refine wp_mono (k x xs s ⟨[], rfl⟩ h) fun o s' ho => ?_
    cases o with
    | rt d => show wp (okv _ _) _; rw [wp_okv]; exact ho
    | nx => exact wp_loop ho (fun y r t ⟨l, hl⟩ => k y r t ⟨x :: l, by rw [hl]; rfl⟩) e
    | ct => exact wp_loop ho (fun y r t ⟨l, hl⟩ => k y r t ⟨x :: l, by rw [hl]; rfl⟩) e

theorem wp_comp {f : D → S → R (Option D)} {g : D → Option D} {C : S → Prop} {K : List D → S → Prop} : ∀ {xs : List D} {s : S}, C s →
    (∀ x s, x ∈ xs → C s → wp (f x s) fun o s' => o = g x ∧ C s') → (∀ s, C s → K (xs.filterMap g) s) → wp (turnsC f xs s) K
  | [], s, h, _, e => by unfold turnsC; rw [wp_okv]; exact e s h
  | x :: xs, s, h, k, e => by
    unfold turnsC
    rw [wp_bnd]
    refine wp_mono (k x s List.mem_cons_self h) fun o s' ⟨ho, h'⟩ => ?_
    subst ho
    rw [wp_bnd]
    refine wp_comp h' (fun y t hy ht => k y t (List.mem_cons_of_mem _ hy) ht) fun t ht => ?_
    rw [wp_okv]
    have := e t ht
    rw [List.filterMap_cons] at this
    cases q : g x with
    | none => rw [q] at this; exact this
    | some d => rw [q] at this; exact this
theorem wR_turn {tg : CG} {rc : S → R Bool} {re : S → R Sl} {own : List Nat} {x : D} {K : Option D → S → Prop} : wp (turnR tg rc re own x s) K = opS (bindG (wipeS own s) tg x) fun s3 => wp (rc s3) fun k s4 => brK k (wp (frz (re s4)) fun d s5 => K (some d) s5) (K none s4) := by
  unfold turnR
  cases bindG (wipeS own s) tg x with
  | none => with_unfolding_all rfl
  | some s3 =>
    dsimp only
    rw [wp_bnd, opS_some]
    refine wp_ext fun k s4 => ?_; try walk_at "wx"
    cases k <;> simp [brK, wp_bnd, wp_okv]; with_unfolding_all exact Iff.rfl

theorem runs_call {T : Nat → Option Fn} {gc : Nat → Option D} {k f : Nat} {F : Fn} {ds : List D} {P : D → List WO → Prop} (h : T f = some F) (hl : ds.length = F.np)
    (hb : wp (evSs ⟨callK T gc k, gc⟩ F.body ⟨ds.map .val ++ List.replicate (F.ns - F.np) .emp, W⟩) fun o s => match o with | .rt d => P d s.W | .nx => P .non s.W | .ct => False) : Runs (callK T gc (k + 1) f ds W) P := by
  unfold callK
  rw [h]
  dsimp only
  rw [if_pos hl]
  unfold wp at hb
  split at hb
  · rename_i a s e
    cases a with
    | nx => rw [e]; exact hb
    | rt d => rw [e]; exact hb
    | ct => cases hb
  · cases hb
theorem run_mk {T : Nat → Option Fn} {gc : Nat → Option D} {k : Nat} : (⟨callK T gc k, gc⟩ : Ctx).call = callK T gc k := rfl
end
end GP

set_option Elab.async false
set_option linter.all false
set_option maxRecDepth 100000
set_option autoImplicit false
set_option maxHeartbeats 4000000

namespace GP
open PySem PySem.Spec L2
theorem opS_ite {α : Type} {b : Bool} {o : Option α} {K : α → Prop} : opS (if b = true then o else none) K = (b = true ∧ opS o K) := by
  cases b with
  | false => simp [opS]
  | true => simp
theorem sizeB_m {n : Nat} (h : n ≤ 1000000) : sizeB n = true := decide_eq_true (Nat.le_trans h (by decide))
theorem eqD_int {i j : Int} : eqD (.int i) (.int j) = some (decide (i = j)) := by
  show (if SeqAt.shaped (.int i) && SeqAt.shaped (.int j) then some (PyData.eqv (.int i) (.int j)) else none) = _
  have h : ∀ i : Int, SeqAt.shaped (.int i) = true := fun i => rfl
  rw [h, h]
  show some (i == j) = _
  by_cases q : i = j
  · subst q; simp
  · simp [q]

theorem pw_nn {a : Int} {n : Nat} : powD (.int a) (.int (n : Int)) = if decide ((n : Int) ≤ 1000000 ∧ a.natAbs < 2 ^ 64) then some (.val (.int (a ^ n))) else none := by
  unfold powD
  have : (0 ≤ (n : Int) ∧ (n : Int) ≤ 1000000 ∧ a.natAbs < 2 ^ 64) ↔ ((n : Int) ≤ 1000000 ∧ a.natAbs < 2 ^ 64) := ⟨fun h => h.2, fun h => ⟨by omega, h⟩⟩
  simp [this]
theorem idx_li {W : List WO} {xs : List D} {i : Int} : idxW W (.lst xs) (.int i) = L2.atI xs i := rfl
theorem idx_tu {W : List WO} {xs : List D} {i : Int} : idxW W (.tup xs) (.int i) = L2.atI xs i := rfl
theorem ati_nat {α : Type} {xs : List α} {i : Nat} (h : i < xs.length) : L2.atI xs (i : Int) = some xs[i] := L2.atI_nat (List.getElem?_eq_getElem h)
theorem ati_of {α : Type} {xs : List α} {i : Int} (h0 : 0 ≤ i) {x : α} (h : xs[i.toNat]? = some x) : L2.atI xs i = some x := by
  have := L2.atI_nat (xs := xs) (j := i.toNat) h
  rwa [Int.toNat_of_nonneg h0] at this
theorem ati_neg1 {α : Type} {xs : List α} {x : α} (h : xs.getLast? = some x) : L2.atI xs (-1) = some x := by
  cases xs with
  | nil => cases h
  | cons y ls =>
    have h2 : (y :: ls)[ls.length]? = some x := by
      rw [List.getLast?_eq_getElem?] at h
      simpa using h
    unfold L2.atI
    have h3 : L2.ixN (y :: ls).length (-1) = some ls.length := by
      unfold L2.ixN
      rw [List.length_cons, if_neg (by decide), if_pos (by omega)]
      congr 1
      omega
    rw [h3]
    exact h2

theorem DrAt.less {n b b' : Nat} {W : List WO} (h : DrAt n b W) (hb : b' ≤ b) : DrAt n b' W := by
  obtain ⟨cells, a, l, u, h1, h2, h3, h4, h5, h6, h7, h8⟩ := h
  exact ⟨cells, a, l, u, h1, h2, h3, h4, h5, h6, by omega, by omega⟩
theorem Same1.refl {n : Nat} {W : List WO} : Same1 n W W := ⟨rfl, fun _ _ => rfl⟩

structure Dr (n b : Nat) (W W' : List WO) : Prop where
  at_ : DrAt n b W'
  same : Same1 n W W'
theorem Dr.less {n b b' : Nat} {W W' : List WO} (h : Dr n b W W') (hb : b' ≤ b) : Dr n b' W W' := ⟨h.at_.less hb, h.same⟩
theorem log_lt {m : Int} (h : m.natAbs < 2 ^ 9000) : m.natAbs.log2 < 9000 := by
  by_cases z : m.natAbs = 0
  · rw [z]; decide
  · exact (Nat.log2_lt z).mpr h
theorem next_run {T : Nat → Option Fn} {gc : Nat → Option D} {k n b : Nat} {W0 W : List WO} {many : Int} {Q : D → List WO → Prop} (hT : T 1 = some F_next) (hd : Dr n b W0 W) (hb : 1 ≤ b) (h0 : 0 < many) (h1 : many < 2 ^ 200)
    (K : ∀ i W', 0 ≤ i → i < many → Dr n (b - 1) W0 W' → Q (.int i) W') : Runs (callK T gc (k + 1) 1 [.obj n, .int many] W) Q := by
  have hd1 : DrAt n ((b - 1) + 1) W := by rw [Nat.sub_add_cancel hb]; exact hd.at_
  obtain ⟨i, W', e, h2, h3, h4, h5⟩ := next_ok (gc := gc) (k := k) hT hd1 h0 (log_lt (Nat.lt_of_lt_of_le (by omega : many.natAbs < 2 ^ 200) (Nat.pow_le_pow_right (by decide) (by decide))))
  rw [e]
  exact K i W' h2 h3 ⟨h4, hd.same.trans h5⟩
theorem pick_run {T : Nat → Option Fn} {gc : Nat → Option D} {k n b : Nat} {W0 W : List WO} {xs : List D} {Q : D → List WO → Prop} (hT : T 1 = some F_next) (hT2 : T 2 = some F_pick) (hd : Dr n b W0 W) (hb : 1 ≤ b) (h0 : 0 < xs.length) (h1 : xs.length ≤ 1000000)
    (K : ∀ d W', d ∈ xs → Dr n (b - 1) W0 W' → Q d W') : Runs (callK T gc (k + 2) 2 [.obj n, .lst xs] W) Q := by
  have hd1 : DrAt n ((b - 1) + 1) W := by rw [Nat.sub_add_cancel hb]; exact hd.at_
  obtain ⟨d, W', e, h2, h4, h5⟩ := pick_ok (gc := gc) (k := k) hT hT2 hd1 h0 h1
  rw [e]
  exact K d W' h2 ⟨h4, hd.same.trans h5⟩
theorem gauge_run {T : Nat → Option Fn} {gc : Nat → Option D} {k n b : Nat} {W0 W : List WO} {Q : D → List WO → Prop} (hT : T 1 = some F_next) (hT2 : T 11 = some F_gauge) (hd : Dr n b W0 W) (hb : 2 ≤ b)
    (K : ∀ p q W', 1 ≤ p → p ≤ 3 → 1 ≤ q → q ≤ 3 → Dr n (b - 2) W0 W' → Q (.tup [.int p, .int q]) W') : Runs (callK T gc (k + 2) 11 [.obj n] W) Q := by
  have hd1 : DrAt n ((b - 2) + 2) W := by rw [Nat.sub_add_cancel hb]; exact hd.at_
  obtain ⟨p, q, W', e, h2, h3, h4, h5, h6, h7⟩ := gauge_ok (gc := gc) (k := k) hT hT2 hd1
  rw [e]
  exact K p q W' h2 h3 h4 h5 ⟨h6, hd.same.trans h7⟩
end GP

set_option Elab.async false
set_option linter.all false
set_option maxRecDepth 100000
set_option autoImplicit false
set_option maxHeartbeats 4000000

namespace GP
open PySem PySem.Spec L2
local macro_rules | `(tactic| walk_at "go") => `(tactic| try simp only [↓wp_okv, ↓wp_some, ↓wp_bnd, ↓wp_lft, ↓wp_frz, ↓wO_var, ↓wO_con, ↓wO_glob, ↓wO_bin, ↓wO_neg, ↓wO_notv, ↓wO_andv, ↓wO_orv, ↓wO_cmp, ↓wO_isN, ↓wO_isnN, ↓wO_chain, ↓wO_ite, ↓wO_tup, ↓wO_tups, ↓wO_lst, ↓wO_dnew, ↓wO_knew, ↓wO_rlist, ↓wO_rtup, ↓wO_dint, ↓wO_bisin, ↓wO_bget, ↓wO_idx, ↓wO_bidx, ↓wO_bemp, ↓wO_slc, ↓wO_rev, ↓wO_call, ↓wO_callk, ↓wO_blt, ↓wO_isi, ↓wO_mth, ↓wO_comp, ↓wL_nil, ↓wL_cons, ↓wP_none, ↓wP_some, ↓wC_none, ↓wC_some, ↓wT_val, ↓wT_not, ↓wT_and, ↓wT_or, ↓wI_seq, ↓wI_rng1, ↓wI_rng2, ↓wI_rng3, ↓wI_enm, ↓wI_zip, ↓wI_zip3, ↓wOs_nil, ↓wOs_cons, ↓wS_set, ↓wS_unp, ↓wS_par, ↓wS_sub, ↓wS_aug, ↓wS_app, ↓wS_ext, ↓wS_expr, ↓wS_ret, ↓wS_retN, ↓wS_ite, ↓wS_for, ↓wS_whl, ↓wS_cont, ↓wS_pass, ↓wSs_nil, ↓wSs_cons, ↓wF_turn, ctK_nx, ctK_ct, ctK_rt, ↓wR_turn, ↓put_mk, opS_some, opS_ite, rdS_val, rdS_own, rdS_ownd, lsS_own, dgS_ownd, ownDB, bxS_own, bxS_val, beS_own, beS_val, auS_int, brK_true, brK_false, brK_not, brK_and, brK_or, nxK_nx, nxK_ct, nxK_rt, runs_some, List.getElem?_cons_zero, List.getElem?_cons_succ, List.set_cons_zero, List.set_cons_succ, List.length_cons, List.length_nil, List.map_cons, List.map_nil, List.replicate, List.cons_append, List.nil_append, List.all_cons, List.all_nil, Option.getD_some, Nat.reduceSub, Nat.reduceAdd, Nat.reduceLeDiff, true_and, and_true, Bool.and_true, Bool.true_and, Bool.not_true, Bool.not_false, setL, setO, bindG, wipeS, restore, isSet, ownL, appS, extS, isData, binD, addD, subD, mulD, fdivD, modD, cmpD, ltD, leD, eqD_int, blO, intO, walkOf, itemsOf, tupO, bltD, lenD, sizeB_m, Option.map_some, reduceCtorEq, if_true, if_false, tupleD, listD, min2D, max2D, pw_nn, idx_tu, idx_li, slcD, kwPut, isNonD, isiD, mthD, mthPre, decide_true, decide_false, not_true_eq_false, not_false_eq_true, Bool.and_false, Bool.false_and, and_false, false_and, or_false, false_or, or_true, true_or, and_self])
def B_walked : List CS := [.set 6 (.call 1 [(.var 0), (.con (.int 5))]), .set 7 (.call 1 [(.var 0), (.bin .add (.bidx 1 0) (.con (.int 1)))]), .ite (.val (.cmp .gt (.var 6) (.con (.int 1)))) [.set 7 (.bin .sub (.con (.int 0)) (.call 1 [(.var 0), (.bin .add (.bidx 1 1) (.con (.int 1)))]))] [], .app 4 (.bin .add (.bidx 4 (-1)) (.ite (.val (.cmp .lt (.var 6) (.con (.int 4)))) (.var 7) (.con (.int 0))))]
def F_walked : Fn := ⟨4, 8, [
  .set 4 (.lst [(.bin .mul (.var 3) (.bin .sub (.call 1 [(.var 0), (.con (.int 7))]) (.con (.int 3))))]),
  .for_ (.nm 5) (.rng1 (.var 2)) B_walked,
  .ret (.var 4)]⟩

def Steps (p q : Int) : List Int → Prop
  | x :: y :: r => (x - q ≤ y ∧ y ≤ x + p) ∧ Steps p q (y :: r)
  | _ => True
theorem steps_snoc {p q y : Int} : ∀ {l : List Int} {z : Int}, Steps p q l → l.getLast? = some z → z - q ≤ y → y ≤ z + p → Steps p q (l ++ [y])
  | [], z, _, h, _, _ => by cases h
  | [x], z, _, h, h1, h2 => by
    cases h
    exact ⟨⟨h1, h2⟩, trivial⟩
  | x :: w :: r, z, ⟨a, b⟩, h, h1, h2 => by
    rw [List.getLast?_cons_cons] at h
    exact ⟨a, steps_snoc b h h1 h2⟩
def LvI (n b : Nat) (W0 : List WO) (p q h sc B : Int) (k : Nat) (r : List D) (s : S) : Prop := ∃ (ls : List Int) (d5 d6 d7 : Sl) (W' : List WO) (z : Int),
  s = ⟨[.val (.obj n), .val (.tup [.int p, .int q]), .val (.int h), .val (.int sc), .own (ls.map .int), d5, d6, d7], W'⟩ ∧ ls.length + r.length = k ∧ ls.getLast? = some z ∧
  (∀ z ∈ ls, -(B * ((ls.length : Int) + 2)) ≤ z ∧ z ≤ B * ((ls.length : Int) + 2)) ∧ Steps p q ls ∧ Dr n (b - (k - r.length) * 4) W0 W'
theorem walked_run {T : Nat → Option Fn} {gc : Nat → Option D} {k n b h : Nat} {W0 W : List WO} {p q sc B : Int} {Q : D → List WO → Prop} (hT : T 1 = some F_next) (hT2 : T 12 = some F_walked) (hd : Dr n b W0 W) (hb : 4 * h + 4 ≤ b) (hp : 1 ≤ p ∧ p ≤ B) (hq : 1 ≤ q ∧ q ≤ B) (hB : B ≤ 10 ^ 40) (hh : h < 100000) (hsc : 0 ≤ sc ∧ sc ≤ B)
    (K : ∀ (ls : List Int) W', ls.length = h + 1 → (∀ z ∈ ls, -(B * ((h : Int) + 3)) ≤ z ∧ z ≤ B * ((h : Int) + 3)) → Steps p q ls → Dr n (b - (h + 1) * 4) W0 W' → Q (.lst (ls.map .int)) W') :
    Runs (callK T gc (k + 2) 12 [.obj n, .tup [.int p, .int q], .int h, .int sc] W) Q := by
  refine runs_call hT2 rfl ?_
  unfold F_walked
  walk_at "go"
  refine next_run hT hd (by omega) (by decide) (by decide) fun i W1 i0 i1 d1 => ?_
  have m1 : mulOk sc (i - 3) = true := mulOk_of (m := 200) (n := 100) (by omega) (by omega)
  walk_at "go"
  refine ⟨m1, ?_⟩
  walk_at "go"
  have e1 : rngOk (h : Int) = true := by unfold rngOk; exact decide_eq_true (by omega)
  refine ⟨e1, ?_⟩
  rw [Int.toNat_natCast]
  refine wp_loop (I := LvI n b W0 p q h sc B (h + 1)) ?_ ?_ ?_
  · refine ⟨[sc * (i - 3)], .emp, .emp, .emp, W1, sc * (i - 3), rfl, by rw [rangeL_len]; simp; omega, rfl, fun z hz => ?_, trivial, d1.less (by rw [rangeL_len]; omega)⟩
    have : z = sc * (i - 3) := by simpa using hz
    subst this
    have h1 : i = 0 ∨ i = 1 ∨ i = 2 ∨ i = 3 ∨ i = 4 ∨ i = 5 ∨ i = 6 := by omega
    simp only [List.length_cons, List.length_nil]
    rcases h1 with rfl | rfl | rfl | rfl | rfl | rfl | rfl <;> omega
  · rintro x r s - ⟨ls, d5, d6, d7, W2, z, rfl, hl, hz, hbd, hst, hdr⟩
    have e0 : idxD (.tup [D.int p, D.int q]) (.int 0) = some (.int p) := rfl
    have e01 : idxD (.tup [D.int p, D.int q]) (.int 1) = some (.int q) := rfl
    have hz2 : L2.atI (ls.map D.int) (-1) = some (.int z) := ati_neg1 (by rw [List.getLast?_map, hz]; rfl)
    have hz3 := hbd z (List.mem_of_getLast? hz)
    have hlr : ls.length + (r.length + 1) = h + 1 := hl
    have sz : decide ((ls.map D.int).length < sizeLine) = true := decide_eq_true (Nat.lt_of_lt_of_le (by rw [List.length_map]; omega : (ls.map D.int).length < 1000000) (by decide))
    have hk : h + 1 - (r.length + 1) = ls.length := by omega
    have hdr : Dr n (b - ls.length * 4) W0 W2 := by rw [← hk]; exact hdr
    have out : ∀ (y : Int) (d5 d6 d7 : Sl) (W' : List WO), -q ≤ y → y ≤ p → Dr n (b - ls.length * 4 - 3) W0 W' → LvI n b W0 p q h sc B (h + 1) r ⟨[.val (.obj n), .val (.tup [.int p, .int q]), .val (.int h), .val (.int sc), .own (ls.map .int ++ [.int (z + y)]), d5, d6, d7], W'⟩ := fun y d5 d6 d7 W' y1 y2 hd' =>
      ⟨ls ++ [z + y], d5, d6, d7, W', z + y, by simp, by simp; omega, by simp, fun t ht => by
        have e : B * (((ls ++ [z + y]).length : Int) + 2) = B * ((ls.length : Int) + 2) + B := by
          rw [List.length_append, List.length_singleton, Int.natCast_add, Int.mul_add, Int.mul_add, Int.mul_add]; omega
        rw [e]
        rcases List.mem_append.mp ht with ht | ht
        · have := hbd t ht; omega
        · have : t = z + y := by simpa using ht
          omega, steps_snoc hst hz (by omega) (by omega), hd'.less (by omega)⟩
    unfold B_walked
    walk_at "go"
    refine next_run hT hdr (by omega) (by decide) (by decide) fun i1 W3 a0 a1 d3 => ?_
    walk_at "go"
    rw [e0]
    walk_at "go"
    refine next_run hT d3 (by omega) (by omega) (by omega) fun i2 W4 b0 b1 d4 => ?_
    walk_at "go"
    refine brK_dec (fun g1 => ?_) fun g1 => ?_
    · walk_at "go"
      rw [e01]
      walk_at "go"
      refine next_run hT d4 (by omega) (by omega) (by omega) fun i3 W5 c0 c1 d5' => ?_
      walk_at "go"
      rw [hz2]
      walk_at "go"
      refine brK_dec (fun g2 => ?_) fun g2 => ?_
      · walk_at "go"
        rw [sz]
        walk_at "go"
        exact out _ _ _ _ _ (by omega) (by omega) (d5'.less (by omega))
      · walk_at "go"
        rw [sz]
        walk_at "go"
        exact out _ _ _ _ _ (by omega) (by omega) (d5'.less (by omega))
    · walk_at "go"
      rw [hz2]
      walk_at "go"
      refine brK_dec (fun g2 => ?_) fun g2 => ?_
      · walk_at "go"
        rw [sz]
        walk_at "go"
        exact out _ _ _ _ _ (by omega) (by omega) (d4.less (by omega))
      · omega
  · rintro s ⟨ls, d5, d6, d7, W2, z, rfl, hl, hz, hbd, hst, hdr⟩
    have hl : ls.length = h + 1 := by simpa using hl
    walk_at "go"
    refine K ls W2 hl (fun t ht => ?_) hst (hdr.less (by simp))
    have := hbd t ht
    rw [hl, Int.natCast_add] at this
    have e : ((h : Int) + ((1 : Nat) : Int) + 2) = (h : Int) + 3 := by omega
    rw [e] at this
    exact this
end GP

set_option Elab.async false
set_option linter.all false
set_option maxRecDepth 100000
set_option autoImplicit false
set_option maxHeartbeats 4000000

namespace GP
open PySem PySem.Spec L2
local macro_rules | `(tactic| walk_at "go") => `(tactic| try simp only [↓wp_okv, ↓wp_some, ↓wp_bnd, ↓wp_lft, ↓wp_frz, ↓wO_var, ↓wO_con, ↓wO_glob, ↓wO_bin, ↓wO_neg, ↓wO_notv, ↓wO_andv, ↓wO_orv, ↓wO_cmp, ↓wO_isN, ↓wO_isnN, ↓wO_chain, ↓wO_ite, ↓wO_tup, ↓wO_tups, ↓wO_lst, ↓wO_dnew, ↓wO_knew, ↓wO_rlist, ↓wO_rtup, ↓wO_dint, ↓wO_bisin, ↓wO_bget, ↓wO_idx, ↓wO_bidx, ↓wO_bemp, ↓wO_slc, ↓wO_rev, ↓wO_call, ↓wO_callk, ↓wO_blt, ↓wO_isi, ↓wO_mth, ↓wO_comp, ↓wL_nil, ↓wL_cons, ↓wP_none, ↓wP_some, ↓wC_none, ↓wC_some, ↓wT_val, ↓wT_not, ↓wT_and, ↓wT_or, ↓wI_seq, ↓wI_rng1, ↓wI_rng2, ↓wI_rng3, ↓wI_enm, ↓wI_zip, ↓wI_zip3, ↓wOs_nil, ↓wOs_cons, ↓wS_set, ↓wS_unp, ↓wS_par, ↓wS_sub, ↓wS_aug, ↓wS_app, ↓wS_ext, ↓wS_expr, ↓wS_ret, ↓wS_retN, ↓wS_ite, ↓wS_for, ↓wS_whl, ↓wS_cont, ↓wS_pass, ↓wSs_nil, ↓wSs_cons, ↓wF_turn, ctK_nx, ctK_ct, ctK_rt, ↓wR_turn, ↓put_mk, opS_some, opS_ite, rdS_val, rdS_own, rdS_ownd, lsS_own, dgS_ownd, ownDB, bxS_own, bxS_val, beS_own, beS_val, auS_int, brK_true, brK_false, brK_not, brK_and, brK_or, nxK_nx, nxK_ct, nxK_rt, runs_some, List.getElem?_cons_zero, List.getElem?_cons_succ, List.set_cons_zero, List.set_cons_succ, List.length_cons, List.length_nil, List.map_cons, List.map_nil, List.replicate, List.cons_append, List.nil_append, List.all_cons, List.all_nil, Option.getD_some, Nat.reduceSub, Nat.reduceAdd, Nat.reduceLeDiff, true_and, and_true, Bool.and_true, Bool.true_and, Bool.not_true, Bool.not_false, setL, setO, bindG, wipeS, restore, isSet, ownL, appS, extS, isData, binD, addD, subD, mulD, fdivD, modD, cmpD, ltD, leD, eqD_int, blO, intO, walkOf, itemsOf, tupO, bltD, lenD, sizeB_m, Option.map_some, reduceCtorEq, if_true, if_false, tupleD, listD, min2D, max2D, pw_nn, idx_tu, idx_li, slcD, kwPut, isNonD, isiD, mthD, mthPre, decide_true, decide_false, not_true_eq_false, not_false_eq_true, Bool.and_false, Bool.false_and, and_false, false_and, or_false, false_or, or_true, true_or, and_self])
structure Vis where
  hour : Int
  now : Option Int
  low : Int
  high : Int
  back : Option Int
def oD : Option Int → D
  | none => .non
  | some i => .int i
def vD (v : Vis) : D := .tup [.int v.hour, oD v.now, .int v.low, .int v.high, oD v.back]
def minTo (a : Int) (l : List Int) : Int := l.foldl (fun a b => if b < a then b else a) a
def maxTo (a : Int) (l : List Int) : Int := l.foldl (fun a b => if b > a then b else a) a
theorem ints_m : ∀ (l : List Int), intsO (l.map D.int) = some l
  | [] => rfl
  | x :: l => by
    have := ints_m l
    unfold intsO at this ⊢
    rw [List.map_cons, allSome, this]; rfl
theorem min1_eq {a : Int} {l : List Int} : min1D [.lst (D.int a :: l.map .int)] = some (.val (.int (minTo a l))) := by
  unfold min1D
  have : intsO (D.int a :: l.map .int) = some (a :: l) := ints_m (a :: l)
  dsimp only; rw [this]; rfl
theorem max1_eq {a : Int} {l : List Int} : max1D [.lst (D.int a :: l.map .int)] = some (.val (.int (maxTo a l))) := by
  unfold max1D
  have : intsO (D.int a :: l.map .int) = some (a :: l) := ints_m (a :: l)
  dsimp only; rw [this]; rfl
theorem cut_int {α : Type} {xs : List α} {i j : Int} (h0 : 0 ≤ i) (h1 : i ≤ j) (h2 : j ≤ xs.length) : cut xs (some i) (some j) = (xs.drop i.toNat).take (j.toNat - i.toNat) := by
  obtain ⟨i, rfl⟩ := Int.eq_ofNat_of_zero_le h0
  obtain ⟨j, rfl⟩ := Int.eq_ofNat_of_zero_le (show 0 ≤ j by omega)
  unfold cut
  rw [HT.sIx_nat, HT.sIx_nat, Nat.min_eq_left (by omega), Nat.min_eq_left (by omega)]
  simp

def notesOf (ls : List Int) (b0 : Int) : Int → Int → Nat → List (Nat × Bool × Bool × Bool) → List Vis
  | _, _, _, [] => []
  | lo, hi, ah, (sp, bk, seen, shown) :: r =>
    ⟨b0 + sp, if seen then some (ls.getD sp 0) else none, minTo lo ((ls.drop ah).take (sp + 1 - ah)), maxTo hi ((ls.drop ah).take (sp + 1 - ah)), if shown then some (if bk then 1 else 0) else none⟩ ::
      (if bk then notesOf ls b0 (ls.getD sp 0) (ls.getD sp 0) (sp + 1) r else notesOf ls b0 (minTo lo ((ls.drop ah).take (sp + 1 - ah))) (maxTo hi ((ls.drop ah).take (sp + 1 - ah))) (sp + 1) r)
def F_noted_b : List CS := [.set 11 (.slc (.var 1) (some (.var 7)) (some (.bin .add (.var 10) (.con (.int 1))))), .par [8, 9] [(.blt .min1 [(.bin .add (.lst [(.var 8)]) (.var 11))]), (.blt .max1 [(.bin .add (.lst [(.var 9)]) (.var 11))])], .set 12 (.call 1 [(.var 0), (.con (.int 2))]), .app 6 (.var 12), .set 13 (.ite (.val (.cmp .eq (.call 1 [(.var 0), (.var 4)]) (.con (.int 0)))) (.con .non) (.idx (.var 1) (.var 10))), .set 14 (.ite (.val (.cmp .eq (.call 1 [(.var 0), (.var 4)]) (.con (.int 0)))) (.con .non) (.var 12)), .app 5 (.tup [(.bin .add (.var 2) (.var 10)), (.var 13), (.var 8), (.var 9), (.var 14)]), .ite (.val (.cmp .eq (.var 12) (.con (.int 1)))) [.par [8, 9] [(.idx (.var 1) (.var 10)), (.idx (.var 1) (.var 10))]] [], .set 7 (.bin .add (.var 10) (.con (.int 1)))]
def F_noted : Fn := ⟨5, 15, [
  .par [5, 6, 7] [(.lst []), (.lst []), (.con (.int 0))],
  .par [8, 9] [(.bin .sub (.bidx 1 0) (.call 1 [(.var 0), (.con (.int 3))])), (.bin .add (.bidx 1 0) (.call 1 [(.var 0), (.con (.int 3))]))],
  .for_ (.nm 10) (.seq (.var 3)) F_noted_b,
  .ret (.tup [(.blt .tuple [(.var 5)]), (.blt .tuple [(.var 6)])])]⟩

def Asc (e : Nat) : Nat → List Nat → Prop
  | _, [] => True
  | a, x :: r => a ≤ x ∧ x < e ∧ Asc e (x + 1) r
def bI (b : Bool) : Int := if b then 1 else 0
def NtI (n b : Nat) (W0 : List WO) (ls : List Int) (b0 bl lo0 hi0 : Int) (sps : List Nat) (r : List D) (s : S) : Prop := ∃ (cs : List (Nat × Bool × Bool × Bool)) (fs : List Vis) (lo hi : Int) (ah : Nat) (rest : List Nat) (d10 d11 d12 d13 d14 : Sl) (W' : List WO),
  s = ⟨[.val (.obj n), .val (.lst (ls.map .int)), .val (.int b0), .val (.lst (sps.map fun x => .int (x : Nat))), .val (.int bl), .own (fs.map vD), .own (cs.map fun c => .int (bI c.2.1)), .val (.int ah), .val (.int lo), .val (.int hi), d10, d11, d12, d13, d14], W'⟩ ∧
  r = rest.map (fun x => .int (x : Nat)) ∧ sps = cs.map (fun c => c.1) ++ rest ∧ Asc ls.length ah rest ∧ (∀ t, notesOf ls b0 lo0 hi0 0 (cs ++ t) = fs ++ notesOf ls b0 lo hi ah t) ∧ fs.length = cs.length ∧ cs.length + rest.length ≤ 1000 ∧ Dr n (b - cs.length * 3) W0 W'
theorem noted_run {T : Nat → Option Fn} {gc : Nat → Option D} {k n b : Nat} {W0 W : List WO} {ls : List Int} {sps : List Nat} {b0 bl z0 : Int} {Q : D → List WO → Prop} (hT : T 1 = some F_next) (hT2 : T 13 = some F_noted) (hd : Dr n b W0 W) (hs : sps.length ≤ 1000) (hb : 3 * sps.length + 4 ≤ b)
    (hl : ls.length ≤ 100000) (hz : ls[0]? = some z0) (ha : Asc ls.length 0 sps) (hbl : 0 < bl ∧ bl < 1000)
    (K : ∀ (cs : List (Nat × Bool × Bool × Bool)) (x y : Int) W', cs.map (fun c => c.1) = sps → 0 ≤ x → x ≤ 2 → 0 ≤ y → y ≤ 2 → Dr n (b - sps.length * 3 - 2) W0 W' → Q (.tup [.tup ((notesOf ls b0 (z0 - x) (z0 + y) 0 cs).map vD), .tup (cs.map fun c => .int (bI c.2.1))]) W') :
    Runs (callK T gc (k + 2) 13 [.obj n, .lst (ls.map .int), .int b0, .lst (sps.map fun x => .int (x : Nat)), .int bl] W) Q := by
  refine runs_call hT2 rfl ?_
  unfold F_noted
  have e0 : idxD (.lst (ls.map D.int)) (.int 0) = some (.int z0) := by
    show L2.atI _ 0 = _
    exact ati_of (i := 0) (Int.le_refl 0) (by rw [show (0 : Int).toNat = 0 from rfl, List.getElem?_map, hz]; rfl)
  walk_at "go"
  rw [e0]
  walk_at "go"
  refine next_run hT hd (by omega) (by decide) (by decide) fun x W1 x0 x1 d1 => ?_
  walk_at "go"
  rw [e0]
  walk_at "go"
  refine next_run hT d1 (by omega) (by decide) (by decide) fun y W2 y0 y1 d2 => ?_
  walk_at "go"
  refine wp_loop (I := NtI n (b - 1 - 1) W0 ls b0 bl (z0 - x) (z0 + y) sps) ?_ ?_ ?_
  · exact ⟨[], [], z0 - x, z0 + y, 0, sps, _, _, _, _, _, W2, rfl, rfl, rfl, ha, fun t => rfl, rfl, by simpa using hs, d2⟩
  · rintro xx r s - ⟨cs, fs, lo, hi, ah, rest, d10, d11, d12, d13, d14, W3, rfl, hr, hsp, hasc, hn, hfl, hcl, hdr⟩
    cases rest with
    | nil => cases hr
    | cons sp rest =>
    cases hr
    obtain ⟨a1, a2, a3⟩ := hasc
    have hcl2 : cs.length + rest.length + 1 ≤ 1000 := by rw [List.length_cons] at hcl; omega
    have hsl : sps.length = cs.length + rest.length + 1 := by rw [hsp]; simp; omega
    have ec : cut (ls.map D.int) (some (ah : Int)) (some ((sp : Int) + 1)) = ((ls.drop ah).take (sp + 1 - ah)).map .int := by
      rw [cut_int (by omega) (by omega) (by rw [List.length_map]; omega), List.map_take, List.map_drop, show ((sp : Int) + 1).toNat = sp + 1 by omega, Int.toNat_natCast]
    have ez : sizeB ((List.map D.int ((ls.drop ah).take (sp + 1 - ah))).length + 1) = true := sizeB_m (by rw [List.length_map, List.length_take]; omega)
    have ez2 : sizeB (1 + (List.map D.int ((ls.drop ah).take (sp + 1 - ah))).length) = true := by rw [Nat.add_comm]; exact ez
    have el : L2.atI (ls.map D.int) (sp : Int) = some (.int (ls.getD sp 0)) := by
      refine ati_of (by omega) ?_
      rw [Int.toNat_natCast, List.getElem?_map, List.getD_eq_getElem?_getD, List.getElem?_eq_getElem a2]; rfl
    have s1 : decide ((List.map (fun c : Nat × Bool × Bool × Bool => D.int (bI c.2.1)) cs).length < sizeLine) = true := decide_eq_true (Nat.lt_of_lt_of_le (by rw [List.length_map]; omega : _ < 1000000) (by decide))
    have s2 : decide ((List.map vD fs).length < sizeLine) = true := decide_eq_true (Nat.lt_of_lt_of_le (by rw [List.length_map]; omega : _ < 1000000) (by decide))
    have out : ∀ (bk seen shown : Bool) (d10 d11 d12 d13 d14 : Sl) (W' : List WO) (lo' hi' : Int), lo' = (if bk then ls.getD sp 0 else minTo lo ((ls.drop ah).take (sp + 1 - ah))) → hi' = (if bk then ls.getD sp 0 else maxTo hi ((ls.drop ah).take (sp + 1 - ah))) →
        Dr n (b - 1 - 1 - cs.length * 3 - 1 - 1 - 1) W0 W' →
        NtI n (b - 1 - 1) W0 ls b0 bl (z0 - x) (z0 + y) sps (rest.map (fun x => .int (x : Nat))) ⟨[.val (.obj n), .val (.lst (ls.map .int)), .val (.int b0), .val (.lst (sps.map fun x => .int (x : Nat))), .val (.int bl),
          .own (fs.map vD ++ [.tup [.int (b0 + sp), oD (if seen then some (ls.getD sp 0) else none), .int (minTo lo ((ls.drop ah).take (sp + 1 - ah))), .int (maxTo hi ((ls.drop ah).take (sp + 1 - ah))), oD (if shown then some (bI bk) else none)]]),
          .own (cs.map (fun c => .int (bI c.2.1)) ++ [.int (bI bk)]), .val (.int ((sp : Int) + 1)), .val (.int lo'), .val (.int hi'), d10, d11, d12, d13, d14], W'⟩ := fun bk seen shown d10 d11 d12 d13 d14 W' lo' hi' q1 q2 hd' =>
      ⟨cs ++ [(sp, bk, seen, shown)], fs ++ [⟨b0 + sp, if seen then some (ls.getD sp 0) else none, minTo lo ((ls.drop ah).take (sp + 1 - ah)), maxTo hi ((ls.drop ah).take (sp + 1 - ah)), if shown then some (bI bk) else none⟩], lo', hi', sp + 1, rest, d10, d11, d12, d13, d14, W',
        by simp [vD], rfl, by rw [hsp]; simp, a3, fun t => by
          rw [List.append_assoc, hn, List.append_assoc]
          congr 1
          show notesOf ls b0 lo hi ah ((sp, bk, seen, shown) :: t) = _
          rw [notesOf, q1, q2]
          cases bk <;> rfl, by simp [hfl], by simp; omega, hd'.less (by simp; omega)⟩
    have hdr2 : Dr n (b - 1 - 1 - cs.length * 3) W0 W3 := hdr
    unfold F_noted_b
    walk_at "go"
    rw [ec]
    walk_at "go"
    refine ⟨ez2, ?_⟩
    rw [min1_eq]
    walk_at "go"
    refine ⟨ez2, ?_⟩
    rw [max1_eq]
    walk_at "go"
    refine next_run hT hdr2 (by omega) (by decide) (by decide) fun i1 W4 a0 a1 d3 => ?_
    walk_at "go"
    rw [s1]
    walk_at "go"
    refine next_run hT d3 (by omega) (by omega) (by omega) fun i2 W5 b0 b1 d4 => ?_
    walk_at "go"
    have hi1 : ∃ bk : Bool, i1 = bI bk := by
      have : i1 = 0 ∨ i1 = 1 := by omega
      rcases this with h | h
      · exact ⟨false, h⟩
      · exact ⟨true, h⟩
    obtain ⟨bk, rfl⟩ := hi1
    refine brK_dec (fun g1 => ?_) fun g1 => ?_
    · walk_at "go"
      refine next_run hT d4 (by omega) (by omega) (by omega) fun i3 W6 c0 c1 d5 => ?_
      walk_at "go"
      refine brK_dec (fun g2 => ?_) fun g2 => ?_
      · walk_at "go"
        rw [s2]
        walk_at "go"
        cases bk
        · refine brK_neg (by decide) ?_
          walk_at "go"
          exact out false false false _ _ _ _ _ _ _ _ rfl rfl d5
        · refine brK_pos (by decide) ?_
          walk_at "go"
          rw [el]
          walk_at "go"
          rw [el]
          walk_at "go"
          exact out true false false _ _ _ _ _ _ _ _ rfl rfl d5
      · walk_at "go"
        rw [s2]
        walk_at "go"
        cases bk
        · refine brK_neg (by decide) ?_
          walk_at "go"
          exact out false false true _ _ _ _ _ _ _ _ rfl rfl d5
        · refine brK_pos (by decide) ?_
          walk_at "go"
          rw [el]
          walk_at "go"
          rw [el]
          walk_at "go"
          exact out true false true _ _ _ _ _ _ _ _ rfl rfl d5
    · walk_at "go"
      rw [el]
      walk_at "go"
      refine next_run hT d4 (by omega) (by omega) (by omega) fun i3 W6 c0 c1 d5 => ?_
      walk_at "go"
      refine brK_dec (fun g2 => ?_) fun g2 => ?_
      · walk_at "go"
        rw [s2]
        walk_at "go"
        cases bk
        · refine brK_neg (by decide) ?_
          walk_at "go"
          exact out false true false _ _ _ _ _ _ _ _ rfl rfl d5
        · refine brK_pos (by decide) ?_
          walk_at "go"
          rw [el]
          walk_at "go"
          rw [el]
          walk_at "go"
          exact out true true false _ _ _ _ _ _ _ _ rfl rfl d5
      · walk_at "go"
        rw [s2]
        walk_at "go"
        cases bk
        · refine brK_neg (by decide) ?_
          walk_at "go"
          exact out false true true _ _ _ _ _ _ _ _ rfl rfl d5
        · refine brK_pos (by decide) ?_
          walk_at "go"
          rw [el]
          walk_at "go"
          rw [el]
          walk_at "go"
          exact out true true true _ _ _ _ _ _ _ _ rfl rfl d5
  · rintro s ⟨cs, fs, lo, hi, ah, rest, d10, d11, d12, d13, d14, W3, rfl, hr, hsp, hasc, hn, hfl, hcl, hdr⟩
    cases rest with
    | cons _ _ => cases hr
    | nil =>
    rw [List.append_nil] at hsp
    have hn1 := hn []
    rw [List.append_nil] at hn1
    have hn2 : notesOf ls b0 (z0 - x) (z0 + y) 0 cs = fs := by rw [hn1]; simp [notesOf]
    walk_at "go"
    walk_at "go"
    rw [← hn2]
    exact K cs x y W3 hsp.symm x0 (by omega) y0 (by omega) (hdr.less (by rw [hsp]; simp; omega))
end GP

set_option Elab.async false
set_option linter.all false
set_option maxRecDepth 100000
set_option autoImplicit false
set_option maxHeartbeats 4000000

namespace GP
open PySem PySem.Spec L2
structure VisOk (C : Int) (v : Vis) : Prop where
  hour0 : 0 ≤ v.hour
  hour1 : v.hour ≤ 10 ^ 30
  lohi : v.low ≤ v.high
  lo : -C ≤ v.low
  hi : v.high ≤ C
  now : ∀ i, v.now = some i → v.low ≤ i ∧ i ≤ v.high
  back : ∀ i, v.back = some i → i = 0 ∨ i = 1

def AscV (g : Int) : List Vis → Prop
  | v :: w :: r => (v.hour < w.hour ∧ w.hour ≤ v.hour + g) ∧ AscV g (w :: r)
  | _ => True
structure LogOk (C g : Int) (m : Nat) (vs : List Vis) : Prop where
  ne : vs ≠ []
  len : vs.length ≤ m
  vis : ∀ v ∈ vs, VisOk C v
  asc : AscV g vs
theorem VisOk.more {C C' : Int} {v : Vis} (h : VisOk C v) (hc : C ≤ C') : VisOk C' v := ⟨h.hour0, h.hour1, h.lohi, by have := h.lo; omega, by have := h.hi; omega, h.now, h.back⟩
theorem LogOk.more {C C' g : Int} {m : Nat} {vs : List Vis} (h : LogOk C g m vs) (hc : C ≤ C') : LogOk C' g m vs := ⟨h.ne, h.len, fun v hv => (h.vis v hv).more hc, h.asc⟩
theorem minTo_le : ∀ (l : List Int) (a : Int), minTo a l ≤ a ∧ ∀ x ∈ l, minTo a l ≤ x
  | [], a => ⟨Int.le_refl a, fun x h => nomatch h⟩
  | y :: l, a => by
    have ih := minTo_le l (if y < a then y else a)
    have e : minTo a (y :: l) = minTo (if y < a then y else a) l := rfl
    rw [e]
    have h1 : (if y < a then y else a) ≤ a ∧ (if y < a then y else a) ≤ y := by split <;> omega
    exact ⟨by omega, fun x hx => by
      rcases List.mem_cons.mp hx with rfl | hx
      · omega
      · exact ih.2 x hx⟩
theorem minTo_ge : ∀ (l : List Int) (a c : Int), c ≤ a → (∀ x ∈ l, c ≤ x) → c ≤ minTo a l
  | [], a, c, h, _ => h
  | y :: l, a, c, h, k => by
    have e : minTo a (y :: l) = minTo (if y < a then y else a) l := rfl
    rw [e]
    exact minTo_ge l _ c (by split; exact k y List.mem_cons_self; exact h) fun x hx => k x (List.mem_cons_of_mem _ hx)
theorem maxTo_ge : ∀ (l : List Int) (a : Int), a ≤ maxTo a l ∧ ∀ x ∈ l, x ≤ maxTo a l
  | [], a => ⟨Int.le_refl a, fun x h => nomatch h⟩
  | y :: l, a => by
    have ih := maxTo_ge l (if y > a then y else a)
    have e : maxTo a (y :: l) = maxTo (if y > a then y else a) l := rfl
    rw [e]
    have h1 : a ≤ (if y > a then y else a) ∧ y ≤ (if y > a then y else a) := by split <;> omega
    exact ⟨by omega, fun x hx => by
      rcases List.mem_cons.mp hx with rfl | hx
      · omega
      · exact ih.2 x hx⟩
theorem maxTo_le : ∀ (l : List Int) (a c : Int), a ≤ c → (∀ x ∈ l, x ≤ c) → maxTo a l ≤ c
  | [], a, c, h, _ => h
  | y :: l, a, c, h, k => by
    have e : maxTo a (y :: l) = maxTo (if y > a then y else a) l := rfl
    rw [e]
    exact maxTo_le l _ c (by split; exact k y List.mem_cons_self; exact h) fun x hx => k x (List.mem_cons_of_mem _ hx)

def Near (g : Nat) : Int → List Nat → Prop
  | _, [] => True
  | a, x :: r => a < (x : Int) ∧ (x : Int) ≤ a + g ∧ Near g x r
theorem notes_ok {ls : List Int} {b0 C : Int} {g : Nat} (hb0 : 0 ≤ b0) (hb1 : b0 + ls.length ≤ 10 ^ 30) (hls : ∀ z ∈ ls, -C ≤ z ∧ z ≤ C) : ∀ (cs : List (Nat × Bool × Bool × Bool)) (lo hi : Int) (ah : Nat), -C ≤ lo → lo ≤ hi → hi ≤ C → Asc ls.length ah (cs.map fun c => c.1) →
    (∀ v ∈ notesOf ls b0 lo hi ah cs, VisOk C v) ∧ ∀ a, Near g a (cs.map fun c => c.1) → AscV g (notesOf ls b0 lo hi ah cs) ∧ ∀ v r, notesOf ls b0 lo hi ah cs = v :: r → b0 + a < v.hour ∧ v.hour ≤ b0 + a + g
  | [], lo, hi, ah, _, _, _, _ => ⟨fun v h => (nomatch (show v ∈ ([] : List Vis) from h)), fun a _ => ⟨trivial, fun v r h => nomatch (show ([] : List Vis) = v :: r from h)⟩⟩
  | (sp, bk, seen, shown) :: cs, lo, hi, ah, h1, h2, h3, ⟨a1, a2, a3⟩ => by
    have hg : ls.getD sp 0 ∈ ls := by rw [List.getD_eq_getElem?_getD, List.getElem?_eq_getElem a2]; exact List.getElem_mem a2
    have hgs : ls.getD sp 0 ∈ (ls.drop ah).take (sp + 1 - ah) := by
      rw [List.mem_take_iff_getElem]
      refine ⟨sp - ah, ?_, ?_⟩
      · rw [List.length_drop]; dsimp only at a1 a2; omega
      · rw [List.getElem_drop, List.getD_eq_getElem?_getD]
        have e : ah + (sp - ah) = sp := by dsimp only at a1; omega
        simp only [e]
        rw [List.getElem?_eq_getElem a2]; rfl
    have hsub : ∀ x ∈ (ls.drop ah).take (sp + 1 - ah), -C ≤ x ∧ x ≤ C := fun x hx => hls x (List.mem_of_mem_drop (List.mem_of_mem_take hx))
    have m1 := minTo_le ((ls.drop ah).take (sp + 1 - ah)) lo
    have m2 := minTo_ge ((ls.drop ah).take (sp + 1 - ah)) lo (-C) h1 fun x hx => (hsub x hx).1
    have m3 := maxTo_ge ((ls.drop ah).take (sp + 1 - ah)) hi
    have m4 := maxTo_le ((ls.drop ah).take (sp + 1 - ah)) hi C h3 fun x hx => (hsub x hx).2
    have mg1 := m1.2 _ hgs
    have mg2 := m3.2 _ hgs
    have hgb := hls _ hg
    have a2' : sp < ls.length := a2
    rw [notesOf]
    generalize hmin : minTo lo ((ls.drop ah).take (sp + 1 - ah)) = lo' at *
    generalize hmax : maxTo hi ((ls.drop ah).take (sp + 1 - ah)) = hi' at *
    have hv : VisOk C ⟨b0 + sp, if seen then some (ls.getD sp 0) else none, lo', hi', if shown then some (if bk then 1 else 0) else none⟩ := by
      refine ⟨by dsimp only; omega, by dsimp only; omega, by dsimp only; omega, m2, m4, fun i hi => ?_, fun i hi => ?_⟩
      · dsimp only at hi
        cases seen
        · cases hi
        · cases hi; exact ⟨mg1, mg2⟩
      · dsimp only at hi
        cases shown
        · cases hi
        · cases hi
          cases bk
          · exact .inl rfl
          · exact .inr rfl
    have hbkc : (if bk then notesOf ls b0 (ls.getD sp 0) (ls.getD sp 0) (sp + 1) cs else notesOf ls b0 lo' hi' (sp + 1) cs) = notesOf ls b0 (if bk then ls.getD sp 0 else lo') (if bk then ls.getD sp 0 else hi') (sp + 1) cs := by cases bk <;> rfl
    rw [hbkc]
    have ih := notes_ok (g := g) hb0 hb1 hls cs (if bk then ls.getD sp 0 else lo') (if bk then ls.getD sp 0 else hi') (sp + 1) (by cases bk <;> simp only [if_true, if_false, Bool.false_eq_true] <;> omega) (by cases bk <;> simp only [if_true, if_false, Bool.false_eq_true] <;> omega) (by cases bk <;> simp only [if_true, if_false, Bool.false_eq_true] <;> omega) a3
    refine ⟨fun v hv' => ?_, fun a hn => ?_⟩
    · rcases List.mem_cons.mp hv' with rfl | hv'
      · exact hv
      · exact ih.1 v hv'
    · obtain ⟨n1, n2, n3⟩ := hn
      have n1' : a < (sp : Int) := n1
      have n2' : (sp : Int) ≤ a + g := n2
      have ih2 := ih.2 sp n3
      refine ⟨?_, fun v r e => ?_⟩
      · generalize hq : notesOf ls b0 (if bk then ls.getD sp 0 else lo') (if bk then ls.getD sp 0 else hi') (sp + 1) cs = tl at *
        cases tl with
        | nil => trivial
        | cons w r =>
          have := ih2.2 w r rfl
          exact ⟨⟨this.1, this.2⟩, ih2.1⟩
      · cases e
        dsimp only
        omega
theorem notes_hour {ls : List Int} {b0 : Int} : ∀ (cs : List (Nat × Bool × Bool × Bool)) (lo hi : Int) (ah : Nat), Asc ls.length ah (cs.map fun c => c.1) → ∀ v ∈ notesOf ls b0 lo hi ah cs, v.hour ≤ b0 + ls.length
  | [], lo, hi, ah, _, v, h => nomatch (show v ∈ ([] : List Vis) from h)
  | (sp, bk, seen, shown) :: cs, lo, hi, ah, ⟨a1, a2, a3⟩, v, h => by
    have a2' : sp < ls.length := a2
    rw [notesOf] at h
    rcases List.mem_cons.mp h with rfl | h
    · dsimp only; omega
    · cases bk
      · exact notes_hour cs _ _ _ a3 v h
      · exact notes_hour cs _ _ _ a3 v h
theorem AscV.set {g : Int} : ∀ {vs : List Vis} {i : Nat} {v w : Vis}, AscV g vs → vs[i]? = some v → w.hour = v.hour → AscV g (vs.set i w)
  | [], i, v, w, _, h, _ => by simp at h
  | [x], 0, v, w, _, h, e => trivial
  | [x], i + 1, v, w, _, h, e => by simp at h
  | x :: y :: r, 0, v, w, ⟨a, b⟩, h, e => by
    cases h
    exact ⟨by rw [e]; exact a, b⟩
  | x :: y :: r, 1, v, w, ⟨a, b⟩, h, e => by
    have h' : y = v := by simpa using h
    subst h'
    have := AscV.set (i := 0) (w := w) b rfl e
    exact ⟨by rw [e]; exact a, this⟩
  | x :: y :: r, i + 2, v, w, ⟨a, b⟩, h, e => by
    have := AscV.set (i := i + 1) (w := w) b (by simpa using h) e
    exact ⟨a, this⟩
theorem LogOk.set {C g : Int} {m : Nat} {vs : List Vis} {i : Nat} {v w : Vis} (h : LogOk C g m vs) (hi : vs[i]? = some v) (hw : VisOk (C + 2) w) (e : w.hour = v.hour) : LogOk (C + 2) g m (vs.set i w) := by
  refine ⟨fun q => h.ne ?_, by rw [List.length_set]; exact h.len, fun u hu => ?_, h.asc.set hi e⟩
  · cases vs with
    | nil => rfl
    | cons x r => cases i <;> simp at q
  · rcases List.mem_or_eq_of_mem_set hu with hu | rfl
    · exact (h.vis u hu).more (by omega)
    · exact hw
end GP

set_option Elab.async false
set_option linter.all false
set_option maxRecDepth 100000
set_option autoImplicit false
set_option maxHeartbeats 4000000

namespace GP
open PySem PySem.Spec L2
local macro_rules | `(tactic| walk_at "go") => `(tactic| try simp only [↓wp_okv, ↓wp_some, ↓wp_bnd, ↓wp_lft, ↓wp_frz, ↓wO_var, ↓wO_con, ↓wO_glob, ↓wO_bin, ↓wO_neg, ↓wO_notv, ↓wO_andv, ↓wO_orv, ↓wO_cmp, ↓wO_isN, ↓wO_isnN, ↓wO_chain, ↓wO_ite, ↓wO_tup, ↓wO_tups, ↓wO_lst, ↓wO_dnew, ↓wO_knew, ↓wO_rlist, ↓wO_rtup, ↓wO_dint, ↓wO_bisin, ↓wO_bget, ↓wO_idx, ↓wO_bidx, ↓wO_bemp, ↓wO_slc, ↓wO_rev, ↓wO_call, ↓wO_callk, ↓wO_blt, ↓wO_isi, ↓wO_mth, ↓wO_comp, ↓wL_nil, ↓wL_cons, ↓wP_none, ↓wP_some, ↓wC_none, ↓wC_some, ↓wT_val, ↓wT_not, ↓wT_and, ↓wT_or, ↓wI_seq, ↓wI_rng1, ↓wI_rng2, ↓wI_rng3, ↓wI_enm, ↓wI_zip, ↓wI_zip3, ↓wOs_nil, ↓wOs_cons, ↓wS_set, ↓wS_unp, ↓wS_par, ↓wS_sub, ↓wS_aug, ↓wS_app, ↓wS_ext, ↓wS_expr, ↓wS_ret, ↓wS_retN, ↓wS_ite, ↓wS_for, ↓wS_whl, ↓wS_cont, ↓wS_pass, ↓wSs_nil, ↓wSs_cons, ↓wF_turn, ctK_nx, ctK_ct, ctK_rt, ↓wR_turn, ↓put_mk, opS_some, opS_ite, rdS_val, rdS_own, rdS_ownd, lsS_own, dgS_ownd, ownDB, bxS_own, bxS_val, beS_own, beS_val, auS_int, brK_true, brK_false, brK_not, brK_and, brK_or, nxK_nx, nxK_ct, nxK_rt, runs_some, List.getElem?_cons_zero, List.getElem?_cons_succ, List.set_cons_zero, List.set_cons_succ, List.length_cons, List.length_nil, List.map_cons, List.map_nil, List.replicate, List.cons_append, List.nil_append, List.all_cons, List.all_nil, Option.getD_some, Nat.reduceSub, Nat.reduceAdd, Nat.reduceLeDiff, true_and, and_true, Bool.and_true, Bool.true_and, Bool.not_true, Bool.not_false, setL, setO, bindG, wipeS, restore, isSet, ownL, appS, extS, isData, binD, addD, subD, mulD, fdivD, modD, cmpD, ltD, leD, eqD_int, blO, intO, walkOf, itemsOf, tupO, bltD, lenD, sizeB_m, Option.map_some, reduceCtorEq, if_true, if_false, tupleD, listD, min2D, max2D, pw_nn, idx_tu, idx_li, slcD, kwPut, isNonD, isiD, mthD, mthPre, decide_true, decide_false, not_true_eq_false, not_false_eq_true, Bool.and_false, Bool.false_and, and_false, false_and, or_false, false_or, or_true, true_or, and_self])
def F_made_b : List CS := [.set 4 (.bin .add (.bin .add (.var 4) (.con (.int 1))) (.call 1 [(.var 0), (.con (.int 4))])), .app 3 (.var 4)]
def F_made : Fn := ⟨3, 10, [
  .par [3, 4] [(.lst [(.con (.int 0))]), (.con (.int 0))],
  .for_ (.nm 5) (.rng1 (.call 1 [(.var 0), (.con (.int 4))])) F_made_b,
  .set 6 (.call 12 [(.var 0), (.var 1), (.var 4), (.con (.int 1))]),
  .set 7 (.call 2 [(.var 0), (.lst [(.con (.int 0)), (.con (.int 5)), (.bin .pow (.con (.int 10)) (.con (.int 29)))])]),
  .unp [8, 9] (.call 13 [(.var 0), (.var 6), (.var 7), (.var 3), (.var 2)]),
  .ret (.tup [(.var 8), (.var 6), (.var 9)])]⟩
theorem set_same {α β : Type} {f : α → β} : ∀ {xs : List α} {i : Nat} {x y : α}, xs[i]? = some x → f y = f x → (xs.set i y).map f = xs.map f
  | [], i, x, y, h, _ => by simp at h
  | z :: r, 0, x, y, h, e => by
    have h : z = x := by simpa using h
    subst h
    simp [e]
  | z :: r, i + 1, x, y, h, e => by
    have := set_same (xs := r) (i := i) (x := x) (y := y) (f := f) (by simpa using h) e
    simp [this]
theorem near_snoc {g y : Nat} : ∀ {l : List Nat} {a z : Nat}, Near g a l → (a :: l).getLast? = some z → z < y → y ≤ z + g → Near g a (l ++ [y])
  | [], a, z, _, h, h1, h2 => by have h : a = z := (by simpa using h); exact ⟨by omega, by omega, trivial⟩
  | x :: r, a, z, ⟨p, q, n⟩, h, h1, h2 => by
    rw [List.getLast?_cons_cons] at h
    exact ⟨p, q, near_snoc n h h1 h2⟩
theorem asc_of_near {g e : Nat} : ∀ {l : List Nat} {a b : Nat}, Near g a l → b ≤ a + 1 → (∀ z, (a :: l).getLast? = some z → z < e) → Asc e b l
  | [], _, _, _, _, _ => trivial
  | x :: r, a, b, ⟨p, q, n⟩, hb, h => by
    refine ⟨by omega, ?_, asc_of_near n (Nat.le_refl _) fun z hz => h z (by rw [List.getLast?_cons_cons]; exact hz)⟩
    have : ∀ (r : List Nat) (x z : Nat), Near g x r → (x :: r).getLast? = some z → x ≤ z := by
      intro r
      induction r with
      | nil => intro x z _ hz; cases hz; exact Nat.le_refl _
      | cons y r ih =>
        intro x z hn hz
        rw [List.getLast?_cons_cons] at hz
        have := ih y z hn.2.2 hz
        have := hn.1
        omega
    obtain ⟨z, hz⟩ : ∃ z, (x :: r).getLast? = some z := ⟨_, List.getLast?_eq_some_getLast (by simp)⟩
    have h1 := this r x z n hz
    have h2 := h z (by rw [List.getLast?_cons_cons]; exact hz)
    omega
def MdI (n b : Nat) (W0 : List WO) (meter : D) (bl : Int) (k : Nat) (r : List D) (s : S) : Prop := ∃ (sp : List Nat) (z : Nat) (d5 : Sl) (W' : List WO),
  s = ⟨[.val (.obj n), .val meter, .val (.int bl), .own ((0 :: sp).map fun x : Nat => .int (x : Nat)), .val (.int z), d5, .emp, .emp, .emp, .emp], W'⟩ ∧ sp.length + r.length = k ∧ (0 :: sp).getLast? = some z ∧ z ≤ 4 * sp.length ∧ Near 4 0 sp ∧ Dr n (b - sp.length) W0 W'
theorem made_run {T : Nat → Option Fn} {gc : Nat → Option D} {k n b : Nat} {W0 W : List WO} {p q bl : Int} {Q : D → List WO → Prop} (hT : T 1 = some F_next) (hT2 : T 12 = some F_walked) (hT3 : T 13 = some F_noted) (hT4 : T 2 = some F_pick) (hT5 : T 14 = some F_made) (hd : Dr n b W0 W) (hb : 200 ≤ b) (hp : 1 ≤ p ∧ p ≤ 3) (hq : 1 ≤ q ∧ q ≤ 3) (hbl : 0 < bl ∧ bl < 1000)
    (K : ∀ (vs : List Vis) (l t : D) W', LogOk 50 4 4 vs → (∀ v ∈ vs, v.hour ≤ 2 * 10 ^ 29) → Dr n (b - 200) W0 W' → Q (.tup [.tup (vs.map vD), l, t]) W') :
    Runs (callK T gc (k + 3) 14 [.obj n, .tup [.int p, .int q], .int bl] W) Q := by
  refine runs_call hT5 rfl ?_
  unfold F_made
  walk_at "go"
  refine next_run hT hd (by omega) (by decide) (by decide) fun i W1 i0 i1 d1 => ?_
  walk_at "go"
  have e1 : rngOk i = true := by unfold rngOk; exact decide_eq_true (by omega)
  refine ⟨e1, ?_⟩
  refine wp_loop (I := MdI n (b - 1) W0 (.tup [.int p, .int q]) bl i.toNat) ?_ ?_ ?_
  · exact ⟨[], 0, .emp, W1, rfl, by rw [rangeL_len]; simp, rfl, by simp, trivial, d1⟩
  · rintro x r s - ⟨sp, z, d5, W2, rfl, hl, hz, hz4, hn, hdr⟩
    have hl : sp.length + (r.length + 1) = i.toNat := hl
    have sz : decide ((List.map (fun x : Nat => D.int (x : Nat)) (0 :: sp)).length < sizeLine) = true := decide_eq_true (Nat.lt_of_lt_of_le (by rw [List.length_map, List.length_cons]; omega : _ < 1000000) (by decide))
    unfold F_made_b
    simp only [turnF, bindG, S.put, List.set_cons_succ, List.set_cons_zero]
    walk_at "go"
    refine next_run hT hdr (by omega) (by decide) (by decide) fun j W3 j0 j1 d3 => ?_
    simp only [List.length_map, List.length_cons, List.map_cons] at sz
    walk_at "go"
    simp only [List.length_map]
    refine ⟨sz, ?_⟩
    refine ⟨sp ++ [(z + 1 + j.toNat)], z + 1 + j.toNat, .val x, W3, ?_, by simp; omega, by rw [← List.cons_append]; exact List.getLast?_concat .., by simp; omega, near_snoc hn hz (by omega) (by omega), d3.less (by simp; omega)⟩
    have : ((z + 1 + j.toNat : Nat) : Int) = z + 1 + j := by omega
    simp [this]
  · rintro s ⟨sp, z, d5, W2, rfl, hl, hz, hz4, hn, hdr⟩
    have hl : sp.length = i.toNat := by simpa using hl
    walk_at "go"
    refine walked_run (B := 3) hT hT2 hdr (by omega) hp hq (by decide) (by omega) (by decide) fun ls W3 h1 h2 h3 d3 => ?_
    walk_at "go"
    have e2 : powD (.int 10) (.int 29) = some (.val (.int (10 ^ 29))) := by unfold powD; rfl
    rw [e2]
    walk_at "go"
    refine pick_run hT hT4 d3 (by omega) (by decide) (by decide) fun d W4 hmem d4 => ?_
    walk_at "go"
    have hbeg : ∃ b0 : Int, d = .int b0 ∧ 0 ≤ b0 ∧ b0 ≤ 10 ^ 29 := by
      simp only [List.mem_cons, List.not_mem_nil, or_false] at hmem
      rcases hmem with rfl | rfl | rfl
      · exact ⟨0, rfl, by decide, by decide⟩
      · exact ⟨5, rfl, by decide, by decide⟩
      · exact ⟨10 ^ 29, rfl, by decide, by decide⟩
    obtain ⟨b0, rfl, hb0, hb1⟩ := hbeg
    have hls0 : ∃ z0, ls[0]? = some z0 := ⟨ls[0]'(by omega), List.getElem?_eq_getElem (by omega)⟩
    obtain ⟨z0, hz0⟩ := hls0
    have hasc : Asc ls.length 0 (0 :: sp) := ⟨Nat.le_refl 0, by omega, asc_of_near hn (by omega) fun y hy => by rw [hz] at hy; cases hy; omega⟩
    have hnr := noted_run (gc := gc) (k := k) (sps := 0 :: sp) (b0 := b0) (bl := bl) (ls := ls) hT hT3 d4 (by simp; omega) (by simp; omega) (by omega) hz0 hasc hbl (Q := fun d W' => ∃ vs t, d = .tup [.tup (vs.map vD), t] ∧ LogOk 50 4 4 vs ∧ (∀ v ∈ vs, v.hour ≤ 2 * 10 ^ 29) ∧ Dr n (b - 200) W0 W') ?_
    · simp only [List.map_cons] at hnr
      refine hnr.mono ?_
      rintro d W5 ⟨vs, t, rfl, hv, hh, d5'⟩
      walk_at "go"
      exact K vs _ t W5 hv hh d5'
    · intro cs x y W5 hcs x0 x1 y0 y1 d5'
      have hzb := h2 z0 (List.mem_of_getElem? hz0)
      have hCb : ∀ w ∈ ls, -50 ≤ w ∧ w ≤ 50 := fun w hw => by have := h2 w hw; omega
      have nk := notes_ok (g := 4) (ls := ls) (b0 := b0) (C := 50) hb0 (by omega) hCb cs (z0 - x) (z0 + y) 0 (by omega) (by omega) (by omega) (by rw [hcs]; exact hasc)
      refine ⟨_, _, rfl, ⟨?_, ?_, nk.1, ?_⟩, fun v hv => Int.le_trans (notes_hour cs _ _ _ (by rw [hcs]; exact hasc) v hv) (by omega), d5'.less (by simp; omega)⟩
      · cases cs with
        | nil => cases hcs
        | cons c cs => obtain ⟨a1, a2, a3, a4⟩ := c; rw [notesOf]; exact List.cons_ne_nil _ _
      · have : ∀ (cs : List (Nat × Bool × Bool × Bool)) lo hi ah, (notesOf ls b0 lo hi ah cs).length = cs.length := by
          intro cs
          induction cs with
          | nil => intros; rfl
          | cons c cs ih =>
            intro lo hi ah
            obtain ⟨a1, a2, a3, a4⟩ := c
            rw [notesOf, List.length_cons, List.length_cons]
            cases a2 <;> simp [ih]
        rw [this]
        have : cs.length = (0 :: sp).length := by rw [← hcs, List.length_map]
        rw [this, List.length_cons]; omega
      · exact (nk.2 (-1) (by rw [hcs]; exact ⟨by decide, by decide, hn⟩)).1
def F_bent_t : List CS := [.set 4 (.ite (.val (.isN (.var 4))) (.con .non) (.blt .min2 [(.var 6), (.blt .max2 [(.var 5), (.var 4)])])),
  .ret (.bin .add (.bin .add (.slc (.var 1) none (some (.var 2))) (.tup [(.tup [(.var 3), (.var 4), (.var 5), (.var 6), (.var 7)])])) (.slc (.var 1) (some (.bin .add (.var 2) (.con (.int 1)))) none))]
def F_bent_j : List CS := [.ite (.val (.cmp .eq (.var 8) (.con (.int 4)))) [.set 7 (.call 2 [(.var 0), (.lst [(.con (.int 0)), (.con (.int 1)), (.con .non)])])] [.set 4 (.call 2 [(.var 0), (.lst [(.con .non), (.var 5), (.var 6)])])]]
def F_bent_i : List CS := [.ite (.and (.val (.cmp .eq (.var 8) (.con (.int 3)))) (.val (.cmp .lt (.var 5) (.var 6)))) [.set 6 (.bin .sub (.var 6) (.con (.int 1)))] F_bent_j]
def F_bent : Fn := ⟨2, 9, 
  .set 2 (.call 1 [(.var 0), (.blt .len [(.var 1)])]) ::
  .unp [3, 4, 5, 6, 7] (.idx (.var 1) (.var 2)) ::
  .set 8 (.call 1 [(.var 0), (.con (.int 6))]) ::
  .ite (.val (.cmp .eq (.var 8) (.con (.int 0)))) [.set 5 (.bin .sub (.bin .sub (.var 5) (.con (.int 1))) (.call 1 [(.var 0), (.con (.int 2))]))] [.ite (.val (.cmp .eq (.var 8) (.con (.int 1)))) [.set 6 (.bin .add (.bin .add (.var 6) (.con (.int 1))) (.call 1 [(.var 0), (.con (.int 2))]))] [.ite (.and (.val (.cmp .eq (.var 8) (.con (.int 2)))) (.val (.cmp .lt (.var 5) (.var 6)))) [.set 5 (.bin .add (.var 5) (.con (.int 1)))] F_bent_i]] :: F_bent_t⟩
theorem oD_cases (d : D) (o : Option Int) (h : d = oD o) : (d = .non ∧ o = none) ∨ ∃ i, d = .int i ∧ o = some i := by
  cases o with
  | none => exact .inl ⟨h, rfl⟩
  | some i => exact .inr ⟨i, h, rfl⟩
theorem cut_to {α : Type} {xs : List α} {i : Nat} (h : i ≤ xs.length) : cut xs none (some (i : Int)) = xs.take i := by
  unfold cut
  rw [HT.sIx_nat, HT.sIx_none, Nat.min_eq_left h]
  simp
theorem cut_from {α : Type} {xs : List α} {i : Nat} (h : i ≤ xs.length) : cut xs (some (i : Int)) none = xs.drop i := by
  unfold cut
  rw [HT.sIx_nat, HT.sIx_none, Nat.min_eq_left h, ← List.length_drop, List.take_length]
theorem set_eq {α : Type} {xs : List α} {i : Nat} {x : α} (h : i < xs.length) : xs.take i ++ [x] ++ xs.drop (i + 1) = xs.set i x := by
  rw [List.set_eq_take_append_cons_drop, if_pos h]; simp
theorem bent_run {T : Nat → Option Fn} {gc : Nat → Option D} {k n b m : Nat} {W0 W : List WO} {vs : List Vis} {C g : Int} {Q : D → List WO → Prop} (hT : T 1 = some F_next) (hT4 : T 2 = some F_pick) (hT5 : T 15 = some F_bent) (hd : Dr n b W0 W) (hb : 5 ≤ b) (hv : LogOk C g m vs) (hm : m ≤ 1000)
    (K : ∀ (vs' : List Vis) W', LogOk (C + 2) g m vs' → vs'.map Vis.hour = vs.map Vis.hour → Dr n (b - 5) W0 W' → Q (.tup (vs'.map vD)) W') :
    Runs (callK T gc (k + 3) 15 [.obj n, .tup (vs.map vD)] W) Q := by
  have hlen : 0 < vs.length := List.length_pos_iff.mpr hv.ne
  have hlm := hv.len
  refine runs_call hT5 rfl ?_
  unfold F_bent
  walk_at "go"
  simp only [List.length_map]
  refine next_run hT hd (by omega) (by omega) (by omega) fun a W1 a0 a1 d1 => ?_
  obtain ⟨at_, rfl⟩ := Int.eq_ofNat_of_zero_le a0
  have hat : at_ < vs.length := by omega
  obtain ⟨v, hvat⟩ : ∃ v, vs[at_]? = some v := ⟨_, List.getElem?_eq_getElem hat⟩
  have hvok := hv.vis v (List.mem_of_getElem? hvat)
  have e1 : L2.atI (vs.map vD) (at_ : Int) = some (vD v) := L2.atI_nat (by rw [List.getElem?_map, hvat]; rfl)
  have tl : ∀ (lo hi : Int) (sn bk : Option Int) (d8 : Sl) (W' : List WO), lo ≤ hi → -(C + 2) ≤ lo → hi ≤ C + 2 → (∀ i, bk = some i → i = 0 ∨ i = 1) → Dr n (b - 5) W0 W' →
      wp (evSs ⟨callK T gc (k + 2), gc⟩ F_bent_t ⟨[.val (.obj n), .val (.tup (vs.map vD)), .val (.int at_), .val (.int v.hour), .val (oD sn), .val (.int lo), .val (.int hi), .val (oD bk), d8], W'⟩)
        fun o s => match o with | .rt d => Q d s.W | .nx => Q .non s.W | .ct => False := by
    intro lo hi sn bk d8 W' h1 h2 h3 h4 h5
    unfold F_bent_t
    have z1 : sizeB ((List.take at_ (vs.map vD)).length + 1) = true := sizeB_m (by rw [List.length_take, List.length_map]; omega)
    have fin1 : ∀ (w : Option Int), (∀ i, w = some i → lo ≤ i ∧ i ≤ hi) → Q (.tup ((List.take at_ (vs.map vD) ++ [D.tup [.int v.hour, oD w, .int lo, .int hi, oD bk]]) ++ List.drop (at_ + 1) (vs.map vD))) W' := fun w hw => by
      have e : D.tup [.int v.hour, oD w, .int lo, .int hi, oD bk] = vD ⟨v.hour, w, lo, hi, bk⟩ := rfl
      rw [e, set_eq (by rw [List.length_map]; exact hat), ← List.map_set]
      exact K _ W' (hv.set hvat ⟨hvok.hour0, hvok.hour1, h1, h2, h3, hw, h4⟩ rfl) (set_same hvat rfl) h5
    have z2 : ∀ d, sizeB ((List.take at_ (vs.map vD) ++ [d]).length + (List.drop (at_ + 1) (vs.map vD)).length) = true := fun d => sizeB_m (by rw [List.length_append, List.length_take, List.length_drop, List.length_map, List.length_singleton]; omega)
    have c1 : cut (vs.map vD) none (some (at_ : Int)) = List.take at_ (vs.map vD) := cut_to (by rw [List.length_map]; omega)
    have c2 : cut (vs.map vD) (some ((at_ : Int) + 1)) none = List.drop (at_ + 1) (vs.map vD) := cut_from (i := at_ + 1) (by rw [List.length_map]; omega)
    cases sn with
    | none =>
      simp only [oD]
      walk_at "go"
      rw [c1]
      refine ⟨z1, ?_⟩
      walk_at "go"
      rw [c2]
      refine ⟨z2 _, ?_⟩
      exact fin1 none fun i h => nomatch h
    | some i =>
      simp only [oD]
      walk_at "go"
      rw [c1]
      refine ⟨z1, ?_⟩
      walk_at "go"
      rw [c2]
      refine ⟨z2 _, ?_⟩
      exact fin1 (some (if (if i > lo then i else lo) < hi then (if i > lo then i else lo) else hi)) fun j h => by cases h; split <;> split <;> omega
  have hv1 := hvok.lohi
  have hv2 := hvok.lo
  have hv3 := hvok.hi
  walk_at "go"
  rw [e1]
  simp only [vD]
  walk_at "go"
  refine next_run hT d1 (by omega) (by decide) (by decide) fun wy W2 w0 w1 d2 => ?_
  walk_at "go"
  have last : wp (evSs ⟨callK T gc (k + 2), gc⟩ F_bent_j ⟨[.val (.obj n), .val (.tup (vs.map vD)), .val (.int at_), .val (.int v.hour), .val (oD v.now), .val (.int v.low), .val (.int v.high), .val (oD v.back), .val (.int wy)], W2⟩)
     fun o s => nxK o (wp (evSs ⟨callK T gc (k + 2), gc⟩ F_bent_t s) fun o s => match o with | .rt d => Q d s.W | .nx => Q .non s.W | .ct => False) fun o => match o with | .rt d => Q d s.W | .nx => Q .non s.W | .ct => False := by
    unfold F_bent_j
    walk_at "go"
    refine brK_dec (fun g5 => ?_) fun g5 => ?_
    · walk_at "go"
      refine pick_run hT hT4 d2 (by omega) (by decide) (by decide) fun d W3 hmem d3 => ?_
      simp only [List.mem_cons, List.not_mem_nil, or_false] at hmem
      walk_at "go"
      rcases hmem with rfl | rfl | rfl
      · exact tl _ _ v.now (some 0) _ _ (by omega) (by omega) (by omega) (fun i h => by cases h; exact .inl rfl) (d3.less (by omega))
      · exact tl _ _ v.now (some 1) _ _ (by omega) (by omega) (by omega) (fun i h => by cases h; exact .inr rfl) (d3.less (by omega))
      · exact tl _ _ v.now none _ _ (by omega) (by omega) (by omega) (fun i h => nomatch h) (d3.less (by omega))
    · walk_at "go"
      refine pick_run hT hT4 d2 (by omega) (Nat.zero_lt_succ _) (by show 3 ≤ 1000000; decide) fun d W3 hmem d3 => ?_
      simp only [List.mem_cons, List.not_mem_nil, or_false] at hmem
      walk_at "go"
      rcases hmem with rfl | rfl | rfl
      · exact tl _ _ none v.back _ _ (by omega) (by omega) (by omega) hvok.back (d3.less (by omega))
      · exact tl _ _ (some v.low) v.back _ _ (by omega) (by omega) (by omega) hvok.back (d3.less (by omega))
      · exact tl _ _ (some v.high) v.back _ _ (by omega) (by omega) (by omega) hvok.back (d3.less (by omega))
  have last2 : wp (evSs ⟨callK T gc (k + 2), gc⟩ F_bent_i ⟨[.val (.obj n), .val (.tup (vs.map vD)), .val (.int at_), .val (.int v.hour), .val (oD v.now), .val (.int v.low), .val (.int v.high), .val (oD v.back), .val (.int wy)], W2⟩)
     fun o s => nxK o (wp (evSs ⟨callK T gc (k + 2), gc⟩ F_bent_t s) fun o s => match o with | .rt d => Q d s.W | .nx => Q .non s.W | .ct => False) fun o => match o with | .rt d => Q d s.W | .nx => Q .non s.W | .ct => False := by
    unfold F_bent_i
    walk_at "go"
    refine brK_dec (fun g5 => ?_) fun g5 => ?_
    · walk_at "go"
      refine brK_dec (fun g6 => ?_) fun g6 => ?_
      · walk_at "go"
        refine tl _ _ v.now v.back _ _ ?_ ?_ ?_ hvok.back (d2.less (by omega)) <;> omega
      · walk_at "go"
        exact wp_mono last fun o s h => by cases o <;> (walk_at "go"; exact h)
    · walk_at "go"
      exact wp_mono last fun o s h => by cases o <;> (walk_at "go"; exact h)
  refine brK_dec (fun g1 => ?_) fun g1 => ?_
  · walk_at "go"
    refine next_run hT d2 (by omega) (by decide) (by decide) fun x W3 x0 x1 d3 => ?_
    walk_at "go"
    refine tl _ _ v.now v.back _ _ ?_ ?_ ?_ hvok.back (d3.less (by omega)) <;> omega
  walk_at "go"
  refine brK_dec (fun g2 => ?_) fun g2 => ?_
  · walk_at "go"
    refine next_run hT d2 (by omega) (by decide) (by decide) fun x W3 x0 x1 d3 => ?_
    walk_at "go"
    refine tl _ _ v.now v.back _ _ ?_ ?_ ?_ hvok.back (d3.less (by omega)) <;> omega
  walk_at "go"
  refine brK_dec (fun g3 => ?_) fun g3 => ?_
  · walk_at "go"
    refine brK_dec (fun g4 => ?_) fun g4 => ?_
    · walk_at "go"
      refine tl _ _ v.now v.back _ _ ?_ ?_ ?_ hvok.back (d2.less (by omega)) <;> omega
    · walk_at "go"
      exact wp_mono last2 fun o s h => by cases o <;> (walk_at "go"; exact h)
  · walk_at "go"
    exact wp_mono last2 fun o s h => by cases o <;> (walk_at "go"; exact h)
def F_any_b : List CS := [.set 2 (.call 15 [(.var 0), (.var 2)])]
def F_any_log : Fn := ⟨2, 4, [
  .set 2 (.idx (.call 14 [(.var 0), (.var 1), (.call 2 [(.var 0), (.lst [(.con (.int 2)), (.con (.int 3)), (.con (.int 9))])])]) (.con (.int 0))),
  .for_ (.nm 3) (.rng1 (.call 1 [(.var 0), (.con (.int 3))])) F_any_b,
  .ret (.var 2)]⟩

structure TDraw (T : Nat → Option Fn) : Prop where
  next : T 1 = some F_next
  pick : T 2 = some F_pick
  gauge : T 11 = some F_gauge
  walked : T 12 = some F_walked
  noted : T 13 = some F_noted
  made : T 14 = some F_made
  bent : T 15 = some F_bent
  anyl : T 16 = some F_any_log
theorem hours_eq {vs vs' : List Vis} {B : Int} (e : vs'.map Vis.hour = vs.map Vis.hour) (h : ∀ v ∈ vs, v.hour ≤ B) : ∀ v ∈ vs', v.hour ≤ B := fun v hv => by
  have : v.hour ∈ vs'.map Vis.hour := List.mem_map_of_mem hv
  rw [e] at this
  obtain ⟨w, hw, e2⟩ := List.mem_map.mp this
  rw [← e2]; exact h w hw
theorem any_run2 {T : Nat → Option Fn} {gc : Nat → Option D} {k n b : Nat} {W0 W : List WO} {p q : Int} {Q : D → List WO → Prop} (hT : TDraw T) (hd : Dr n b W0 W) (hb : 300 ≤ b) (hp : 1 ≤ p ∧ p ≤ 3) (hq : 1 ≤ q ∧ q ≤ 3)
    (K : ∀ (vs : List Vis) W', LogOk 60 4 4 vs → (∀ v ∈ vs, v.hour ≤ 2 * 10 ^ 29) → Dr n (b - 300) W0 W' → Q (.tup (vs.map vD)) W') :
    Runs (callK T gc (k + 4) 16 [.obj n, .tup [.int p, .int q]] W) Q := by
  refine runs_call hT.anyl rfl ?_
  unfold F_any_log
  walk_at "go"
  refine pick_run hT.next hT.pick hd (by omega) (by decide) (by decide) fun d W1 hmem d1 => ?_
  simp only [List.mem_cons, List.not_mem_nil, or_false] at hmem
  obtain ⟨bl, rfl, h1, h2⟩ : ∃ bl : Int, d = .int bl ∧ 0 < bl ∧ bl < 1000 := by
    rcases hmem with rfl | rfl | rfl <;> exact ⟨_, rfl, by decide, by decide⟩
  walk_at "go"
  refine made_run hT.next hT.walked hT.noted hT.pick hT.made d1 (by omega) hp hq ⟨h1, h2⟩ fun vs l t W2 hv hh d2 => ?_
  walk_at "go"
  have e : ∀ (a b c : D), L2.atI [a, b, c] 0 = some a := fun a b c => rfl
  rw [e]
  walk_at "go"
  refine next_run hT.next d2 (by omega) (by decide) (by decide) fun i W3 i0 i1 d3 => ?_
  walk_at "go"
  have e1 : rngOk i = true := by unfold rngOk; exact decide_eq_true (by omega)
  refine ⟨e1, ?_⟩
  refine wp_loop (I := fun r s => ∃ (vs : List Vis) (d3 : Sl) (W' : List WO), s = ⟨[.val (.obj n), .val (.tup [.int p, .int q]), .val (.tup (vs.map vD)), d3], W'⟩ ∧ (r.length : Int) ≤ i ∧ LogOk (50 + 2 * (i - r.length)) 4 4 vs ∧ (∀ v ∈ vs, v.hour ≤ 2 * 10 ^ 29) ∧ Dr n (b - 250 + r.length * 5) W0 W') ?_ ?_ ?_
  · exact ⟨vs, _, W3, rfl, by rw [rangeL_len]; omega, hv.more (by rw [rangeL_len]; omega), hh, d3.less (by rw [rangeL_len]; omega)⟩
  · rintro x r s - ⟨vs, d3, W4, rfl, hl, hv, hh, hdr⟩
    have hl : ((r.length + 1 : Nat) : Int) ≤ i := hl
    have hv : LogOk (50 + 2 * (i - ((r.length + 1 : Nat) : Int))) 4 4 vs := hv
    have hdr : Dr n (b - 250 + (r.length + 1) * 5) W0 W4 := hdr
    unfold F_any_b
    simp only [turnF, bindG, S.put, List.set_cons_succ, List.set_cons_zero]
    walk_at "go"
    refine bent_run hT.next hT.pick hT.bent hdr (by omega) hv (by decide) fun vs' W5 hv' e' d5 => ?_
    walk_at "go"
    exact ⟨vs', _, W5, rfl, by omega, hv'.more (by omega), hours_eq e' hh, d5.less (by omega)⟩
  · rintro s ⟨vs, d3, W4, rfl, hl, hv, hh, hdr⟩
    walk_at "go"
    exact K vs W4 (hv.more (by simp; omega)) hh (hdr.less (by simp; omega))
theorem any_run {T : Nat → Option Fn} {gc : Nat → Option D} {k n b : Nat} {W0 W : List WO} {p q : Int} {Q : D → List WO → Prop} (hT : TDraw T) (hd : Dr n b W0 W) (hb : 300 ≤ b) (hp : 1 ≤ p ∧ p ≤ 3) (hq : 1 ≤ q ∧ q ≤ 3)
    (K : ∀ (vs : List Vis) W', LogOk 60 4 4 vs → Dr n (b - 300) W0 W' → Q (.tup (vs.map vD)) W') :
    Runs (callK T gc (k + 4) 16 [.obj n, .tup [.int p, .int q]] W) Q := any_run2 hT hd hb hp hq fun vs W' h _ d => K vs W' h d
end GP

set_option Elab.async false
set_option linter.all false
set_option maxRecDepth 100000
set_option autoImplicit false
set_option maxHeartbeats 4000000

namespace GP
open PySem PySem.Spec L2
def Ch (z : Str) : Prop := ∀ c ∈ z.cps.toList, c < 1114112
theorem cps_append (a b : Str) : (a ++ b).cps.toList = a.cps.toList ++ b.cps.toList := by
  show (a.cps ++ b.cps).toList = _
  rw [Array.toList_append]
theorem len_cps (a : Str) : a.length = a.cps.toList.length := by rw [Array.length_toList]; rfl
theorem Ch.app {a b : Str} (h : Ch a) (k : Ch b) : Ch (a ++ b) := fun c hc => by
  rw [cps_append] at hc
  rcases List.mem_append.mp hc with hc | hc
  · exact h c hc
  · exact k c hc
theorem strOk_of {z : Str} (h : Ch z) : PyData.strOk z = true := by
  show z.cps.all (fun x => decide (x < 0x110000)) = true
  rw [← Array.all_toList, List.all_eq_true]
  exact fun c hc => decide_eq_true (h c hc)
theorem ch_of {z : Str} (h : PyData.strOk z = true) : Ch z := fun c hc => by
  have h : z.cps.all (fun x => decide (x < 0x110000)) = true := h
  rw [← Array.all_toList, List.all_eq_true] at h
  exact of_decide_eq_true (h c hc)
theorem ch_string (s : String) : Ch (Str.ofString s) := fun c hc => by
  rw [PyProof.Rows.signs_ofString] at hc
  obtain ⟨ch, _, rfl⟩ := List.mem_map.mp hc
  have h := ch.valid
  simp only [UInt32.isValidChar, Nat.isValidChar] at h
  have : ch.toNat = ch.val.toNat := rfl
  omega
theorem digits_lt (n : Nat) (b : Nat) (hb : 1 < b) (hb2 : b ≤ 16) : ∀ c ∈ (Nat.toDigits b n).map Char.toNat, c < 1114112 := fun c hc => by
  obtain ⟨ch, _, rfl⟩ := List.mem_map.mp hc
  have h := ch.valid
  simp only [UInt32.isValidChar, Nat.isValidChar] at h
  have : ch.toNat = ch.val.toNat := rfl
  omega
theorem ch_reprChar {q c : Nat} (hq : q < 1114112) (hc : c < 1114112) : ∀ x ∈ Builtin.Str.reprChar q c, x < 1114112 := by
  have hx : ∀ w, ∀ x ∈ List.replicate (w - ((Nat.toDigits 16 c).map Char.toNat).length) 48 ++ (Nat.toDigits 16 c).map Char.toNat, x < 1114112 := fun w x hx => by
    rcases List.mem_append.mp hx with hx | hx
    · have := List.eq_of_mem_replicate hx; omega
    · exact digits_lt c 16 (by decide) (by decide) x hx
  unfold Builtin.Str.reprChar
  dsimp only
  intro x h
  repeat' split at h
  all_goals first
    | (simp only [List.mem_cons, List.not_mem_nil, or_false] at h; omega)
    | (rcases List.mem_append.mp h with h | h
       · simp only [List.mem_cons, List.not_mem_nil, or_false] at h; omega
       · exact hx _ x h)
theorem ch_repr {z : Str} (h : Ch z) : Ch (reprText z) := by
  have hq : reprQuote z < 1114112 := by unfold reprQuote; split <;> decide
  have : ∀ (l : List Nat) (acc : Array Nat), (∀ c ∈ l, c < 1114112) → (∀ c ∈ acc.toList, c < 1114112) → ∀ c ∈ (l.foldl (fun out c => out ++ (Builtin.Str.reprChar (reprQuote z) c).toArray) acc).toList, c < 1114112 := by
    intro l
    induction l with
    | nil => intro acc _ h; exact h
    | cons c l ih =>
      intro acc h1 h2
      rw [List.foldl_cons]
      refine ih _ (fun x hx => h1 x (List.mem_cons_of_mem _ hx)) fun x hx => ?_
      rw [Array.toList_append] at hx
      rcases List.mem_append.mp hx with hx | hx
      · exact h2 x hx
      · exact ch_reprChar hq (h1 c List.mem_cons_self) x (by simpa using hx)
  intro c hc
  unfold reprText at hc
  rw [Array.toList_push, ← Array.foldl_toList] at hc
  rcases List.mem_append.mp hc with hc | hc
  · exact this z.cps.toList #[reprQuote z] h (fun x hx => by
      have : x = reprQuote z := by simpa using hx
      rw [this]; exact hq) c hc
  · have : c = reprQuote z := by simpa using hc
    omega
theorem ch_textFrom : ∀ (ts : List Str) (k : Nat) (acc : Str), Ch acc → (∀ t ∈ ts, Ch t) → Ch (textFrom k acc ts)
  | [], _, _, h, _ => h
  | t :: ts, k, acc, h, ht => by
    unfold textFrom
    refine ch_textFrom ts _ _ ((h.app ?_).app (ht t List.mem_cons_self)) fun x hx => ht x (List.mem_cons_of_mem _ hx)
    split <;> exact ch_string _
theorem len_textFrom : ∀ (ts : List Str) (k n : Nat) (acc : Str), (∀ t ∈ ts, t.length ≤ n) → (textFrom k acc ts).length ≤ acc.length + ts.length * (n + 2)
  | [], _, _, _, _ => by simp [textFrom]
  | t :: ts, k, n, acc, h => by
    unfold textFrom
    refine Nat.le_trans (len_textFrom ts _ n _ fun x hx => h x (List.mem_cons_of_mem _ hx)) ?_
    have h1 := h t List.mem_cons_self
    have h2 : ((if k > 0 then ", " else "" : String) : Str).length ≤ 2 := by split <;> decide
    rw [strLen_append, strLen_append, List.length_cons, Nat.add_mul]
    omega
theorem ch_join {sep : Str} (hs : Ch sep) : ∀ (ts : List Str), (∀ t ∈ ts, Ch t) → Ch (Str.join sep ts)
  | [], _ => fun c hc => nomatch hc
  | [x], h => h x List.mem_cons_self
  | x :: y :: r, h => ((h x List.mem_cons_self).app hs).app (ch_join hs (y :: r) fun t ht => h t (List.mem_cons_of_mem _ ht))
structure Nd (k n : Nat) (p : PyData) : Prop where
  lay : p.canLay0 = true
  depth : p.depth ≤ k
  show_ : p.showable = true
  len : p.shown.length ≤ n
  ch : Ch p.shown
structure NdL (k n : Nat) (ps : List PyData) : Prop where
  lay : PyData.canLayAll0 ps = true
  depth : PyData.depthAll ps ≤ k
  show_ : PyData.showableAll ps = true
  len : ∀ t ∈ PyData.shownAll ps, t.length ≤ n
  ch : ∀ t ∈ PyData.shownAll ps, Ch t
  cnt : (PyData.shownAll ps).length = ps.length
def Nc (k n : Nat) (d : D) : Prop := ∃ p, toPy d = some p ∧ Nd k n p
theorem NdL.nil {k n : Nat} : NdL k n [] := ⟨rfl, Nat.zero_le _, rfl, fun _ h => (nomatch h), fun _ h => (nomatch h), rfl⟩
theorem NdL.cons {k n : Nat} {p : PyData} {ps : List PyData} (h : Nd k n p) (hs : NdL k n ps) : NdL k n (p :: ps) := by
  refine ⟨?_, ?_, ?_, fun t ht => ?_, fun t ht => ?_, ?_⟩
  · rw [PyData.canLayAll0, h.lay, hs.lay]; rfl
  · rw [PyData.depthAll]; exact Nat.max_le.mpr ⟨h.depth, hs.depth⟩
  · rw [PyData.showableAll, h.show_, hs.show_]; rfl
  · rw [PyData.shownAll] at ht
    rcases List.mem_cons.mp ht with rfl | ht
    · exact h.len
    · exact hs.len t ht
  · rw [PyData.shownAll] at ht
    rcases List.mem_cons.mp ht with rfl | ht
    · exact h.ch
    · exact hs.ch t ht
  · rw [PyData.shownAll, List.length_cons, List.length_cons, hs.cnt]
theorem NdL.tup {k n m : Nat} {ps : List PyData} (h : NdL k n ps) (hm : ps.length ≤ m) : Nd (k + 1) (m * (n + 2) + 3) (.tuple ps) := by
  have hl : (Str.join ", " (PyData.shownAll ps)).length ≤ m * (n + 2) := by
    have h1 := StrLaws.join_length_le ", " (PyData.shownAll ps)
    have h2 : ∀ l : List Str, (∀ t ∈ l, t.length ≤ n) → (l.map (·.length)).sum ≤ l.length * n := by
      intro l
      induction l with
      | nil => intro _; simp
      | cons x l ih =>
        intro h
        have := ih fun t ht => h t (List.mem_cons_of_mem _ ht)
        have := h x List.mem_cons_self
        simp only [List.map_cons, List.sum_cons, List.length_cons, Nat.add_mul]
        omega
    have h3 := h2 _ h.len
    have h4 : ((", " : String) : Str).length = 2 := rfl
    rw [h.cnt] at h1 h3
    rw [h4] at h1
    have h5 : ps.length * n + ps.length * 2 = ps.length * (n + 2) := by rw [Nat.mul_add]
    have h6 : ps.length * (n + 2) ≤ m * (n + 2) := Nat.mul_le_mul_right _ hm
    omega
  refine ⟨?_, ?_, ?_, ?_, ?_⟩
  · rw [PyData.canLay0]; exact h.lay
  · rw [PyData.depth]; exact Nat.succ_le_succ h.depth
  · rw [PyData.showable]; exact h.show_
  · rw [PyData.shown]
    unfold tupleText
    rw [strLen_append, strLen_append]
    have h1 : (("(" : String) : Str).length = 1 := rfl
    have h2 : ∀ b : Bool, ((if b then ",)" else ")" : String) : Str).length ≤ 2 := by intro b; cases b <;> decide
    have := h2 ((PyData.shownAll ps).length == 1)
    omega
  · rw [PyData.shown]
    unfold tupleText
    refine ((ch_string _).app (ch_join (ch_string _) _ h.ch)).app ?_
    split <;> exact ch_string _
theorem NdL.lst {k n m : Nat} {ps : List PyData} (h : NdL k n ps) (hm : ps.length ≤ m) : Nd (k + 1) (m * (n + 2) + 3) (.list ps) := by
  refine ⟨?_, ?_, ?_, ?_, ?_⟩
  · rw [PyData.canLay0]; exact h.lay
  · rw [PyData.depth]; exact Nat.succ_le_succ h.depth
  · rw [PyData.showable]; exact h.show_
  · rw [PyData.shown]
    unfold listText
    rw [strLen_append]
    have h1 := len_textFrom (PyData.shownAll ps) 0 n "[" h.len
    have h2 : (("[" : String) : Str).length = 1 := rfl
    have h3 : (("]" : String) : Str).length = 1 := rfl
    rw [h.cnt] at h1
    have h6 : ps.length * (n + 2) ≤ m * (n + 2) := Nat.mul_le_mul_right _ hm
    omega
  · rw [PyData.shown]
    unfold listText
    exact (ch_textFrom _ _ _ (ch_string _) h.ch).app (ch_string _)
theorem Nd.more {k k' n n' : Nat} {p : PyData} (h : Nd k n p) (hk : k ≤ k') (hn : n ≤ n') : Nd k' n' p := ⟨h.lay, Nat.le_trans h.depth hk, h.show_, Nat.le_trans h.len hn, h.ch⟩
theorem Nc.more {k k' n n' : Nat} {d : D} (h : Nc k n d) (hk : k ≤ k') (hn : n ≤ n') : Nc k' n' d := by
  obtain ⟨p, h1, h2⟩ := h
  exact ⟨p, h1, h2.more hk hn⟩
theorem nc_list {k n : Nat} : ∀ {xs : List D}, (∀ x ∈ xs, Nc k n x) → ∃ ps, toPyL xs = some ps ∧ NdL k n ps ∧ ps.length = xs.length
  | [], _ => ⟨[], rfl, .nil, rfl⟩
  | x :: xs, h => by
    obtain ⟨ps, h1, h2, h3⟩ := nc_list fun y hy => h y (List.mem_cons_of_mem _ hy)
    obtain ⟨p, h4, h5⟩ := h x List.mem_cons_self
    exact ⟨p :: ps, by rw [toPyL, h4, h1], .cons h5 h2, by simp [h3]⟩
theorem nc_tup {k n m : Nat} {xs : List D} (h : ∀ x ∈ xs, Nc k n x) (hm : xs.length ≤ m) : Nc (k + 1) (m * (n + 2) + 3) (.tup xs) := by
  obtain ⟨ps, h1, h2, h3⟩ := nc_list h
  exact ⟨.tuple ps, by rw [toPy, h1]; rfl, h2.tup (by omega)⟩
theorem nc_lst {k n m : Nat} {xs : List D} (h : ∀ x ∈ xs, Nc k n x) (hm : xs.length ≤ m) : Nc (k + 1) (m * (n + 2) + 3) (.lst xs) := by
  obtain ⟨ps, h1, h2, h3⟩ := nc_list h
  exact ⟨.list ps, by rw [toPy, h1]; rfl, h2.lst (by omega)⟩
theorem nc_non : Nc 0 70 .non := ⟨.none, rfl, rfl, Nat.le_refl _, rfl, by show ((("None" : String) : Str)).length ≤ 70; decide, ch_string _⟩
theorem nc_bl (b : Bool) : Nc 0 70 (.bl b) := by
  refine ⟨.bool b, rfl, rfl, Nat.le_refl _, rfl, ?_, ?_⟩ <;> cases b <;> first | exact ch_string _ | (show (Str.ofString _).length ≤ 70; decide)
theorem nc_int {i : Int} (h : i.natAbs < 10 ^ 65) : Nc 0 70 (.int i) := by
  refine ⟨.int i, rfl, rfl, Nat.le_refl _, ?_, ?_, ?_⟩
  · show decide _ = true
    refine decide_eq_true ?_
    by_cases z : i.natAbs = 0
    · rw [z]; decide
    · exact (Nat.log2_lt z).mpr (Nat.lt_of_lt_of_le h (Nat.le_trans (show 10 ^ 65 ≤ 2 ^ 250 by decide) (Nat.pow_le_pow_right (show 0 < 2 by decide) (show 250 ≤ 1920 by decide))))
  · show (Str.ofString (toString i)).length ≤ 70
    have := int_text_length_le10 (k := 65) (by decide) h
    rw [PySem.ofString_length]
    omega
  · exact ch_string _
theorem nc_str {z : Str} {n : Nat} (h : Ch z) (hn : z.length ≤ n) : Nc 0 (10 * n + 2) (.str z) := by
  refine ⟨.str z, rfl, strOk_of h, Nat.le_refl _, rfl, ?_, ch_repr h⟩
  show (reprText z).length ≤ _
  have := StrLaws.reprText_len z fun c hc => Nat.lt_trans (h c hc) (by decide)
  omega

def shownD (d : D) : Str := match toPy d with
  | some p => p.shown
  | none => ⟨#[]⟩
theorem repr_nc {k n : Nat} {d : D} (h : Nc k n d) (hk : k ≤ 64) (hn : n ≤ 1000000) : reprD [d] = some (.val (.str (shownD d))) := by
  obtain ⟨p, h1, h2⟩ := h
  unfold reprD shownD
  dsimp only
  rw [h1]
  dsimp only
  have : reprOk p = true := by
    unfold reprOk
    rw [h2.show_, PyData.hasDict_of_canLay p h2.lay, sizeB_m (Nat.le_trans h2.len hn), decide_eq_true (Nat.le_trans h2.depth hk)]; rfl
  rw [this]; rfl
theorem ch_shown {k n : Nat} {d : D} (h : Nc k n d) : Ch (shownD d) := by
  obtain ⟨p, h1, h2⟩ := h
  unfold shownD; rw [h1]; exact h2.ch
mutual
theorem eqv_self : ∀ (p : PyData), p.canLay0 = true → PyData.eqv p p = true
  | .none, _ => rfl
  | .bool b, _ => by simp [PyData.eqv]
  | .int i, _ => by simp [PyData.eqv]
  | .str x, _ => by simp [PyData.eqv]
  | .list xs, h => by rw [PyData.eqv]; exact eqvAll_self xs (by simpa [PyData.canLay0] using h)
  | .tuple xs, h => by rw [PyData.eqv]; exact eqvAll_self xs (by simpa [PyData.canLay0] using h)
  | .dict _, h => by simp [PyData.canLay0] at h
theorem eqvAll_self : ∀ (ps : List PyData), PyData.canLayAll0 ps = true → PyData.eqvAll ps ps = true
  | [], _ => rfl
  | x :: xs, h => by
    have h' : x.canLay0 = true ∧ PyData.canLayAll0 xs = true := by simpa [PyData.canLayAll0] using h
    rw [PyData.eqvAll, eqv_self x h'.1, eqvAll_self xs h'.2]; rfl
end
theorem eqD_nc {k n k' n' : Nat} {d e : D} (h : Nc k n d) (h' : Nc k' n' e) (hk : k ≤ 64) (hk' : k' ≤ 64) : ∃ p q, toPy d = some p ∧ toPy e = some q ∧ eqD d e = some (PyData.eqv p q) := by
  obtain ⟨p, h1, h2⟩ := h
  obtain ⟨q, h3, h4⟩ := h'
  refine ⟨p, q, h1, h3, ?_⟩
  unfold eqD
  rw [h1, h3]
  dsimp only
  have e1 : SeqAt.shaped p = true := by unfold SeqAt.shaped; rw [h2.lay, decide_eq_true (Nat.le_trans h2.depth hk)]; rfl
  have e2 : SeqAt.shaped q = true := by unfold SeqAt.shaped; rw [h4.lay, decide_eq_true (Nat.le_trans h4.depth hk')]; rfl
  rw [e1, e2]; rfl
theorem eqD_self {k n : Nat} {d : D} (h : Nc k n d) (hk : k ≤ 64) : eqD d d = some true := by
  obtain ⟨p, q, h1, h2, h3⟩ := eqD_nc h h hk hk
  rw [h1] at h2
  cases h2
  obtain ⟨p', h4, h5⟩ := h
  rw [h1] at h4; cases h4
  rw [h3, eqv_self p h5.lay]
theorem eqD_strs {a b : Str} (ha : Ch a) (hb : Ch b) : eqD (.str a) (.str b) = some (decide (a = b)) := by
  show (if SeqAt.shaped (.str a) && SeqAt.shaped (.str b) then some (PyData.eqv (.str a) (.str b)) else none) = _
  have h : ∀ {z}, Ch z → SeqAt.shaped (.str z) = true := fun {z} hz => by
    show (PyData.strOk z && decide (0 ≤ 64)) = true
    rw [strOk_of hz]; rfl
  rw [h ha, h hb]
  show some (a == b) = _
  by_cases q : a = b
  · subst q; simp
  · simp [q]

theorem ne_shown {k n : Nat} {d : D} (h : Nc k n d) : cmpD .ne (.str (shownD d)) (.str (shownD d)) = some false := by
  show (eqD _ _).map (!·) = _
  rw [eqD_strs (ch_shown h) (ch_shown h)]; simp
end GP

set_option Elab.async false
set_option linter.all false
set_option maxRecDepth 100000
set_option autoImplicit false
set_option maxHeartbeats 4000000

namespace GP
open PySem PySem.Spec L2
local macro_rules | `(tactic| walk_at "go") => `(tactic| try simp only [↓wp_okv, ↓wp_some, ↓wp_bnd, ↓wp_lft, ↓wp_frz, ↓wO_var, ↓wO_con, ↓wO_glob, ↓wO_bin, ↓wO_neg, ↓wO_notv, ↓wO_andv, ↓wO_orv, ↓wO_cmp, ↓wO_isN, ↓wO_isnN, ↓wO_chain, ↓wO_ite, ↓wO_tup, ↓wO_tups, ↓wO_lst, ↓wO_dnew, ↓wO_knew, ↓wO_rlist, ↓wO_rtup, ↓wO_dint, ↓wO_bisin, ↓wO_bget, ↓wO_idx, ↓wO_bidx, ↓wO_bemp, ↓wO_slc, ↓wO_rev, ↓wO_call, ↓wO_callk, ↓wO_blt, ↓wO_isi, ↓wO_mth, ↓wO_comp, ↓wL_nil, ↓wL_cons, ↓wP_none, ↓wP_some, ↓wC_none, ↓wC_some, ↓wT_val, ↓wT_not, ↓wT_and, ↓wT_or, ↓wI_seq, ↓wI_rng1, ↓wI_rng2, ↓wI_rng3, ↓wI_enm, ↓wI_zip, ↓wI_zip3, ↓wOs_nil, ↓wOs_cons, ↓wS_set, ↓wS_unp, ↓wS_par, ↓wS_sub, ↓wS_aug, ↓wS_app, ↓wS_ext, ↓wS_expr, ↓wS_ret, ↓wS_retN, ↓wS_ite, ↓wS_for, ↓wS_whl, ↓wS_cont, ↓wS_pass, ↓wSs_nil, ↓wSs_cons, ↓wF_turn, ctK_nx, ctK_ct, ctK_rt, ↓wR_turn, ↓put_mk, opS_some, opS_ite, rdS_val, rdS_own, rdS_ownd, lsS_own, dgS_ownd, ownDB, bxS_own, bxS_val, beS_own, beS_val, auS_int, brK_true, brK_false, brK_not, brK_and, brK_or, nxK_nx, nxK_ct, nxK_rt, runs_some, List.getElem?_cons_zero, List.getElem?_cons_succ, List.set_cons_zero, List.set_cons_succ, List.length_cons, List.length_nil, List.map_cons, List.map_nil, List.replicate, List.cons_append, List.nil_append, List.all_cons, List.all_nil, Option.getD_some, Nat.reduceSub, Nat.reduceAdd, Nat.reduceLeDiff, true_and, and_true, Bool.and_true, Bool.true_and, Bool.not_true, Bool.not_false, setL, setO, bindG, wipeS, restore, isSet, ownL, appS, extS, isData, binD, addD, subD, mulD, fdivD, modD, cmpD, ltD, leD, eqD_int, blO, intO, walkOf, itemsOf, tupO, bltD, lenD, sizeB_m, Option.map_some, reduceCtorEq, if_true, if_false, tupleD, listD, min2D, max2D, pw_nn, idx_tu, idx_li, slcD, kwPut, isNonD, isiD, mthD, mthPre, decide_true, decide_false, not_true_eq_false, not_false_eq_true, Bool.and_false, Bool.false_and, and_false, false_and, or_false, false_or, or_true, true_or, and_self])
local macro_rules | `(tactic| walk_at "gos") => `(tactic| try simp only [↓wp_okv, ↓wp_some, ↓wp_bnd, ↓wp_lft, ↓wp_frz, ↓wO_var, ↓wO_con, ↓wO_glob, ↓wO_bin, ↓wO_neg, ↓wO_notv, ↓wO_andv, ↓wO_orv, ↓wO_cmp, ↓wO_isN, ↓wO_isnN, ↓wO_chain, ↓wO_ite, ↓wO_tup, ↓wO_tups, ↓wO_lst, ↓wO_dnew, ↓wO_knew, ↓wO_rlist, ↓wO_rtup, ↓wO_dint, ↓wO_bisin, ↓wO_bget, ↓wO_idx, ↓wO_bidx, ↓wO_bemp, ↓wO_slc, ↓wO_rev, ↓wO_call, ↓wO_callk, ↓wO_blt, ↓wO_isi, ↓wO_mth, ↓wO_comp, ↓wL_nil, ↓wL_cons, ↓wP_none, ↓wP_some, ↓wC_none, ↓wC_some, ↓wT_val, ↓wT_not, ↓wT_and, ↓wT_or, ↓wI_seq, ↓wI_rng1, ↓wI_rng2, ↓wI_rng3, ↓wI_enm, ↓wI_zip, ↓wI_zip3, ↓wOs_nil, ↓wOs_cons, ↓wS_set, ↓wS_unp, ↓wS_par, ↓wS_sub, ↓wS_aug, ↓wS_app, ↓wS_ext, ↓wS_expr, ↓wS_ret, ↓wS_retN, ↓wS_ite, ↓wS_for, ↓wS_whl, ↓wS_cont, ↓wS_pass, ↓wSs_nil, ↓wSs_cons, ↓wF_turn, ctK_nx, ctK_ct, ctK_rt, ↓wR_turn, ↓put_mk, opS_some, opS_ite, rdS_val, rdS_own, rdS_ownd, lsS_own, dgS_ownd, ownDB, bxS_own, bxS_val, beS_own, beS_val, auS_int, brK_true, brK_false, brK_not, brK_and, brK_or, nxK_nx, nxK_ct, nxK_rt, runs_some, List.getElem?_cons_zero, List.getElem?_cons_succ, List.set_cons_zero, List.set_cons_succ, List.length_cons, List.length_nil, List.map_cons, List.map_nil, List.replicate, List.cons_append, List.nil_append, List.all_cons, List.all_nil, Option.getD_some, Nat.reduceSub, Nat.reduceAdd, Nat.reduceLeDiff, true_and, and_true, Bool.and_true, Bool.true_and, Bool.not_true, Bool.not_false, setL, setO, bindG, wipeS, restore, isSet, ownL, appS, extS, isData, binD, addD, subD, mulD, fdivD, modD, cmpD, ltD, leD, eqD_int, blO, intO, walkOf, itemsOf, tupO, bltD, lenD, sizeB_m, Option.map_some, reduceCtorEq, if_true, if_false, tupleD, listD, min2D, max2D, pw_nn, idx_tu, idx_li, slcD, kwPut, isNonD, isiD, mthD, mthPre, decide_true, decide_false, not_true_eq_false, not_false_eq_true, Bool.and_false, Bool.false_and, and_false, false_and, or_false, false_or, or_true, true_or, and_self, *])
theorem wp_compm {A : Type} {f : D → S → R (Option D)} {fA : A → D} {g : A → D} {C : S → Prop} {K : List D → S → Prop} : ∀ {l : List A} {s : S}, C s →
    (∀ a s, a ∈ l → C s → wp (f (fA a) s) fun o s' => o = some (g a) ∧ C s') → (∀ s, C s → K (l.map g) s) → wp (turnsC f (l.map fA) s) K
  | [], s, h, _, e => by show wp (okv [] s) K; rw [wp_okv]; exact e s h
  | x :: xs, s, h, k, e => by
    rw [List.map_cons]
    unfold turnsC
    rw [wp_bnd]
    refine wp_mono (k x s List.mem_cons_self h) fun o s' ⟨ho, h'⟩ => ?_
    subst ho
    rw [wp_bnd]
    refine wp_compm h' (fun y t hy ht => k y t (List.mem_cons_of_mem _ hy) ht) fun t ht => ?_
    rw [wp_okv]; exact e t ht
def F_begin : Fn := ⟨1, 1, [
  .ret (.wd ["cells", "at", "left", "used"] [(.bin .add (.var 0) (.lst [(.con (.int 0))])), (.con (.int 0)), (.con (.int 0)), (.con (.int 0))])]⟩
def F_is_integer : Fn := ⟨1, 1, [
  .ret (.andv (.isi (.var 0) .int) (.notv (.isi (.var 0) .bool)))]⟩
def F_is_whole : Fn := ⟨3, 3, [
  .ret (.andv (.call 4 [(.var 0)]) (.chain .le .le (.var 1) (.var 0) (.var 2)))]⟩
def F_is_level : Fn := ⟨1, 1, [
  .ret (.call 5 [(.var 0), (.bin .sub (.con (.int 0)) (.glob 0)), (.glob 0)])]⟩
def F_need_gauge : Fn := ⟨1, 1, [
  .ite (.or (.not (.val (.isi (.var 0) .tuple))) (.val (.cmp .ne (.blt .len [(.var 0)]) (.con (.int 2))))) [.raise (.con .non)] [],
  .ite (.not (.val (.call 5 [(.bidx 0 0), (.con (.int 1)), (.glob 0)]))) [.raise (.con .non)] [],
  .ite (.not (.val (.call 5 [(.bidx 0 1), (.con (.int 1)), (.glob 0)]))) [.raise (.con .non)] [],
  .ret (.var 0)]⟩
def F_is_visit : Fn := ⟨1, 6, [
  .ite (.or (.not (.val (.isi (.var 0) .tuple))) (.val (.cmp .ne (.blt .len [(.var 0)]) (.con (.int 5))))) [.ret (.con (.bl false))] [],
  .unp [1, 2, 3, 4, 5] (.var 0),
  .ite (.or (.not (.val (.call 5 [(.var 1), (.con (.int 0)), (.glob 0)]))) (.or (.not (.val (.call 6 [(.var 3)]))) (.or (.not (.val (.call 6 [(.var 4)]))) (.val (.cmp .gt (.var 3) (.var 4)))))) [.ret (.con (.bl false))] [],
  .ite (.and (.val (.isnN (.var 2))) (.not (.val (.call 5 [(.var 2), (.var 3), (.var 4)])))) [.ret (.con (.bl false))] [],
  .ret (.orv (.isN (.var 5)) (.call 5 [(.var 5), (.con (.int 0)), (.con (.int 1))]))]⟩
def F_is_next : Fn := ⟨2, 2, [
  .ret (.andv (.call 8 [(.var 1)]) (.orv (.cmp .eq (.var 0) (.tup [])) (.cmp .gt (.bidx 1 0) (.idx (.bidx 0 (-1)) (.con (.int 0))))))]⟩
def F_need_log_b : List CS := [.ite (.not (.val (.call 9 [(.slc (.var 0) none (some (.var 1))), (.var 2)]))) [.raise (.con .non)] []]
def F_need_log : Fn := ⟨1, 3, [
  .ite (.or (.not (.val (.isi (.var 0) .tuple))) (.not (.val (.chain .le .le (.con (.int 1)) (.blt .len [(.var 0)]) (.glob 1))))) [.raise (.con .non)] [],
  .for_ (.tp [1, 2]) (.enm (.var 0)) F_need_log_b,
  .ret (.var 0)]⟩
structure TG0 (T : Nat → Option Fn) (gc : Nat → Option D) : Prop where
  isint : T 4 = some F_is_integer
  whole : T 5 = some F_is_whole
  level : T 6 = some F_is_level
  gauge : T 7 = some F_need_gauge
  g0 : gc 0 = some (.int 1000000000000000000000000000000)
structure TGau (T : Nat → Option Fn) (gc : Nat → Option D) : Prop extends TG0 T gc where
  visit : T 8 = some F_is_visit
  isnext : T 9 = some F_is_next
  log : T 10 = some F_need_log
  g1 : gc 1 = some (.int 60)
section
variable {T : Nat → Option Fn} {gc : Nat → Option D} {k : Nat} {W : List WO}
theorem begin_run (hT : T 0 = some F_begin) {ns : List Int} (h : ns.length ≤ 63) : ∃ W, callK T gc (k + 1) 0 [.lst (ns.map .int)] [] = some (.val (.obj 0), W) ∧ Dr 0 100000 W W := by
  refine ⟨[drD ((ns ++ [0]).map .int) 0 0 0], ?_, ⟨⟨ns ++ [0], 0, 0, 0, rfl, by simp, by simp; omega, by decide, by decide, by decide, by decide, by decide⟩, .refl⟩⟩
  rw [callK_eq hT rfl]
  have z : sizeB (ns.length + 1) = true := sizeB_m (by omega)
  have z1 : sizeB 1 = true := sizeB_m (by decide)
  simp [F_begin, evSs, evS, evO, evL, S.put, Sl.fz, frz, okv, bnd, lft, fin, binD, addD, z, z1, newDict, drD]
theorem is_integer_int (H : TG0 T gc) (i : Int) : callK T gc (k + 1) 4 [.int i] W = some (.val (.bl true), W) := by
  refine Runs.eq (runs_call H.isint rfl ?_)
  unfold F_is_integer
  walk_at "go"
theorem is_whole_int (H : TG0 T gc) (i lo hi : Int) : callK T gc (k + 2) 5 [.int i, .int lo, .int hi] W = some (.val (.bl (decide (lo ≤ i ∧ i ≤ hi))), W) := by
  refine Runs.eq (runs_call H.whole rfl ?_)
  unfold F_is_whole
  walk_at "go"
  rw [is_integer_int H]
  walk_at "go"
  refine brK_dec (fun h => ?_) fun h => ?_
  · walk_at "go"
    simp [h]
  · walk_at "go"
    simp [h]
theorem is_level_int (H : TG0 T gc) (i : Int) : callK T gc (k + 3) 6 [.int i] W = some (.val (.bl (decide (-1000000000000000000000000000000 ≤ i ∧ i ≤ 1000000000000000000000000000000))), W) := by
  refine Runs.eq (runs_call H.level rfl ?_)
  unfold F_is_level
  walk_at "go"
  rw [H.g0]
  walk_at "go"
  rw [H.g0]
  walk_at "go"
  rw [is_whole_int H]
  walk_at "go"
  simp
theorem need_gauge_ok (H : TG0 T gc) {p q : Int} (hp : 1 ≤ p ∧ p ≤ 1000000000000000000000000000000) (hq : 1 ≤ q ∧ q ≤ 1000000000000000000000000000000) : callK T gc (k + 3) 7 [.tup [.int p, .int q]] W = some (.val (.tup [.int p, .int q]), W) := by
  refine Runs.eq (runs_call H.gauge rfl ?_)
  unfold F_need_gauge
  have e0 : idxD (.tup [D.int p, D.int q]) (.int 0) = some (.int p) := rfl
  have e1 : idxD (.tup [D.int p, D.int q]) (.int 1) = some (.int q) := rfl
  have g0 := H.g0
  have qw := fun i lo hi => is_whole_int (k := k) (W := W) H i lo hi
  walk_at "go"
  refine brK_pos (by decide) ?_
  walk_at "gos"
theorem is_visit_ok (H : TGau T gc) {v : Vis} (h : VisOk (10 ^ 30) v) : callK T gc (k + 4) 8 [vD v] W = some (.val (.bl true), W) := by
  obtain ⟨h1, h2, h3, h4, h5, h6, h7⟩ := h
  refine Runs.eq (runs_call H.visit rfl ?_)
  unfold F_is_visit vD
  walk_at "go"
  refine brK_pos (by decide) ?_
  walk_at "go"
  rw [H.g0]
  walk_at "go"
  rw [is_whole_int H.toTG0]
  walk_at "go"
  refine brK_pos (by omega) ?_
  walk_at "go"
  rw [is_level_int H.toTG0]
  walk_at "go"
  refine brK_pos (by omega) ?_
  walk_at "go"
  rw [is_level_int H.toTG0]
  walk_at "go"
  refine brK_pos (by omega) ?_
  walk_at "go"
  refine brK_neg (by omega) ?_
  walk_at "go"
  have last : ∀ (sl : Sl), wp (evSs ⟨callK T gc (k + 3), gc⟩ [.ret (.orv (.isN (.var 5)) (.call 5 [(.var 5), (.con (.int 0)), (.con (.int 1))]))] ⟨[sl, .val (.int v.hour), .val (oD v.now), .val (.int v.low), .val (.int v.high), .val (oD v.back)], W⟩) (fun o s => match o with | .rt d => d = D.bl true ∧ s.W = W | .nx => D.non = D.bl true ∧ s.W = W | .ct => False) := by
    intro sl
    cases hb : v.back with
    | none => simp only [oD]; walk_at "go"
    | some i =>
      simp only [oD]; walk_at "go"
      rw [is_whole_int H.toTG0]
      walk_at "go"
      have := h7 i hb
      rcases this with rfl | rfl <;> simp
  cases hn : v.now with
  | none =>
    rw [hn] at last
    simp only [oD] at last ⊢
    walk_at "go"
    have := last (.val (D.tup [D.int v.hour, D.non, D.int v.low, D.int v.high, oD v.back]))
    revert this
    walk_at "go"
    exact id
  | some i =>
    rw [hn] at last
    simp only [oD] at last ⊢
    walk_at "go"
    rw [is_whole_int H.toTG0]
    walk_at "go"
    have := h6 i hn
    refine brK_pos (by omega) ?_
    have := last (.val (D.tup [D.int v.hour, D.int i, D.int v.low, D.int v.high, oD v.back]))
    revert this
    walk_at "go"
    exact id
theorem nc_o {o : Option Int} (h : ∀ i, o = some i → i.natAbs < 10 ^ 65) : Nc 0 70 (oD o) := by
  cases o with
  | none => exact nc_non
  | some i => exact nc_int (h i rfl)
theorem nc_vis {v : Vis} (h : VisOk (10 ^ 30) v) : Nc 1 363 (vD v) := by
  obtain ⟨h1, h2, h3, h4, h5, h6, h7⟩ := h
  refine nc_tup (k := 0) (n := 70) (m := 5) (fun x hx => ?_) (Nat.le_refl _)
  simp only [List.mem_cons, List.not_mem_nil, or_false] at hx
  rcases hx with rfl | rfl | rfl | rfl | rfl
  · exact nc_int (by omega)
  · exact nc_o fun i hi => by have := h6 i hi; omega
  · exact nc_int (by omega)
  · exact nc_int (by omega)
  · exact nc_o fun i hi => by rcases h7 i hi with rfl | rfl <;> decide
theorem nc_visL {vs : List Vis} (h : ∀ v ∈ vs, VisOk (10 ^ 30) v) : ∀ x ∈ vs.map vD, Nc 1 363 x := fun x hx => by
  obtain ⟨v, hv, rfl⟩ := List.mem_map.mp hx
  exact nc_vis (h v hv)
theorem eq_tup_nil {k n : Nat} {xs : List D} (h : ∀ x ∈ xs, Nc k n x) (hk : k ≤ 60) : eqD (.tup xs) (.tup []) = some xs.isEmpty := by
  have h1 : Nc (k + 1) (xs.length * (n + 2) + 3) (.tup xs) := nc_tup h (Nat.le_refl _)
  have h2 : Nc 1 (0 * (0 + 2) + 3) (.tup []) := nc_tup (k := 0) (n := 0) (m := 0) (fun x hx => nomatch hx) (Nat.le_refl _)
  obtain ⟨p, q, e1, e2, e3⟩ := eqD_nc h1 h2 (by omega) (by decide)
  rw [e3]
  have : q = .tuple [] := by
    have e : toPy (.tup []) = some (.tuple []) := rfl
    rw [e] at e2; cases e2; rfl
  subst this
  obtain ⟨ps, e4, e5, e6⟩ := nc_list h
  rw [toPy, e4] at e1
  cases e1
  cases xs with
  | nil => cases e4; rfl
  | cons x xs => cases ps with
    | nil => simp at e6
    | cons p ps => rfl
theorem vD_hour {v : Vis} : idxD (vD v) (.int 0) = some (.int v.hour) := rfl
theorem vD_now {v : Vis} : idxD (vD v) (.int 1) = some (oD v.now) := rfl
theorem vD_low {v : Vis} : idxD (vD v) (.int 2) = some (.int v.low) := rfl
theorem vD_high {v : Vis} : idxD (vD v) (.int 3) = some (.int v.high) := rfl
theorem vD_back {v : Vis} : idxD (vD v) (.int 4) = some (oD v.back) := rfl
theorem idxW_vD {v : Vis} {i : Int} : idxW W (vD v) (.int i) = idxD (vD v) (.int i) := rfl
theorem is_next_ok (H : TGau T gc) {pre : List Vis} {v : Vis} (h : VisOk (10 ^ 30) v) (hp : ∀ v ∈ pre, VisOk (10 ^ 30) v) (ha : ∀ u, pre.getLast? = some u → u.hour < v.hour) : callK T gc (k + 5) 9 [.tup (pre.map vD), vD v] W = some (.val (.bl true), W) := by
  refine Runs.eq (runs_call H.isnext rfl ?_)
  unfold F_is_next
  have e1 := eq_tup_nil (nc_visL hp) (by decide)
  have e2 := is_visit_ok (k := k) (W := W) H h
  have e3 := @vD_hour v
  walk_at "gos"
  cases hq : pre.getLast? with
  | none =>
    have : pre = [] := List.getLast?_eq_none_iff.mp hq
    subst this
    show brK true _ _
    walk_at "go"
  | some u =>
    have : pre.map vD ≠ [] := by intro q; rw [List.map_eq_nil_iff] at q; subst q; cases hq
    have e4 : (pre.map vD).isEmpty = false := by cases h : pre.map vD with | nil => exact absurd h this | cons _ _ => rfl
    have e5 : idxD (.tup (pre.map vD)) (.int (-1)) = some (vD u) := ati_neg1 (by rw [List.getLast?_map, hq]; rfl)
    have e6 := @vD_hour u
    have e7 := @idxW_vD W u 0
    have := ha u hq
    walk_at "gos"
theorem AscV.last {g : Int} : ∀ {pre : List Vis} {v u : Vis} {r : List Vis}, AscV g (pre ++ v :: r) → pre.getLast? = some u → u.hour < v.hour
  | [], _, _, _, _, h => by cases h
  | [x], v, u, r, h, e => by cases e; exact h.1.1
  | x :: y :: pre, v, u, r, h, e => by
    rw [List.getLast?_cons_cons] at e
    exact AscV.last (pre := y :: pre) h.2 e
theorem need_log_ok (H : TGau T gc) {vs : List Vis} {C g : Int} {m : Nat} (h : LogOk C g m vs) (hm : m ≤ 60) (hC : C ≤ 10 ^ 30) : callK T gc (k + 6) 10 [.tup (vs.map vD)] W = some (.val (.tup (vs.map vD)), W) := by
  have hv : ∀ v ∈ vs, VisOk (10 ^ 30) v := fun v hv => (h.vis v hv).more hC
  have hl := h.len
  have hl0 : 0 < vs.length := List.length_pos_iff.mpr h.ne
  refine Runs.eq (runs_call H.log rfl ?_)
  unfold F_need_log
  have g1 := H.g1
  walk_at "gos"
  refine brK_pos (by simp only [List.length_map]; omega) ?_
  walk_at "gos"
  refine brK_pos (by simp only [List.length_map]; omega) ?_
  walk_at "go"
  refine wp_loop (I := fun r s => ∃ (pre rest : List Vis) (d1 d2 : Sl), s = ⟨[.val (.tup (vs.map vD)), d1, d2], W⟩ ∧ vs = pre ++ rest ∧ r = enumL pre.length (rest.map vD)) ?_ ?_ ?_
  · exact ⟨[], vs, _, _, rfl, rfl, rfl⟩
  · rintro x r s - ⟨pre, rest, d1, d2, rfl, hvs, hr⟩
    cases rest with
    | nil => cases hr
    | cons v rest =>
    cases hr
    have c1 : cut (vs.map vD) none (some (pre.length : Int)) = pre.map vD := by
      rw [cut_to (by rw [List.length_map, hvs]; simp), hvs]; simp
    have en := is_next_ok (k := k) (W := W) (pre := pre) (v := v) H (hv v (by rw [hvs]; simp)) (fun u hu => hv u (by rw [hvs]; simp [hu])) (fun u hu => by have := h.asc; rw [hvs] at this; exact this.last hu)
    unfold F_need_log_b
    walk_at "go"
    rw [c1]
    walk_at "go"
    rw [en]
    walk_at "go"
    exact ⟨pre ++ [v], rest, _, _, rfl, by rw [hvs]; simp, by simp⟩
  · rintro s ⟨pre, rest, d1, d2, rfl, hvs, hr⟩
    walk_at "go"
end
end GP

set_option Elab.async false
set_option linter.all false
set_option maxRecDepth 100000
set_option autoImplicit false
set_option maxHeartbeats 4000000

namespace GP
open PySem PySem.Spec L2
section
variable {Γ : Ctx} {s : S} {Q : Sl → S → Prop} {P : Fl → S → Prop}
theorem wp_noExc {α : Type} {r : R α} {K : α → S → Prop} : wp (noExc r) K = wp r K := by
  cases r with
  | none => rfl
  | some p => obtain ⟨o, t⟩ := p; cases o <;> (unfold wp; with_unfolding_all rfl)
theorem wp_run {f : Nat} {ds : List D} {K : D → S → Prop} : wp (Γ.run f ds s) K = Runs (Γ.call f ds s.W) fun d W => K d ⟨s.ρ, W⟩ := by
  unfold Ctx.run
  cases Γ.call f ds s.W with
  | none => unfold wp; with_unfolding_all rfl
  | some p => obtain ⟨o, t⟩ := p; cases o <;> (unfold wp; with_unfolding_all rfl)
theorem wp_guard {α : Type} {b : Bool} {r : R α} {K : α → S → Prop} : wp (if b = true then r else none) K = (b = true ∧ wp r K) := by
  cases b
  · unfold wp; simp
  · simp
theorem wp_runv {f : Nat} {ds : List D} : wp (bnd (Γ.run f ds s) fun d s2 => okv (.val d) s2) Q = Runs (Γ.call f ds s.W) fun d W => Q (.val d) ⟨s.ρ, W⟩ := by
  rw [wp_bnd, wp_ext (Q' := fun d s2 => Q (.val d) s2) fun d s2 => wp_okv, wp_run]
theorem wO_fld {a : CE} {k : Str} : wp (evO Γ (.fld a k) s) Q = wp (frz (evO Γ a s)) fun x s1 => opS (fldW s1.W x k) fun d => Q (.val d) s1 := by
  rw [evO]; simp only [wp_bnd, wp_lft]; refine wp_ext fun x s1 => ?_; cases fldW s1.W x k <;> with_unfolding_all rfl
theorem wO_prop {f c : Nat} {k : Str} {a : CE} : wp (evO Γ (.prop f c k a) s) Q = wp (frz (evO Γ a s)) fun x s1 => isCls s1.W x c k = true ∧ Runs (Γ.call f [x] s1.W) fun d W => Q (.val d) ⟨s1.ρ, W⟩ := by
  rw [evO]; simp only [wp_bnd]; refine wp_ext fun x s1 => ?_; rw [wp_guard]; congr 1; rw [wp_bnd, wp_noExc, wp_ext (Q' := fun d s2 => Q (.val d) s2) fun d s2 => wp_okv, wp_run]
theorem wO_meth {f c : Nat} {k : Str} {a : CE} {es : List CE} {ds : List D} : wp (evO Γ (.meth f c k a es ds) s) Q = wp (frz (evO Γ a s)) fun x s1 => isCls s1.W x c k = true ∧ wp (evL Γ es s1) fun xs s2 => Runs (Γ.call f (x :: (xs ++ ds)) s2.W) fun d W => Q (.val d) ⟨s2.ρ, W⟩ := by
  rw [evO]; simp only [wp_bnd]; refine wp_ext fun x s1 => ?_; rw [wp_guard]; congr 1; rw [wp_bnd]; refine wp_ext fun xs s2 => ?_; rw [wp_runv]
theorem wO_make {f c : Nat} {es : List CE} : wp (evO Γ (.make f c es) s) Q = wp (evL Γ es s) fun xs s1 => Runs (Γ.call f (.obj s1.W.length :: xs) (s1.W ++ [.inst c []])) fun d W => isNonD d = true ∧ Q (.val (.obj s1.W.length)) ⟨s1.ρ, W⟩ := by
  rw [evO]; simp only [wp_bnd]; refine wp_ext fun xs s1 => ?_
  rw [wp_bnd, wp_ext (Q' := fun d s2 => isNonD d = true ∧ Q (.val (.obj s1.W.length)) s2) (fun d s2 => by unfold gotN; rw [wp_guard, wp_okv]), wp_run]
  rfl
theorem evSs_app {a b : List CS} : ∀ {t : S}, evSs Γ (a ++ b) t = bnd (evSs Γ a t) fun o s1 => match o with | .nx => evSs Γ b s1 | y => okv y s1 := by
  induction a with
  | nil => intro t; rw [evSs.eq_1]; rfl
  | cons c a ih =>
    intro t
    rw [List.cons_append, evSs.eq_2, evSs.eq_2]
    cases evS Γ c t with
    | none => rfl
    | some p =>
      obtain ⟨o, t1⟩ := p
      cases o with
      | exc x => rfl
      | val y => cases y with
        | nx => exact ih
        | ct => rfl
        | rt d => rfl
theorem wSs_app {a b : List CS} {t t1 : S} (h : evSs Γ a t = some (.val .nx, t1)) : wp (evSs Γ (a ++ b) t) P = wp (evSs Γ b t1) P := by rw [evSs_app, h, bnd_val]
end
section
variable {T : Nat → Option Fn} {gc : Nat → Option D} {k : Nat}
theorem begin_one (hT : T 0 = some F_begin) {ns : List Int} (h : ns.length ≤ 63) : ∃ d, callK T gc (k + 1) 0 [.lst (ns.map .int)] [] = some (.val (.obj 0), [d]) ∧ DrAt 0 100000 [d] := by
  refine ⟨drD ((ns ++ [0]).map .int) 0 0 0, ?_, ⟨ns ++ [0], 0, 0, 0, rfl, by simp, by simp; omega, by decide, by decide, by decide, by decide, by decide⟩⟩
  rw [callK_eq hT rfl]
  have z : sizeB (ns.length + 1) = true := sizeB_m (by omega)
  have z1 : sizeB 1 = true := sizeB_m (by decide)
  simp [F_begin, evSs, evS, evO, evL, S.put, Sl.fz, frz, okv, bnd, lft, fin, binD, addD, z, z1, newDict, drD]

theorem DrAt.tail {b : Nat} {d : WO} {W W' : List WO} (h : DrAt 0 b (d :: W)) : DrAt 0 b (d :: W') := by
  obtain ⟨cells, a, l, u, h1, h2⟩ := h
  exact ⟨cells, a, l, u, h1, h2⟩
theorem pick_one {b : Nat} {d : WO} {W : List WO} {xs : List D} {Q : D → List WO → Prop} (hT : T 1 = some F_next) (hT2 : T 2 = some F_pick) (hd : DrAt 0 (b + 1) (d :: W)) (h0 : 0 < xs.length) (h1 : xs.length ≤ 1000000)
    (K : ∀ x d', x ∈ xs → DrAt 0 b (d' :: W) → Q x (d' :: W)) : Runs (callK T gc (k + 2) 2 [.obj 0, .lst xs] (d :: W)) Q := by
  refine pick_run (b := b + 1) hT hT2 ⟨hd, .refl⟩ (by omega) h0 h1 fun x W' hx hW => ?_
  obtain ⟨e1, e2⟩ := hW.same
  have hlen : W'.length = W.length + 1 := by rw [e1]; rfl
  cases W' with
  | nil => cases hlen
  | cons d' W2 =>
    have : W2 = W := by
      apply List.ext_getElem?
      intro i
      have := e2 (i + 1) (by omega)
      simpa using this
    subst this
    exact K x d' hx hW.at_
end
end GP

namespace GP.k16
open PySem PySem.Spec L2

-- CUT
def r0 : WO := .inst 3 [("own_gauge", (.tup [(.int (2)), (.int (3))])), ("visits", (.tup [])), ("coming", (.tup []))]
def r1 : WO := .inst 3 [("own_gauge", (.tup [(.int (2)), (.int (3))])), ("visits", (.tup [(.tup [(.tup [(.int (0)), (.int (5)), (.int (0)), (.int (9)), .non]), (.tup [(.tup [(.int (5)), (.int (5))])])])])), ("coming", (.tup []))]
def r2 : WO := .inst 3 [("own_gauge", (.tup [(.int (2)), (.int (3))])), ("visits", (.tup [(.tup [(.tup [(.int (0)), (.int (5)), (.int (0)), (.int (9)), .non]), (.tup [(.tup [(.int (5)), (.int (5))])])]), (.tup [(.tup [(.int (2)), (.int (6)), (.int (5)), (.int (6)), .non]), (.tup [(.tup [(.int (6)), (.int (6))])])])])), ("coming", (.tup []))]
def r3 : WO := .inst 3 [("own_gauge", (.tup [(.int (2)), (.int (3))])), ("visits", (.tup [(.tup [(.tup [(.int (0)), (.int (5)), (.int (0)), (.int (9)), .non]), (.tup [(.tup [(.int (5)), (.int (5))])])]), (.tup [(.tup [(.int (2)), (.int (6)), (.int (5)), (.int (6)), .non]), (.tup [(.tup [(.int (6)), (.int (6))])])]), (.tup [(.tup [(.int (4)), (.int (6)), (.int (5)), (.int (6)), .non]), (.tup [(.tup [(.int (6)), (.int (6))])])])])), ("coming", (.tup []))]
def r4 : WO := .inst 3 [("own_gauge", (.tup [(.int (2)), (.int (3))])), ("visits", (.tup [(.tup [(.tup [(.int (0)), (.int (5)), (.int (0)), (.int (9)), .non]), (.tup [(.tup [(.int (5)), (.int (5))])])]), (.tup [(.tup [(.int (2)), (.int (6)), (.int (5)), (.int (6)), .non]), (.tup [(.tup [(.int (6)), (.int (6))])])]), (.tup [(.tup [(.int (4)), (.int (6)), (.int (5)), (.int (6)), .non]), (.tup [(.tup [(.int (6)), (.int (6))])])]), (.tup [(.tup [(.int (8)), (.int (6)), (.int (4)), (.int (8)), (.int (0))]), (.tup [(.tup [(.int (6)), (.int (6))])])])])), ("coming", (.tup []))]
def r5 : WO := .inst 3 [("own_gauge", (.tup [(.int (2)), (.int (3))])), ("visits", (.tup [(.tup [(.tup [(.int (0)), (.int (5)), (.int (0)), (.int (9)), .non]), (.tup [(.tup [(.int (5)), (.int (5))])])]), (.tup [(.tup [(.int (2)), (.int (6)), (.int (5)), (.int (6)), .non]), (.tup [(.tup [(.int (6)), (.int (6))])])]), (.tup [(.tup [(.int (4)), (.int (6)), (.int (5)), (.int (6)), .non]), (.tup [(.tup [(.int (6)), (.int (6))])])])])), ("coming", (.tup [(.tup [(.tup [(.int (8)), (.int (6)), (.int (4)), (.int (8)), (.int (0))]), (.tup [(.tup [(.int (6)), (.int (6))])])])]))]
def r6 : WO := .inst 3 [("own_gauge", (.tup [(.int (2)), (.int (3))])), ("visits", (.tup [(.tup [(.tup [(.int (0)), (.int (5)), (.int (0)), (.int (9)), .non]), (.tup [(.tup [(.int (5)), (.int (5))])])]), (.tup [(.tup [(.int (2)), (.int (6)), (.int (5)), (.int (6)), .non]), (.tup [(.tup [(.int (6)), (.int (6))])])])])), ("coming", (.tup [(.tup [(.tup [(.int (4)), (.int (6)), (.int (5)), (.int (6)), .non]), (.tup [(.tup [(.int (6)), (.int (6))])])]), (.tup [(.tup [(.int (8)), (.int (6)), (.int (4)), (.int (8)), (.int (0))]), (.tup [(.tup [(.int (6)), (.int (6))])])])]))]
def r7 : WO := .inst 3 [("own_gauge", (.tup [(.int (2)), (.int (3))])), ("visits", (.tup [(.tup [(.tup [(.int (0)), (.int (5)), (.int (0)), (.int (9)), .non]), (.tup [(.tup [(.int (5)), (.int (5))])])]), (.tup [(.tup [(.int (2)), (.int (6)), (.int (5)), (.int (6)), .non]), (.tup [(.tup [(.int (6)), (.int (6))])])]), (.tup [(.tup [(.int (4)), (.int (6)), (.int (5)), (.int (6)), .non]), (.tup [(.tup [(.int (6)), (.int (6))])])]), (.tup [(.tup [(.int (8)), (.int (6)), (.int (4)), (.int (8)), (.int (0))]), (.tup [(.tup [(.int (6)), (.int (6))])])]), (.tup [(.tup [(.int (9)), .non, (.int (0)), (.int (8)), (.int (1))]), (.tup [])])])), ("coming", (.tup []))]
def r8 : WO := .inst 3 [("own_gauge", (.tup [(.int (2)), (.int (3))])), ("visits", (.tup [(.tup [(.tup [(.int (0)), (.int (5)), (.int (0)), (.int (9)), .non]), (.tup [(.tup [(.int (5)), (.int (5))])])]), (.tup [(.tup [(.int (2)), (.int (6)), (.int (5)), (.int (6)), .non]), (.tup [(.tup [(.int (6)), (.int (6))])])]), (.tup [(.tup [(.int (4)), (.int (6)), (.int (5)), (.int (6)), .non]), (.tup [(.tup [(.int (6)), (.int (6))])])]), (.tup [(.tup [(.int (8)), (.int (6)), (.int (4)), (.int (8)), (.int (0))]), (.tup [(.tup [(.int (6)), (.int (6))])])])])), ("coming", (.tup [(.tup [(.tup [(.int (9)), .non, (.int (0)), (.int (8)), (.int (1))]), (.tup [])])]))]
def desk : WO := .inst 7 [("own_pad", .obj 2)]
def logW : WO → D
  | .inst _ [_, (_, .tup vs), _] => .tup (vs.map fun | .tup (v :: _) => v | d => d)
  | _ => .non
abbrev TT : Nat → Option Fn := tabT (tabOf ts)
abbrev GG : Nat → Option D := gcOf cs
def odds : List D := [.non, .str "", .str "visit", .str "visit 1", .str "level x", .str "keeps", .str "stands 9", .str "span 1", .str "sure 9", .int 5, .lst [.str "backs"], .str " backs", .str "backs "]
def OddOk (r : WO) : Prop := ∀ d : WO, odds.map (fun o => callK TT GG 59 137 [.obj 1, o] [d, desk, r]) = odds.map fun _ => some (.val (.str "no"), [d, desk, r])
def LogOk (r : WO) : Prop := (∀ d : WO, callK TT GG 59 128 [.obj 2] [d, desk, r] = some (.val (logW r), [d, desk, r])) ∧ eqD (logW r) (logW r) = some true ∧ ∀ d : WO, isCls [d, desk, r] (.obj 2) 3 "log" = true
def SayOk (r : WO) (l x : Str) (r1 : WO) : Prop := (∀ d : WO, callK TT GG 59 137 [.obj 1, .str l] [d, desk, r] = some (.val (.str x), [d, desk, r1])) ∧ ∃ z, reprD [.str x] = some (.val (.str z)) ∧ eqD (.str z) (.str z) = some true
theorem odd0 : OddOk r0 := fun d => by kernel_rfl
theorem log0 : LogOk r0 := ⟨fun d => by kernel_rfl, by kernel_rfl, fun d => rfl⟩
theorem odd1 : OddOk r1 := fun d => by kernel_rfl
theorem log1 : LogOk r1 := ⟨fun d => by kernel_rfl, by kernel_rfl, fun d => rfl⟩
theorem odd2 : OddOk r2 := fun d => by kernel_rfl
theorem log2 : LogOk r2 := ⟨fun d => by kernel_rfl, by kernel_rfl, fun d => rfl⟩
theorem odd3 : OddOk r3 := fun d => by kernel_rfl
theorem log3 : LogOk r3 := ⟨fun d => by kernel_rfl, by kernel_rfl, fun d => rfl⟩
theorem odd4 : OddOk r4 := fun d => by kernel_rfl
theorem log4 : LogOk r4 := ⟨fun d => by kernel_rfl, by kernel_rfl, fun d => rfl⟩
theorem odd5 : OddOk r5 := fun d => by kernel_rfl
theorem log5 : LogOk r5 := ⟨fun d => by kernel_rfl, by kernel_rfl, fun d => rfl⟩
theorem odd6 : OddOk r6 := fun d => by kernel_rfl
theorem log6 : LogOk r6 := ⟨fun d => by kernel_rfl, by kernel_rfl, fun d => rfl⟩
theorem odd7 : OddOk r7 := fun d => by kernel_rfl
theorem log7 : LogOk r7 := ⟨fun d => by kernel_rfl, by kernel_rfl, fun d => rfl⟩
theorem odd8 : OddOk r8 := fun d => by kernel_rfl
theorem log8 : LogOk r8 := ⟨fun d => by kernel_rfl, by kernel_rfl, fun d => rfl⟩
theorem say0 : SayOk r0 "undo" "nothing" r0 := ⟨fun d => by kernel_rfl, (PyData.str "nothing").shown, by kernel_rfl, by kernel_rfl⟩
theorem say1 : SayOk r0 "visit 0 5 0 9 -" "5..5" r1 := ⟨fun d => by kernel_rfl, (PyData.str "5..5").shown, by kernel_rfl, by kernel_rfl⟩
theorem say2 : SayOk r1 "backs" "0" r1 := ⟨fun d => by kernel_rfl, (PyData.str "0").shown, by kernel_rfl, by kernel_rfl⟩
theorem say3 : SayOk r1 "fault" "none" r1 := ⟨fun d => by kernel_rfl, (PyData.str "none").shown, by kernel_rfl, by kernel_rfl⟩
theorem say4 : SayOk r1 "visit 2 6 5 6 -" "6..6" r2 := ⟨fun d => by kernel_rfl, (PyData.str "6..6").shown, by kernel_rfl, by kernel_rfl⟩
theorem say5 : SayOk r2 "backs" "1" r2 := ⟨fun d => by kernel_rfl, (PyData.str "1").shown, by kernel_rfl, by kernel_rfl⟩
theorem say6 : SayOk r2 "sure 0" "1" r2 := ⟨fun d => by kernel_rfl, (PyData.str "1").shown, by kernel_rfl, by kernel_rfl⟩
theorem say7 : SayOk r2 "level 1" "5..6" r2 := ⟨fun d => by kernel_rfl, (PyData.str "5..6").shown, by kernel_rfl, by kernel_rfl⟩
theorem say8 : SayOk r2 "span 1 low" "0 1" r2 := ⟨fun d => by kernel_rfl, (PyData.str "0 1").shown, by kernel_rfl, by kernel_rfl⟩
theorem say9 : SayOk r2 "span 1 high" "1 2" r2 := ⟨fun d => by kernel_rfl, (PyData.str "1 2").shown, by kernel_rfl, by kernel_rfl⟩
theorem say10 : SayOk r2 "visit 4 6 5 6 -" "6..6" r3 := ⟨fun d => by kernel_rfl, (PyData.str "6..6").shown, by kernel_rfl, by kernel_rfl⟩
theorem say11 : SayOk r3 "sure 1" "open" r3 := ⟨fun d => by kernel_rfl, (PyData.str "open").shown, by kernel_rfl, by kernel_rfl⟩
theorem say12 : SayOk r3 "visit 8 6 4 8 0" "6..6" r4 := ⟨fun d => by kernel_rfl, (PyData.str "6..6").shown, by kernel_rfl, by kernel_rfl⟩
theorem say13 : SayOk r4 "backs" "1 2 3" r4 := ⟨fun d => by kernel_rfl, (PyData.str "1 2 3").shown, by kernel_rfl, by kernel_rfl⟩
theorem say14 : SayOk r4 "level 5" "4..4 8..8" r4 := ⟨fun d => by kernel_rfl, (PyData.str "4..4 8..8").shown, by kernel_rfl, by kernel_rfl⟩
theorem say15 : SayOk r4 "level 6" "5..7" r4 := ⟨fun d => by kernel_rfl, (PyData.str "5..7").shown, by kernel_rfl, by kernel_rfl⟩
theorem say16 : SayOk r4 "level 7" "4..4 8..8" r4 := ⟨fun d => by kernel_rfl, (PyData.str "4..4 8..8").shown, by kernel_rfl, by kernel_rfl⟩
theorem say17 : SayOk r4 "span 3 low" "5 7" r4 := ⟨fun d => by kernel_rfl, (PyData.str "5 7").shown, by kernel_rfl, by kernel_rfl⟩
theorem say18 : SayOk r4 "span 3 high" "5 7" r4 := ⟨fun d => by kernel_rfl, (PyData.str "5 7").shown, by kernel_rfl, by kernel_rfl⟩
theorem say19 : SayOk r4 "undo" "done" r5 := ⟨fun d => by kernel_rfl, (PyData.str "done").shown, by kernel_rfl, by kernel_rfl⟩
theorem say20 : SayOk r5 "undo" "done" r6 := ⟨fun d => by kernel_rfl, (PyData.str "done").shown, by kernel_rfl, by kernel_rfl⟩
theorem say21 : SayOk r6 "redo" "done" r5 := ⟨fun d => by kernel_rfl, (PyData.str "done").shown, by kernel_rfl, by kernel_rfl⟩
theorem say22 : SayOk r5 "stands 2" "6..6" r5 := ⟨fun d => by kernel_rfl, (PyData.str "6..6").shown, by kernel_rfl, by kernel_rfl⟩
theorem say23 : SayOk r5 "redo" "done" r4 := ⟨fun d => by kernel_rfl, (PyData.str "done").shown, by kernel_rfl, by kernel_rfl⟩
theorem say24 : SayOk r4 "redo" "nothing" r4 := ⟨fun d => by kernel_rfl, (PyData.str "nothing").shown, by kernel_rfl, by kernel_rfl⟩
theorem say25 : SayOk r4 "visit 9 - 0 8 1" "none" r7 := ⟨fun d => by kernel_rfl, (PyData.str "none").shown, by kernel_rfl, by kernel_rfl⟩
theorem say26 : SayOk r7 "fault" "5" r7 := ⟨fun d => by kernel_rfl, (PyData.str "5").shown, by kernel_rfl, by kernel_rfl⟩
theorem say27 : SayOk r7 "backs" "none" r7 := ⟨fun d => by kernel_rfl, (PyData.str "none").shown, by kernel_rfl, by kernel_rfl⟩
theorem say28 : SayOk r7 "stands 0" "none" r7 := ⟨fun d => by kernel_rfl, (PyData.str "none").shown, by kernel_rfl, by kernel_rfl⟩
theorem say29 : SayOk r7 "undo" "done" r8 := ⟨fun d => by kernel_rfl, (PyData.str "done").shown, by kernel_rfl, by kernel_rfl⟩
theorem say30 : SayOk r8 "stands 0" "5..5" r8 := ⟨fun d => by kernel_rfl, (PyData.str "5..5").shown, by kernel_rfl, by kernel_rfl⟩
theorem say31 : SayOk r8 "visit 8 6 4 8 0" "no" r8 := ⟨fun d => by kernel_rfl, (PyData.str "no").shown, by kernel_rfl, by kernel_rfl⟩
theorem say32 : SayOk r8 "level 9" "no" r8 := ⟨fun d => by kernel_rfl, (PyData.str "no").shown, by kernel_rfl, by kernel_rfl⟩
inductive Chain : WO → List (Str × Str) → Prop
  | nil : Chain r8 []
  | cons {r r1 : WO} {l x : Str} {t : List (Str × Str)} : OddOk r → LogOk r → SayOk r l x r1 → Chain r1 t → Chain r ((l, x) :: t)
def rowsL : List (Str × Str) := [(Str.ofString "undo", Str.ofString "nothing"), (Str.ofString "visit 0 5 0 9 -", Str.ofString "5..5"), (Str.ofString "backs", Str.ofString "0"), (Str.ofString "fault", Str.ofString "none"), (Str.ofString "visit 2 6 5 6 -", Str.ofString "6..6"), (Str.ofString "backs", Str.ofString "1"), (Str.ofString "sure 0", Str.ofString "1"), (Str.ofString "level 1", Str.ofString "5..6"), (Str.ofString "span 1 low", Str.ofString "0 1"), (Str.ofString "span 1 high", Str.ofString "1 2"), (Str.ofString "visit 4 6 5 6 -", Str.ofString "6..6"), (Str.ofString "sure 1", Str.ofString "open"), (Str.ofString "visit 8 6 4 8 0", Str.ofString "6..6"), (Str.ofString "backs", Str.ofString "1 2 3"), (Str.ofString "level 5", Str.ofString "4..4 8..8"), (Str.ofString "level 6", Str.ofString "5..7"), (Str.ofString "level 7", Str.ofString "4..4 8..8"), (Str.ofString "span 3 low", Str.ofString "5 7"), (Str.ofString "span 3 high", Str.ofString "5 7"), (Str.ofString "undo", Str.ofString "done"), (Str.ofString "undo", Str.ofString "done"), (Str.ofString "redo", Str.ofString "done"), (Str.ofString "stands 2", Str.ofString "6..6"), (Str.ofString "redo", Str.ofString "done"), (Str.ofString "redo", Str.ofString "nothing"), (Str.ofString "visit 9 - 0 8 1", Str.ofString "none"), (Str.ofString "fault", Str.ofString "5"), (Str.ofString "backs", Str.ofString "none"), (Str.ofString "stands 0", Str.ofString "none"), (Str.ofString "undo", Str.ofString "done"), (Str.ofString "stands 0", Str.ofString "5..5"), (Str.ofString "visit 8 6 4 8 0", Str.ofString "no"), (Str.ofString "level 9", Str.ofString "no")]
theorem chain : Chain r0 rowsL := .cons odd0 log0 say0 (.cons odd0 log0 say1 (.cons odd1 log1 say2 (.cons odd1 log1 say3 (.cons odd1 log1 say4 (.cons odd2 log2 say5 (.cons odd2 log2 say6 (.cons odd2 log2 say7 (.cons odd2 log2 say8 (.cons odd2 log2 say9 (.cons odd2 log2 say10 (.cons odd3 log3 say11 (.cons odd3 log3 say12 (.cons odd4 log4 say13 (.cons odd4 log4 say14 (.cons odd4 log4 say15 (.cons odd4 log4 say16 (.cons odd4 log4 say17 (.cons odd4 log4 say18 (.cons odd4 log4 say19 (.cons odd5 log5 say20 (.cons odd6 log6 say21 (.cons odd5 log5 say22 (.cons odd5 log5 say23 (.cons odd4 log4 say24 (.cons odd4 log4 say25 (.cons odd7 log7 say26 (.cons odd7 log7 say27 (.cons odd7 log7 say28 (.cons odd7 log7 say29 (.cons odd8 log8 say30 (.cons odd8 log8 say31 (.cons odd8 log8 say32 (.nil)))))))))))))))))))))))))))))))))
def item (p : Str × Str) : D := .tup [.str p.1, .str p.2]
def F_a : List CS := f_law.body.take 2
def F_b : List CS := (f_law.body.drop 2).take 14
def B_c : List CS := [.set 7 (.prop 128 3 "log" (.prop 134 7 "record" (.var 2))), .ite (.or (.val (.cmp .ne (.meth 137 7 "say" (.var 2) [(.call 2 [(.var 1), (.var 4)])] []) (.con (.str "no")))) (.val (.cmp .ne (.prop 128 3 "log" (.prop 134 7 "record" (.var 2))) (.var 7)))) [.ret (.con (.bl false))] [], .ite (.val (.cmp .ne (.blt .repr [(.meth 137 7 "say" (.var 2) [(.var 5)] [])]) (.blt .repr [(.var 6)]))) [.ret (.con (.bl false))] []]
def I_c : CI := .seq (.bin .add (.var 3) (.lst [(.tup [(.con (.str "stands 0")), (.con (.str "5..5"))]), (.tup [(.con (.str "visit 8 6 4 8 0")), (.con (.str "no"))]), (.tup [(.con (.str "level 9")), (.con (.str "no"))])]))
def F_c : List CS := [.for_ (.tp [5, 6]) I_c B_c, .ret (.cmp .eq (.prop 129 3 "now" (.prop 134 7 "record" (.var 2))) (.tup [(.tup [(.con (.int 6)), (.con (.int 6))])]))]
theorem law_split : f_law.body = F_a ++ (F_b ++ F_c) := by rfl
theorem made (d : WO) : callK TT GG 59 133 [.obj 1, .tup [.int 2, .int 3]] [d, .inst 7 []] = some (.val .non, [d, desk, r0]) := by kernel_rfl
theorem rec_ (d r : WO) : callK TT GG 59 134 [.obj 1] [d, desk, r] = some (.val (.obj 2), [d, desk, r]) := by kernel_rfl
theorem now_ (d : WO) : callK TT GG 59 129 [.obj 2] [d, desk, r8] = some (.val (.tup [.tup [.int 6, .int 6]]), [d, desk, r8]) := by kernel_rfl
theorem mids (v : Sl) (W : List WO) : evSs ⟨callK TT GG 59, GG⟩ F_b ⟨[v, .val (.obj 0), .val (.obj 1), .emp, .emp, .emp, .emp, .emp], W⟩ =
    some (.val .nx, ⟨[v, .val (.obj 0), .val (.obj 1), .own ((rowsL.take 30).map item), .own odds, .emp, .emp, .emp], W⟩) := by kernel_rfl
theorem its (v : Sl) (W : List WO) : evI ⟨callK TT GG 59, GG⟩ I_c ⟨[v, .val (.obj 0), .val (.obj 1), .own ((rowsL.take 30).map item), .own odds, .emp, .emp, .emp], W⟩ =
    some (.val (rowsL.map item), ⟨[v, .val (.obj 0), .val (.obj 1), .val (.lst ((rowsL.take 30).map item)), .own odds, .emp, .emp, .emp], W⟩) := by kernel_rfl
theorem odd_of {r d : WO} {o : D} (h : OddOk r) (ho : o ∈ odds) : callK TT GG 59 137 [.obj 1, o] [d, desk, r] = some (.val (.str "no"), [d, desk, r]) := map_eq (h d) o ho
theorem fst_of (w : List WO) (v : Sl) (x : D) (d0 : WO) (hb : callK TT GG 59 0 [x] [] = some (.val (.obj 0), [d0])) : evSs ⟨callK TT GG 59, GG⟩ F_a ⟨[.val x, .emp, .emp, .emp, .emp, .emp, .emp, .emp], []⟩ =
    some (.val .nx, ⟨[.val x, .val (.obj 0), .val (.obj 1), .emp, .emp, .emp, .emp, .emp], [d0, desk, r0]⟩) := by
  show evSs _ [.set 1 (.call 0 [(.var 0)]), .set 2 (.make 133 7 [(.tup [(.con (.int 2)), (.con (.int 3))])])] _ = _
  have z2 : sizeB 2 = true := sizeB_m (by decide)
  have hm := made d0
  simp [evSs, evS, evO, evL, Ctx.run, hb, hm, frz, Sl.fz, S.put, okv, bnd, lft, newI, gotN, isNonD, z2]
theorem sizeN {n : Nat} (h : n ≤ 1000) : sizeB n = true := sizeB_m (by omega)

local macro_rules | `(tactic| walk_at "go") => `(tactic| try simp only [↓wp_okv, ↓wp_some, ↓wp_bnd, ↓wp_lft, ↓wp_frz, ↓wO_var, ↓wO_con, ↓wO_glob, ↓wO_bin, ↓wO_neg, ↓wO_notv, ↓wO_andv, ↓wO_orv, ↓wO_cmp, ↓wO_isN, ↓wO_isnN, ↓wO_chain, ↓wO_ite, ↓wO_tup, ↓wO_tups, ↓wO_lst, ↓wO_dnew, ↓wO_knew, ↓wO_rlist, ↓wO_rtup, ↓wO_dint, ↓wO_bisin, ↓wO_bget, ↓wO_idx, ↓wO_bidx, ↓wO_bemp, ↓wO_slc, ↓wO_rev, ↓wO_call, ↓wO_callk, ↓wO_blt, ↓wO_isi, ↓wO_mth, ↓wO_comp, ↓wL_nil, ↓wL_cons, ↓wP_none, ↓wP_some, ↓wC_none, ↓wC_some, ↓wT_val, ↓wT_not, ↓wT_and, ↓wT_or, ↓wI_seq, ↓wI_rng1, ↓wI_rng2, ↓wI_rng3, ↓wI_enm, ↓wI_zip, ↓wI_zip3, ↓wOs_nil, ↓wOs_cons, ↓wS_set, ↓wS_unp, ↓wS_par, ↓wS_sub, ↓wS_aug, ↓wS_app, ↓wS_ext, ↓wS_expr, ↓wS_ret, ↓wS_retN, ↓wS_ite, ↓wS_for, ↓wS_whl, ↓wS_cont, ↓wS_pass, ↓wSs_nil, ↓wSs_cons, ↓wF_turn, ctK_nx, ctK_ct, ctK_rt, ↓wR_turn, ↓put_mk, opS_some, opS_ite, rdS_val, rdS_own, rdS_ownd, lsS_own, dgS_ownd, ownDB, bxS_own, bxS_val, beS_own, beS_val, auS_int, brK_true, brK_false, brK_not, brK_and, brK_or, nxK_nx, nxK_ct, nxK_rt, runs_some, List.getElem?_cons_zero, List.getElem?_cons_succ, List.set_cons_zero, List.set_cons_succ, List.length_cons, List.length_nil, List.map_cons, List.map_nil, List.replicate, List.cons_append, List.nil_append, List.all_cons, List.all_nil, Option.getD_some, Nat.reduceSub, Nat.reduceAdd, Nat.reduceLeDiff, true_and, and_true, Bool.and_true, Bool.true_and, Bool.not_true, Bool.not_false, setL, setO, bindG, wipeS, restore, isSet, ownL, appS, extS, isData, binD, addD, subD, mulD, fdivD, modD, cmpD, ltD, leD, eqD_int, blO, intO, walkOf, itemsOf, tupO, bltD, lenD, sizeB_m, Option.map_some, reduceCtorEq, if_true, if_false, tupleD, listD, min2D, max2D, pw_nn, idx_tu, idx_li, slcD, kwPut, isNonD, isiD, mthD, mthPre, decide_true, decide_false, not_true_eq_false, not_false_eq_true, Bool.and_false, Bool.false_and, and_false, false_and, or_false, false_or, or_true, true_or, and_self])
theorem turn_ok {v0 v3 x4 x5 x6 x7 : Sl} {d w w1 : WO} {l x : Str} {b : Nat} (o1 : OddOk w) (o2 : LogOk w) (o3 : SayOk w l x w1) (h4 : x4 = .own odds ∨ x4 = .val (.lst odds)) (hd : DrAt 0 (b + 1) [d, desk, w]) :
    wp (turnF (.tp [5, 6]) (evSs ⟨callK TT GG 59, GG⟩ B_c) (item (l, x)) ⟨[v0, .val (.obj 0), .val (.obj 1), v3, x4, x5, x6, x7], [d, desk, w]⟩) fun o s => o = .nx ∧ ∃ d' y5 y6 y7, s = ⟨[v0, .val (.obj 0), .val (.obj 1), v3, .val (.lst odds), y5, y6, y7], [d', desk, w1]⟩ ∧ DrAt 0 b [d', desk, w1] := by
  obtain ⟨g1, g2, g3⟩ := o2
  obtain ⟨s1, z, s2, s3⟩ := o3
  have e0 : eqD (.str "no") (.str "no") = some true := by kernel_rfl
  have c1 : ∀ d, isCls [d, desk, w] (.obj 1) 7 "record" = true := fun d => rfl
  have c2 : ∀ d, isCls [d, desk, w] (.obj 1) 7 "say" = true := fun d => rfl
  unfold item B_c
  walk_at "go"
  rw [wO_prop, wp_frz, wO_prop]
  walk_at "go"
  refine ⟨c1 _, ?_⟩
  rw [rec_]
  walk_at "go"
  refine ⟨g3 _, ?_⟩
  rw [g1]
  walk_at "go"
  rw [wO_meth]
  walk_at "go"
  refine ⟨c2 _, ?_⟩
  have key : ∀ s4 : Sl, s4 = .val (.lst odds) → True := fun _ _ => trivial
  rcases h4 with rfl | rfl
  all_goals
    walk_at "go"
    refine pick_one (k := 57) rfl rfl hd (by decide) (by decide) fun o d' ho hd' => ?_
    walk_at "go"
    rw [odd_of o1 ho]
    walk_at "go"
    rw [e0]
    walk_at "go"
    rw [wO_prop, wp_frz, wO_prop]
    walk_at "go"
    refine ⟨c1 _, ?_⟩
    rw [rec_]
    walk_at "go"
    refine ⟨g3 _, ?_⟩
    rw [g1]
    walk_at "go"
    rw [g2]
    walk_at "go"
    rw [wO_meth]
    walk_at "go"
    refine ⟨c2 _, ?_⟩
    rw [s1]
    walk_at "go"
    rw [s2]
    walk_at "go"
    rw [s2]
    walk_at "go"
    rw [s3]
    walk_at "go"
    exact ⟨d', _, _, _, rfl, hd'.tail⟩
theorem law16 {ns : List Int} (h : ns.length ≤ 63) : ∃ W, callK TT GG 60 32 [.lst (ns.map .int)] [] = some (.val (.bl true), W) := by
  obtain ⟨d0, hb, hd0⟩ := begin_one (T := TT) (gc := GG) (k := 58) rfl h
  have e6 : eqD (.tup [.tup [.int 6, .int 6]]) (.tup [.tup [.int 6, .int 6]]) = some true := by kernel_rfl
  have z1 : sizeB 1 = true := sizeB_m (by decide)
  have z2 : sizeB 2 = true := sizeB_m (by decide)
  have run : Runs (callK TT GG (59 + 1) 32 [.lst (ns.map .int)] []) fun d _ => d = .bl true := by
    refine runs_call (F := f_law) rfl rfl ?_
    rw [law_split]
    show wp (evSs ⟨callK TT GG 59, GG⟩ (F_a ++ (F_b ++ F_c)) ⟨[.val (.lst (ns.map .int)), .emp, .emp, .emp, .emp, .emp, .emp, .emp], []⟩) _
    rw [wSs_app (fst_of [] .emp _ d0 hb), wSs_app (mids _ _)]
    unfold F_c
    rw [wSs_cons, wS_for, its, wp_some]
    refine wp_loop (I := fun r s => ∃ (t : List (Str × Str)) (w d : WO) (v3 x4 x5 x6 x7 : Sl), r = t.map item ∧ Chain w t ∧ (x4 = .own odds ∨ x4 = .val (.lst odds)) ∧ DrAt 0 (t.length + 1) [d, desk, w] ∧ s = ⟨[.val (.lst (ns.map .int)), .val (.obj 0), .val (.obj 1), v3, x4, x5, x6, x7], [d, desk, w]⟩) ?_ ?_ ?_
    · exact ⟨rowsL, r0, d0, _, _, _, _, _, rfl, chain, .inl rfl, (hd0.less (by decide)).tail, rfl⟩
    · rintro x r s - ⟨t, w, d, v3, x4, x5, x6, x7, ht, hc, h4, hd, rfl⟩
      cases hc with
      | nil => cases ht
      | @cons _ w1 l y t o1 o2 o3 hc =>
        rw [List.map_cons, List.cons.injEq] at ht
        obtain ⟨rfl, rfl⟩ := ht
        refine wp_mono (turn_ok o1 o2 o3 h4 hd) fun o s' ⟨ho, d', y5, y6, y7, hs, hd'⟩ => ?_
        subst ho
        exact ⟨t, w1, d', v3, _, y5, y6, y7, rfl, hc, .inr rfl, hd', hs⟩
    · rintro s ⟨t, w, d, v3, x4, x5, x6, x7, ht, hc, h4, hd, rfl⟩
      cases hc with
      | cons _ _ _ _ => cases ht
      | nil =>
        walk_at "go"
        rw [wO_prop, wp_frz, wO_prop]
        walk_at "go"
        refine ⟨rfl, ?_⟩
        rw [rec_]
        walk_at "go"
        refine ⟨rfl, ?_⟩
        rw [now_]
        walk_at "go"
        rw [e6]
        walk_at "go"
  obtain ⟨d, W, e, rfl⟩ := run.ex
  exact ⟨W, e⟩
end GP.k16
theorem PySem.Challenge.cw_gaugemarks_k16_desks_by_hand_holds : PySem.Challenge.rw_gaugemarks_k16_desks_by_hand.Holds :=
  GP.k16.holds_of fun ns h => GP.k16.law16 h
